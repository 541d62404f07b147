import PyProof.Rows.All
import Wide.All
import OpenK.AllK
import Wide.FinOn
import KE.KStateDown
import HandS.Head2
import HandS.HeadHook2
import HandS.HeadHook3
import HandS.ForMost
import HandS.ForExc
import HandS.Style
import HandS.HeadHook1
import HandS.SortInts
import HandS.Dict
import HandS.More
import HandS.Conv
import HandS.TupLe
import HandS.IsInst
import HandS.Rev
import HandS.Flow
import HandS.TupAny
import HandS.SortRule
import HandS.ExcOwn
import HandS.TryMany
import HandS.ExcIs
import HandS.WordsExc
import HandS.CallSlots
import HandS.DictComp
import HandS.Strs
import HandS.Deep
import HandS.SortKw
import HandS.Head0
import HandS.Head1
import HandS.HeadEnd
import HandS.Defaults
import PySem.Challenge.RW_quirebound_k50_layers_that_a_thread_hold
set_option Elab.async false
set_option linter.all false
set_option maxRecDepth 100000
set_option maxHeartbeats 4000000
/-! VR: what the head looks at, and the run of the top in pieces -/
namespace VL
open PySem PySem.Spec PyProof.Rows L2
def excB (K : PySem.W.Frag) (D : Addr) : Bool :=
  He.eqO (PySem.W.findIn K (.ref D) "__getattribute__") (some (some (.builtin "BaseException.__getattribute__"))) && (He.eqO (PySem.W.findIn K (.ref D) "__getattr__") (some none) &&
  (decide (PySem.W.subIn K (.ref D) (.type "BaseException") = some true) && (PySem.W.hasDictIn K D && (He.eqO (PySem.W.findIn K (.ref D) "__class__") (some (some (.builtin "object.__class__"))) &&
  (He.eqO (PySem.W.specialIn K (.builtin "object.__class__") "__get__") (some (some (.builtin "getset_descriptor.__get__"))) && (decide (PySem.W.takesIn K (.builtin "object.__class__") = some true) && decide (PySem.W.mroIn K D (.type "object") = some true)))))))
def subB (K : PySem.W.Frag) (t : Str × Str × Bool) : Bool :=
  decide (PySem.W.exmOne K (.ref (He.ga K t.1)) (.ref (He.ga K t.2.1)) = some t.2.2) && decide (PySem.W.kitOne K (.ref (He.ga K t.1)) (.ref (He.ga K t.2.1)) = some t.2.2)
def hasB (K : PySem.W.Frag) (x : Str) : Bool := excB K (He.ga K x) && decide (PySem.W.kitOne K (.ref (He.ga K x)) (.type "ValueError") = some true)
def kepB (K : PySem.W.Frag) (x : Str) : Bool := match K.lookup (He.ga K x) with
  | some o => decide (o.cls = .type "tuple") && o.dict.isNone
  | none => false
/-- a dict of the top: what stands at its keys -/
def dctB (K : PySem.W.Frag) (t : Str × List (Str × He.Dv)) : Bool := He.valsB K (He.ga K t.1) t.2
/-- more facts: tuples of the top; classes of errors that are caught; who is under whom -/
structure Ex3 where
  tups : List (Str × List He.Dv)
  has : List Str
  subs : List (Str × Str × Bool)
  dcts : List (Str × List (Str × He.Dv))
def Ex3.ok (e : Ex3) (K : PySem.W.Frag) : Bool := (e.tups.all fun t => He.tupB K t.1 t.2 && kepB K t.1) && ((e.has.all fun x => hasB K x) && ((e.subs.all fun t => subB K t) && e.dcts.all fun t => dctB K t))
/-- the keys of the dicts of the top -/
abbrev Ks : Type := List (Option (List (Option (Str × Int))))
def Ex3.keys (e : Ex3) (K : PySem.W.Frag) : Ks := e.dcts.map fun t => He.dicW K (He.ga K t.1)
def Ex3.due (e : Ex3) (w : World) : Ks := e.dcts.map fun t => some (He.keysIn w.params (t.2.map (·.1)))
abbrev AlX : Type := He.AlD × Bool × Ks
def obsX (fa : List He.Fa) (fn : List He.DefD) (ex : Ex3) (K : PySem.W.Frag) : AlX := (He.obsD fa fn K, ex.ok K, ex.keys K)
def valX (fn : List He.DefD) (ex : Ex3) (w : World) : AlX := (He.valD fn, true, ex.due w)
def SaysX (fa : List He.Fa) (fn : List He.DefD) (ex : Ex3) (w : World) (K : PySem.W.Frag) : Prop := obsX fa fn ex K = valX fn ex w
/-- the new ones among addresses, each once; m has a bit for each that was seen -/
def newA {α : Type} (m : Nat) : List Addr → (Nat → List Addr → α) → α
  | [], k => k m []
  | a :: r, k => HandSHeadRun.frNat a fun a => match Nat.testBit m a with
    | true => newA m r k
    | false => HandSHeadRun.frNat (Nat.lor m (Nat.shiftLeft 1 a)) fun m => newA m r fun m l => k m (a :: l)
/-- what is reached from fr in n steps -/
def asV (g : Addr → Option Obj) : Nat → Nat → List Addr → List Addr
  | 0, _, fr => fr
  | n + 1, m, fr => newA m (fr.flatMap fun a => match g a with
    | some o => He.refsD o
    | none => []) fun m l => fr ++ asV g n m l
def asW (g : Addr → Option Obj) (n : Nat) : List Addr := asV g n (Nat.shiftLeft 1 mainGlobals) [mainGlobals]
def obsXG (n : Nat) (fa : List He.Fa) (fn : List He.DefD) (ex : Ex3) (g : Addr → Option Obj) : AlX := obsX fa fn ex (He.frG g (asW g n))
def hookX (n : Nat) (fa : List He.Fa) (fn : List He.DefD) (ex : Ex3) : PySem.W.Hook where
  α := AlX
  obs s := obsXG n fa fn ex s.heap.get?
  val w := valX fn ex w
  says w h := ∃ K : PySem.W.Frag, K.In h ∧ SaysX fa fn ex w K
  of _ _ e := ⟨_, He.frG_in, e⟩
  keeps _ _ _ z k := let ⟨K, hK, c⟩ := z; ⟨K, PySem.W.Frag.In.keeps hK k, c⟩
theorem obsXG_eq {n : Nat} {fa : List He.Fa} {fn : List He.DefD} {ex : Ex3} {g : Addr → Option Obj} {s : Shared} (h : ∀ a, g a = s.heap.get? a) : obsXG n fa fn ex g = (hookX n fa fn ex).obs s := by
  have : g = s.heap.get? := funext h
  rw [this] <;> rfl
/-! ### the run in pieces -/
def kf (s : PySem.W.SharedT) : PySem.W.Frag := He.frG (HandSHeadRun.getT s) (asW (HandSHeadRun.getT s) 4)
section
open PySem.W PySem.Calls
variable (R : PySem.W.OpenRow) (q : Program) (M : Nat) (loose : List Str) (w : World) (fa fb : List He.Fa) (fn fm : List He.DefD) (ex : Ex3)
noncomputable abbrev RunO (os : OsState) : Option PySem.W.SharedT := HandSHeadRun.endF (HandSHeadRun.stepQ (HandSHeadRun.denQ HandSHeadRun.tabQ) R.prog w) M R.prog w os
def RunL : Prop := ∀ os : OsState, (RunO R M w os).map (fun s => (HandSHeadRun.looksF R.prog (boot_heap w.params) s.abs, HandSHeadRun.seenQ q loose (importedModules R.prog.main.body) (fun s => PySem.W.xlAt q [] s && PySem.W.recOk R.toRowW.records s) s.abs)) = some (true, openGood q loose)
def RunF : Prop := ∀ os : OsState, (RunO R M w os).map (fun s => fa.all fun f => f.ok (kf s)) = some true
def RunD : Prop := ∀ os : OsState, (RunO R M w os).map (fun s => (fn.all fun d => d.ok (kf s), fn.map fun d => He.fnW (kf s) d.at_)) = some (true, fn.map He.DefD.val)
def RunX : Prop := ∀ os : OsState, (RunO R M w os).map (fun s => (ex.ok (kf s), ex.keys (kf s))) = some (true, ex.due w)
def RunXF : Prop := ∀ os : OsState, (RunO R M w os).map (fun s => (ex.ok (kf s) && fa.all fun f => f.ok (kf s), ex.keys (kf s))) = some (true, ex.due w)
variable {R q M loose w fa fb fn fm ex}
theorem RunXF.x (h : RunXF R M w fa ex) : RunX R M w ex := fun os => by
  obtain ⟨s, e, r⟩ := Option.map_eq_some_iff.mp (h os)
  rw [e]
  simp only [Bool.and_eq_true, Prod.mk.injEq] at r
  show some (ex.ok (kf s), ex.keys (kf s)) = _
  rw [r.1.1, r.2]
theorem RunXF.f (h : RunXF R M w fa ex) : RunF R M w fa := fun os => by
  obtain ⟨s, e, r⟩ := Option.map_eq_some_iff.mp (h os)
  rw [e]
  simp only [Bool.and_eq_true, Prod.mk.injEq] at r
  exact congrArg some r.1.2
theorem RunF.app (h : RunF R M w fa) (h2 : RunF R M w fb) : RunF R M w (fa ++ fb) := fun os => by
  obtain ⟨s, e, r⟩ := Option.map_eq_some_iff.mp (h os)
  have r2 := h2 os
  rw [e] at r2 ⊢
  have r2 : (fb.all fun f => f.ok (kf s)) = true := Option.some.inj r2
  simp only [Option.map_some, List.all_append]
  rw [r, r2]; rfl
theorem RunD.app (h : RunD R M w fn) (h2 : RunD R M w fm) : RunD R M w (fn ++ fm) := fun os => by
  obtain ⟨s, e, r⟩ := Option.map_eq_some_iff.mp (h os)
  have r2 := h2 os
  rw [e] at r2 ⊢
  have r2 : (fm.all fun d => d.ok (kf s), fm.map fun d => He.fnW (kf s) d.at_) = (true, fm.map He.DefD.val) := Option.some.inj r2
  simp only [Prod.mk.injEq] at r r2
  simp only [Option.map_some, List.all_append, List.map_append]
  rw [r.1, r.2, r2.1, r2.2]; rfl
theorem run_parts (hl : RunL R q M loose w) (hf : RunF R M w fa) (hd : RunD R M w fn) (hx : RunX R M w ex) : HandSHeadRun.RunEq R q (hookX 4 fa fn ex) (fun s => obsXG 4 fa fn ex (HandSHeadRun.getT s)) M loose w := fun os => by
  obtain ⟨s, e, r⟩ := Option.map_eq_some_iff.mp (hl os)
  have f := hf os
  have d := hd os
  have x := hx os
  rw [e] at f d x
  have f : (fa.all fun f => f.ok (kf s)) = true := Option.some.inj f
  have d : (fn.all fun d => d.ok (kf s), fn.map fun d => He.fnW (kf s) d.at_) = (true, fn.map He.DefD.val) := Option.some.inj d
  have x : (ex.ok (kf s), ex.keys (kf s)) = (true, ex.due w) := Option.some.inj x
  simp only [Prod.mk.injEq] at r d x
  have z : obsXG 4 fa fn ex (HandSHeadRun.getT s) = valX fn ex w := by
    unfold obsXG obsX He.obsD valX He.valD
    show (((fa.all fun f => f.ok (kf s)) && fn.all fun d => d.ok (kf s), fn.map fun d => He.fnW (kf s) d.at_), ex.ok (kf s), ex.keys (kf s)) = _
    rw [f, d.1, d.2, x.1, x.2]; rfl
  show (RunO R M w os).map _ = _
  rw [e]
  simp only [Option.map_some]
  rw [z, r.1, r.2]
  rfl
end
end VL

/-! ### the text, its facts, the head -/
namespace Lw
open PySem PySem.Spec PyProof.Rows L2 VL
def top (i : Nat) : Stmt := PySem.Challenge.pw_quirebound_k50_layers_that_a_thread_hold.main.body.getD i (.Pass ⟨0, 0, 0, 0⟩)
def ctop (i j : Nat) : Stmt := match top i with | .ClassDef _ _ _ b _ _ _ _ _ _ _ => b.getD j (.Pass ⟨0, 0, 0, 0⟩) | _ => .Pass ⟨0, 0, 0, 0⟩
def d_spine_edge : He.DefD := ⟨("spine_edge", none), "spine_edge", "spine_edge", defArgs (top 2), defBody (top 2), defScope (top 2), [], []⟩
def d__spine_pairs : He.DefD := ⟨("_spine_pairs", none), "_spine_pairs", "_spine_pairs", defArgs (top 4), defBody (top 4), defScope (top 4), [], []⟩
def d__held_in_section : He.DefD := ⟨("_held_in_section", none), "_held_in_section", "_held_in_section", defArgs (top 5), defBody (top 5), defScope (top 5), [], []⟩
def d_held : He.DefD := ⟨("held", none), "held", "held", defArgs (top 6), defBody (top 6), defScope (top 6), [], []⟩
def d_loose : He.DefD := ⟨("loose", none), "loose", "loose", defArgs (top 7), defBody (top 7), defScope (top 7), [], []⟩
def d__law_mixed : He.DefD := ⟨("_law_mixed", none), "_law_mixed", "_law_mixed", defArgs (top 9), defBody (top 9), defScope (top 9), [], []⟩
def d__law_draws : He.DefD := ⟨("_law_draws", none), "_law_draws", "_law_draws", defArgs (top 10), defBody (top 10), defScope (top 10), [], []⟩
def d__law_take : He.DefD := ⟨("_law_take", none), "_law_take", "_law_take", defArgs (top 11), defBody (top 11), defScope (top 11), [], []⟩
def d__law_same : He.DefD := ⟨("_law_same", none), "_law_same", "_law_same", defArgs (top 12), defBody (top 12), defScope (top 12), [], []⟩
def d__law_add_bond : He.DefD := ⟨("_law_add_bond", none), "_law_add_bond", "_law_add_bond", defArgs (top 13), defBody (top 13), defScope (top 13), [], []⟩
def d__law_edge_of : He.DefD := ⟨("_law_edge_of", none), "_law_edge_of", "_law_edge_of", defArgs (top 14), defBody (top 14), defScope (top 14), [], []⟩
def d__law_starts : He.DefD := ⟨("_law_starts", none), "_law_starts", "_law_starts", defArgs (top 15), defBody (top 15), defScope (top 15), [], []⟩
def d__law_drawn : He.DefD := ⟨("_law_drawn", none), "_law_drawn", "_law_drawn", defArgs (top 16), defBody (top 16), defScope (top 16), [], []⟩
def d__law_held : He.DefD := ⟨("_law_held", none), "_law_held", "_law_held", defArgs (top 17), defBody (top 17), defScope (top 17), [], []⟩
def d_law : He.DefD := ⟨("law", none), "law", "law", defArgs (top 18), defBody (top 18), defScope (top 18), [], []⟩
def fn0 : List He.DefD := [d_spine_edge, d__spine_pairs, d__held_in_section, d_held, d_loose, d__law_mixed, d__law_draws, d__law_take, d__law_same, d__law_add_bond, d__law_edge_of, d__law_starts, d__law_drawn, d__law_held, d_law]
def fn : List He.DefD := fn0
def ex : VL.Ex3 := ⟨[], [], [], [("_SPINES", [("left", (.str "left")), ("right", (.str "right")), ("head", (.str "top"))])]⟩
def fa0 : List He.Fa := [.glo "spine_edge", .glo "_spine_pairs", .glo "_held_in_section", .glo "held", .glo "loose", .glo "_law_mixed", .glo "_law_draws", .glo "_law_take", .glo "_law_same", .glo "_law_add_bond", .glo "_law_edge_of", .glo "_law_starts", .glo "_law_drawn", .glo "_law_held", .glo "law", .free "len", .free "int", .free "list", .free "tuple", .free "max", .free "min", .free "abs", .free "sum", .free "sorted", .free "any", .free "all", .free "str", .free "range", .free "reversed", .free "zip"]
def fa1 : List He.Fa := [.free "enumerate", .free "isinstance", .free "bool", .free "dict", .free "ValueError", .glo "_SPINES"]
def fA0 : List He.Fa := fa0 ++ fa1
def fa : List He.Fa := fA0
def loose0 : List Str := ["_SPINES", "spine_edge", "_spine_pairs", "_held_in_section", "held", "loose", "_law_mixed", "_law_draws", "_law_take", "_law_same", "_law_add_bond", "_law_edge_of", "_law_starts", "_law_drawn", "_law_held"]
def loose : List Str := loose0
abbrev R : PySem.W.OpenRow := PySem.W.OpenLaw.row PySem.Challenge.rw_quirebound_k50_layers_that_a_thread_hold
abbrev hk : PySem.W.Hook := VL.hookX 4 fa fn ex
def ob (s : PySem.W.SharedT) : VL.AlX := VL.obsXG 4 fa fn ex (HandSHeadRun.getT s)
theorem ob_eq (s : PySem.W.SharedT) : ob s = hk.obs s.abs := VL.obsXG_eq (HandSHeadRun.getT_eq s)
theorem run_l (w : World) : VL.RunL R (PySem.W.view R.prog [18]) 20000 loose w := by
  have h : ∀ (b : Bool) (w : World), VL.RunL R (PySem.W.view R.prog [18]) 20000 loose (w.withFollow "special-get-raises" b) := by
    intro b w os
    cases b
    · kernel_rfl
    · kernel_rfl
  have h2 := h (w.params.followText "special-get-raises") w
  rwa [World.withFollow_self] at h2
theorem run_x (w : World) : VL.RunXF R 20000 w fA0 ex := by
  have h : ∀ (b : Bool) (w : World), VL.RunXF R 20000 (w.withFollow "special-get-raises" b) fA0 ex := by
    intro b w os
    cases b
    · kernel_rfl
    · kernel_rfl
  have h2 := h (w.params.followText "special-get-raises") w
  rwa [World.withFollow_self] at h2
theorem run_d0 (w : World) : VL.RunD R 20000 w fn0 := by
  have h : ∀ (b : Bool) (w : World), VL.RunD R 20000 (w.withFollow "special-get-raises" b) fn0 := by
    intro b w os
    cases b
    · kernel_rfl
    · kernel_rfl
  have h2 := h (w.params.followText "special-get-raises") w
  rwa [World.withFollow_self] at h2
theorem run (w : World) : HandSHeadRun.RunEq R (PySem.W.view R.prog [18]) hk ob 20000 loose w := VL.run_parts (run_l w) ((run_x w).f) ((run_d0 w)) (run_x w).x
end Lw

/-! V0: the value layer's data, syntax and evaluator (plain Lean) -/
namespace VL
open PySem

/-! ### data -/
inductive D where
  | non | bl (b : Bool) | int (i : Int) | str (s : Str)
  | tup (ds : List D) | lst (ds : List D) | dic (t : Bool) (kvs : List (D × D)) | ktup (ds : List D)
  | ins (c : Str) (fs : List (Str × D)) | ref (n : Nat)

mutual
def D.beq : D → D → Bool
  | .non, .non => true
  | .bl a, .bl b => a == b
  | .int a, .int b => decide (a = b)
  | .str a, .str b => decide (a = b)
  | .tup a, .tup b => D.beqs a b
  | .lst a, .lst b => D.beqs a b
  | .dic t a, .dic u b => (t == u) && D.beqk a b
  | .ktup a, .ktup b => D.beqs a b
  | .ins c a, .ins d b => decide (c = d) && D.beqf a b
  | .ref a, .ref b => decide (a = b)
  | _, _ => false
def D.beqs : List D → List D → Bool
  | [], [] => true
  | a :: x, b :: y => D.beq a b && D.beqs x y
  | _, _ => false
def D.beqk : List (D × D) → List (D × D) → Bool
  | [], [] => true
  | (a, a') :: x, (b, b') :: y => D.beq a b && D.beq a' b' && D.beqk x y
  | _, _ => false
def D.beqf : List (Str × D) → List (Str × D) → Bool
  | [], [] => true
  | (a, a') :: x, (b, b') :: y => decide (a = b) && D.beq a' b' && D.beqf x y
  | _, _ => false
end
mutual
theorem D.beq_iff : ∀ a b : D, D.beq a b = true ↔ a = b
  | .non, b => by cases b <;> simp [D.beq]
  | .bl x, b => by cases b <;> simp [D.beq]
  | .int x, b => by cases b <;> simp [D.beq]
  | .str x, b => by cases b <;> simp [D.beq]
  | .tup x, b => by
    cases b with
    | tup y => simp [D.beq, D.beqs_iff x y]
    | _ => simp [D.beq]
  | .lst x, b => by
    cases b with
    | lst y => simp [D.beq, D.beqs_iff x y]
    | _ => simp [D.beq]
  | .dic t x, b => by
    cases b with
    | dic u y => simp [D.beq, D.beqk_iff x y]
    | _ => simp [D.beq]
  | .ktup x, b => by
    cases b with
    | ktup y => simp [D.beq, D.beqs_iff x y]
    | _ => simp [D.beq]
  | .ins c x, b => by
    cases b with
    | ins d y => simp [D.beq, D.beqf_iff x y]
    | _ => simp [D.beq]
  | .ref x, b => by cases b <;> simp [D.beq]
theorem D.beqs_iff : ∀ a b : List D, D.beqs a b = true ↔ a = b
  | [], b => by cases b <;> simp [D.beqs]
  | a :: x, b => by
    cases b with
    | nil => simp [D.beqs]
    | cons b y => simp [D.beqs, D.beq_iff a b, D.beqs_iff x y]
theorem D.beqk_iff : ∀ a b : List (D × D), D.beqk a b = true ↔ a = b
  | [], b => by cases b <;> simp [D.beqk]
  | (a, a') :: x, b => by
    cases b with
    | nil => simp [D.beqk]
    | cons b y => obtain ⟨b, b'⟩ := b; simp [D.beqk, D.beq_iff a b, D.beq_iff a' b', D.beqk_iff x y]
theorem D.beqf_iff : ∀ a b : List (Str × D), D.beqf a b = true ↔ a = b
  | [], b => by cases b <;> simp [D.beqf]
  | (a, a') :: x, b => by
    cases b with
    | nil => simp [D.beqf]
    | cons b y => obtain ⟨b, b'⟩ := b; simp [D.beqf, D.beq_iff a' b', D.beqf_iff x y]
end
instance : DecidableEq D := fun a b => decidable_of_iff _ (D.beq_iff a b)

/-- what a mutable thing holds -/
inductive MO where
  | lst (ds : List D) | dic (t : Bool) (kvs : List (D × D)) | ins (c : Str) (fs : List (Str × D))
abbrev Mem := List MO
/-- how deep a thing is one's own: settled, its top alone above m, all of it -/
inductive Md where
  | z | s (m : Md) | all
  deriving DecidableEq
def Md.dn : Md → Md
  | .z => .z
  | .s m => m
  | .all => .all
def Md.up : Md → Md
  | .all => .all
  | m => .s m
@[simp] theorem Md.dn_up (m : Md) : m.up.dn = m := by cases m <;> rfl
theorem Md.up_ne (m : Md) : m.up ≠ .z := by cases m <;> intro h <;> cases h
inductive SV where
  | un | fz (d : D) | ow (m : Md) (d : D)
abbrev Sl := List SV
mutual
/-- a list, a dict, a tuple that holds one -/
def D.isLD : D → Bool
  | .lst _ => true
  | .dic _ _ => true
  | .tup ds => D.isLDs ds
  | _ => false
def D.isLDs : List D → Bool
  | [] => false
  | d :: ds => D.isLD d || D.isLDs ds
end
mutual
/-- no list, no dict, no object within -/
def D.noL : D → Bool
  | .tup ds => D.noLs ds
  | .lst _ => false
  | .dic _ _ => false
  | .ktup _ => false
  | .ins _ _ => false
  | .ref _ => true
  | _ => true
def D.noLs : List D → Bool
  | [] => true
  | d :: ds => D.noL d && D.noLs ds
end
mutual
/-- nothing of memory within -/
def D.noRef : D → Bool
  | .tup ds => D.noRefs ds
  | .lst ds => D.noRefs ds
  | .dic _ kvs => D.noRefk kvs
  | .ktup ds => D.noRefs ds
  | .ins _ fs => D.noReff fs
  | .ref _ => false
  | _ => true
def D.noRefs : List D → Bool
  | [] => true
  | d :: ds => D.noRef d && D.noRefs ds
def D.noReff : List (Str × D) → Bool
  | [] => true
  | (_, d) :: ds => D.noRef d && D.noReff ds
def D.noRefk : List (D × D) → Bool
  | [] => true
  | (_, d) :: ds => D.noRef d && D.noRefk ds
end
mutual
/-- lists and dicts, in whose tuples there are none -/
def D.tupNoL : D → Bool
  | .tup ds => D.noLs ds
  | .lst ds => D.tupNoLs ds
  | .dic _ kvs => D.tupNoLk kvs
  | .ktup _ => false
  | .ins _ _ => false
  | .ref _ => false
  | _ => true
def D.tupNoLs : List D → Bool
  | [] => true
  | d :: ds => D.tupNoL d && D.tupNoLs ds
def D.tupNoLk : List (D × D) → Bool
  | [] => true
  | (_, d) :: ds => D.tupNoL d && D.tupNoLk ds
end
def viewV : SV → SV
  | .ow _ d => .fz d
  | s => s
/-- all that is owned, looked at -/
def viewS (ρ : Sl) : Sl := ρ.map viewV
/-- what is in memory, looked at -/
def lookV (M : Mem) : SV → SV
  | .un => .un
  | .ow _ d => if d.noRef = true then .fz d else .un
  | .fz d => match d with
    | .ref n => (match M[n]? with
      | some (.lst ds) => if D.noRefs ds = true then .fz (.lst ds) else .un
      | some (.dic t kvs) => if D.noRefk kvs = true then .fz (.dic t kvs) else .un
      | _ => .un)
    | d => if d.noRef = true then .fz d else .un
def lookS (M : Mem) (ρ : Sl) : Sl := ρ.map (lookV M)

inductive R (α : Type) where
  | ok (a : α) (M : Mem) | ex (c : Nat) (M : Mem) | st
def R.bind {α β : Type} (r : R α) (f : α → Mem → R β) : R β :=
  match r with
  | .ok a M => f a M
  | .ex c M => .ex c M
  | .st => .st
@[simp] theorem R.bind_ok {α β : Type} (a : α) (M : Mem) (f : α → Mem → R β) : (R.ok a M).bind f = f a M := rfl
@[simp] theorem R.bind_ex {α β : Type} (c : Nat) (M : Mem) (f : α → Mem → R β) : (R.ex c M : R α).bind f = .ex c M := rfl
@[simp] theorem R.bind_st {α β : Type} (f : α → Mem → R β) : (R.st : R α).bind f = .st := rfl
/-- an exception here is not served -/
def R.nox {α : Type} : R α → R α
  | .ok a M => .ok a M
  | _ => .st
@[simp] theorem R.nox_ok {α : Type} (a : α) (M : Mem) : (R.ok a M).nox = .ok a M := rfl
def R.of {α : Type} (o : Option α) (M : Mem) : R α :=
  match o with
  | some a => .ok a M
  | none => .st
@[simp] theorem R.of_some {α : Type} (a : α) (M : Mem) : R.of (some a) M = .ok a M := rfl
@[simp] theorem R.of_none {α : Type} (M : Mem) : R.of (none : Option α) M = .st := rfl

/-! ### syntax -/
inductive BOp where
  | add | sub | mul | fdiv | mod | pow | band
  deriving DecidableEq
inductive COp where
  | eq | ne | lt | le | gt | ge | isin | notin | is_ | isnot
  deriving DecidableEq
inductive Blt where
  | len | int | list | tuple | max | min | abs | sum | sorted | any | all | str
  deriving DecidableEq
inductive Mth where
  | get | index | indexL
  deriving DecidableEq
inductive Ty where
  | int | bool | str | list | tuple | dict
  deriving DecidableEq
inductive ItK where
  | seq | rng1 | rng2 | rev | zip | enum | rng3 | keys
  deriving DecidableEq
inductive Pt where
  | v (i : Nat) | t (ps : List Pt)
inductive Ex where
  | var (i : Nat) | lit (d : D) | glob (k : Nat)
  | tup (es : List Ex) | lst (es : List Ex) | dict0
  | bin (o : BOp) (a b : Ex) | neg (a : Ex)
  | cmp (o : COp) (a b : Ex) | chain (o o2 : COp) (a b c : Ex) | isN (a : Ex) (ng : Bool)
  | and (es : List Ex) | or (es : List Ex) | not (a : Ex) | ite (c a b : Ex)
  | ix (a b : Ex) | sl (a lo hi : Ex)
  | call (f : Nat) (es : List Ex) | blt (b : Blt) (es : List Ex) | mth (m : Mth) (o : Ex) (es : List Ex)
  | isi (a : Ex) (t : Ty)
  | comp (elt : Ex) (p : Pt) (k : ItK) (args : List Ex) (conds : List Ex) (own : List Nat)
  | bor (e : Ex) | look (e : Ex) | rpop (e : Ex) | rapp (e x : Ex) | newD (t : Bool)
  | lrng (es : List Ex)
  | dget (d k : Ex) (o : Option Ex) | dix (d k : Ex) | din (k d : Ex) (ng : Bool)
  | comp2 (elt : Ex) (p : Pt) (k : ItK) (args conds : List Ex) (own : List Nat) (p2 : Pt) (k2 : ItK) (args2 conds2 : List Ex) (own2 : List Nat)
  | fld (ks : List Str) (e : Ex) (f : Str) | mcall (c m : Str) (f : Nat) (o : Ex) (es : List Ex) | mk (f : Nat) (es : List Ex) | disp (ks : List Str) (es : List Ex)
  | dcomp (kx vx : Ex) (p : Pt) (k : ItK) (args : List Ex) (own : List Nat)
  | rsl (a : Ex) | kget (k : Nat) (e : Ex) | mxd (a d : Ex)
  | ch4 (o1 o2 o3 o4 : COp) (a b c d e : Ex)
/-- what gives a thing of one's own -/
inductive Ax where
  | e (x : Ex) | lst (as : List Ax) | dict0 (t : Bool) | fr (x : Ex) | call (f : Nat) (es : List Ex)
  | ix (a : Ax) (k : Ex) | comp (elt : Ax) (p : Pt) (k : ItK) (args : List Ex) (conds : List Ex) (own : List Nat)
  | bor (a : Ax) | dn (a : Ax) | mcall (c m : Str) (f : Nat) (o : Ex) (es : List Ex)
  | tup (as : List Ax) | look (a : Ax)
/-- what is put in: an expression, or a name's own thing, which the name gives up -/
inductive El where
  | a (a : Ax) | mv (j : Nat)
/-- a change -/
inductive Mu where
  | app | setk (k : Ex) | clear | rev | ins (k : Ex) | ext
/-- what a clause of a try hands back: e is the error -/
inductive Hx where
  | lit (d : D) | tup (hs : List Hx) | isi (c : Nat) | isv | and (hs : List Hx) | or (hs : List Hx) | not (h : Hx)
/-- a clause: its class, its name's slot, what it hands back -/
structure Hd where
  c : Nat
  i : Option Nat
  b : Hx
inductive Sm where
  | asg (p : Pt) (e : Ex) | own (i : Nat) (a : Ax)
  | dset (i : Nat) (k v : Ex)
  | mut (i : Nat) (ps : List Ex) (mu : Mu) (el : El) | pop (p : Pt) (i : Nat) (ps : List Ex) (k : Option Ex)
  | aug (i : Nat) (o : BOp) (e : Ex)
  | expr (e : Ex) | ret (e : Ex) | retN | retA (a : Ax) | retV (i : Nat)
  | ifs (c : Ex) (a b : List Sm)
  | for_ (p : Pt) (k : ItK) (args : List Ex) (body : List Sm)
  | while_ (c : Ex) (body : List Sm)
  | brk | cnt | pass | raise (c : Nat)
  | freeze (i : Nat) | kill (is : List Nat) | toRef (i : Nat) | rset (e k v : Ex)
  | try_ (body : List Sm) (hs : List Hd)
  | forK (p : Pt) (i : Nat) (body : List Sm) | popS (i : Nat) (ps : List Ex) (k : Option Ex) | clr (a : Ax)
  | mkI (c : Str) (fs : List (Str × Ex))
  | retT (els : List El)
  | ext (i : Nat) (ps : List Ex) (a : Ax)

/-! ### values -/
def bKind : D → Bool
  | .lst _ => true
  | _ => false
def truth : D → Option Bool
  | .non => some false
  | .bl b => some b
  | .int i => some (i != 0)
  | .str s => if s.length ≤ sizeLine then some ((s.length : Int) != 0) else none
  | .tup ds => some (!ds.isEmpty)
  | .lst ds => some (!ds.isEmpty)
  | _ => none
def deref (M : Mem) : D → Option D
  | .ref n => match M[n]? with
    | some (.lst ds) => some (.lst ds)
    | _ => none
  | d => some d
-- data that == takes
mutual
def D.py : D → Option PyData
  | .non => some .none
  | .bl b => some (.bool b)
  | .int i => some (.int i)
  | .str s => some (.str s)
  | .tup ds => (D.pys ds).map .tuple
  | .lst ds => (D.pys ds).map .list
  | _ => none
def D.pys : List D → Option (List PyData)
  | [] => some []
  | d :: ds => match D.py d, D.pys ds with
    | some a, some b => some (a :: b)
    | _, _ => none
end
/-- equality of data, by the model's own; none where it is not served -/
def eqD (a b : D) : Option Bool :=
  match a, b with
  | .str x, .str y => some (decide (x = y))
  | .int x, .int y => some (decide (x = y))
  | .bl x, .bl y => some (decide (x = y))
  | a, b => match D.py a, D.py b with
    | some x, some y => if SeqAt.shaped x = true ∧ SeqAt.shaped y = true then some (PyData.eqv x y) else none
    | _, _ => none
def eqF : D → D → Bool
  | .non, .non => true
  | .bl a, .bl b => a == b
  | .bl a, .int b => (if a then 1 else 0) == b
  | .int a, .bl b => a == (if b then 1 else 0)
  | .int a, .int b => a == b
  | .str a, .str b => a == b
  | _, _ => false
def CMulB (i j : Int) : Bool := decide ((-(2 ^ 64) < i ∧ i < 2 ^ 64) ∨ (-(2 ^ 64) < j ∧ j < 2 ^ 64))
def binD (o : BOp) (a b : D) : Option D :=
  match o, a, b with
  | .add, .int i, .int j => some (.int (i + j))
  | .sub, .int i, .int j => some (.int (i - j))
  | .mul, .int i, .int j => if CMulB i j = true then some (.int (i * j)) else none
  | .fdiv, .int i, .int j => if 0 < j ∧ j < 1073741824 then some (.int (i / j)) else none
  | .mod, .int i, .int j => if 0 < j then some (.int (i % j)) else none
  | .pow, .int i, .int j => if 0 ≤ j ∧ j ≤ 1000000 ∧ i.natAbs < 2 ^ 64 then some (.int (i ^ j.toNat)) else none
  | .band, .int i, .int j => some (.int (Builtin.bitAnd i j))
  | .add, .str x, .str y => if x.length + y.length ≤ sizeLine then some (.str (x ++ y)) else none
  | .add, .lst x, .lst y => if x.length + y.length ≤ sizeLine then some (.lst (x ++ y)) else none
  | .add, .tup x, .tup y => if x.length + y.length ≤ sizeLine then some (.tup (x ++ y)) else none
  | _, _, _ => none
/-- x op= y of numbers and texts -/
def augD (o : BOp) (a b : D) : Option D :=
  match o, a, b with
  | .add, .int i, .int j => some (.int (i + j))
  | .sub, .int i, .int j => some (.int (i - j))
  | .add, .str x, .str y => if x.length + y.length ≤ sizeLine then some (.str (x ++ y)) else none
  | _, _, _ => none
def flatD : D → Bool
  | .non | .bl _ | .int _ | .str _ => true
  | _ => false
def memD (x : D) (ds : List D) : Option Bool :=
  if flatD x = true ∧ ds.all flatD = true then some (ds.any fun y => eqF y x) else none
/-- in a list: flat things, or any data -/
def memG (x : D) (ds : List D) : Option Bool :=
  match memD x ds with
  | some b => some b
  | none => match D.py x, D.pys ds with
    | some a, some bs => if a.canLay0 = true ∧ PyData.canLayAll0 bs = true ∧ a.depth ≤ 63 then some (bs.any fun z => PyData.eqv z a) else none
    | _, _ => none
def cmpD (o : COp) (a b : D) : Option D :=
  match o with
  | .eq => (eqD a b).map .bl
  | .ne => (eqD a b).map fun r => .bl (!r)
  | .lt => match a, b with | .int i, .int j => some (.bl (decide (i < j))) | _, _ => none
  | .le => match a, b with | .int i, .int j => some (.bl (decide (i ≤ j))) | _, _ => none
  | .gt => match a, b with | .int i, .int j => some (.bl (decide (j < i))) | _, _ => none
  | .ge => match a, b with | .int i, .int j => some (.bl (decide (j ≤ i))) | _, _ => none
  | .isin => match b with | .lst ds => (memG a ds).map .bl | .tup ds => (memD a ds).map .bl | .ktup ds => (memD a ds).map .bl | _ => none
  | .notin => match b with | .lst ds => (memG a ds).map fun r => .bl (!r) | .tup ds => (memD a ds).map fun r => .bl (!r) | .ktup ds => (memD a ds).map fun r => .bl (!r) | _ => none
  | .is_ => match a, b with | .bl i, .bl j => some (.bl (decide (i = j))) | _, _ => none
  | .isnot => match a, b with | .bl i, .bl j => some (.bl (!decide (i = j))) | _, _ => none
def ixD (a b : D) : Option D :=
  match a, b with
  | .lst ds, .int i => L2.atI ds i
  | .tup ds, .int i => L2.atI ds i
  | _, _ => none
def cutD (xs : List D) (lo hi : Option Int) : List D := (xs.drop (HT.sIx xs.length 0 lo)).take (HT.sIx xs.length xs.length hi - HT.sIx xs.length 0 lo)
def partD : D → Option Int
  | .int i => some i
  | _ => none
def slD (a : D) (l h : Option Int) : Option D :=
  match a with
  | .lst ds => some (.lst (cutD ds l h))
  | .tup ds => if HT.sIx ds.length 0 l = 0 ∧ HT.sIx ds.length ds.length h = ds.length then none else some (.tup (cutD ds l h))
  | _ => none
def intsOf : List D → Option (List Int)
  | [] => some []
  | .int i :: r => (intsOf r).map (i :: ·)
  | _ => none
def blsOf : List D → Option (List Bool)
  | [] => some []
  | .bl i :: r => (blsOf r).map (i :: ·)
  | _ => none
/-- a key -/
def flatK : D → Bool
  | .int _ => true
  | .str _ => true
  | _ => false
def maxL : List Int → Option Int
  | [] => none
  | a :: r => some (r.foldl max a)
def minL : List Int → Option Int
  | [] => none
  | a :: r => some (r.foldl min a)
def pairsOf : List D → Option (List (Int × Int))
  | [] => some []
  | .tup [.int i, .int j] :: r => (pairsOf r).map ((i, j) :: ·)
  | _ => none
def lePB (a b : Int × Int) : Bool := decide (a.1 < b.1 ∨ (a.1 = b.1 ∧ a.2 ≤ b.2))
/-- a list of ints, of pairs of ints, sorted -/
def srtD (ds : List D) : Option (List D) :=
  match intsOf ds with
  | some ns => some ((ns.mergeSort (fun a b => decide (a ≤ b))).map .int)
  | none => (pairsOf ds).map fun ps => (ps.mergeSort lePB).map fun p => .tup [.int p.1, .int p.2]
def bltD (b : Blt) (vs : List D) : Option D :=
  match b, vs with
  | .len, [.lst ds] => some (.int ds.length)
  | .len, [.tup ds] => some (.int ds.length)
  | .len, [.dic false kvs] => some (.int kvs.length)
  | .len, [.ktup ds] => some (.int ds.length)
  | .int, [.int i] => some (.int i)
  | .int, [.bl i] => some (.int (if i then 1 else 0))
  | .list, [.lst ds] => some (.lst ds)
  | .list, [.tup ds] => some (.lst ds)
  | .list, [.dic _ kvs] => some (.lst (kvs.map (·.1)))
  | .tuple, [.tup ds] => some (.tup ds)
  | .tuple, [.lst ds] => some (.tup ds)
  | .max, [.int i, .int j] => some (.int (if j > i then j else i))
  | .min, [.int i, .int j] => some (.int (if j < i then j else i))
  | .max, [.lst ds] => (intsOf ds).bind fun ns => (maxL ns).map .int
  | .min, [.lst ds] => (intsOf ds).bind fun ns => (minL ns).map .int
  | .sorted, [.lst ds] => (srtD ds).map .lst
  | .sorted, [.dic false kvs] => (intsOf (kvs.map (·.1))).map fun ns => .lst ((ns.mergeSort (fun a b => decide (a ≤ b))).map .int)
  | .abs, [.int i] => some (.int (if i < 0 then -i else i))
  | .sum, [.lst ds] => (intsOf ds).map fun ns => .int ns.sum
  | .all, [.lst ds] => (blsOf ds).map fun ns => .bl (ns.all id)
  | .any, [.lst ds] => (blsOf ds).map fun ns => .bl (ns.any id)
  | _, _ => none
def isiD (t : Ty) (d : D) : Option Bool :=
  match t with
  | .int => (match d with | .bl _ => some true | .int _ => some true | .non => some false | .str _ => some false | .tup _ => some false | .lst _ => some false | _ => none)
  | .bool => (match d with | .bl _ => some true | .int _ => some false | .non => some false | .str _ => some false | .tup _ => some false | .lst _ => some false | _ => none)
  | .str => (match d with | .bl _ => some false | .int _ => some false | .non => some false | .str _ => some true | .tup _ => some false | .lst _ => some false | _ => none)
  | .list => (match d with | .bl _ => some false | .int _ => some false | .non => some false | .str _ => some false | .tup _ => some false | .lst _ => some true | _ => none)
  | .tuple => (match d with | .bl _ => some false | .int _ => some false | .non => some false | .str _ => some false | .tup _ => some true | .lst _ => some false | _ => none)
  | .dict => (match d with | .bl _ => some false | .int _ => some false | .non => some false | .str _ => some false | .tup _ => some false | .lst _ => some false | _ => none)
def lookD (k : D) (kvs : List (D × D)) : Option D := (kvs.find? fun kv => decide (kv.1 = k)).map (·.2)
def putD (k v : D) (kvs : List (D × D)) : List (D × D) :=
  if (kvs.any fun kv => decide (kv.1 = k)) = true then kvs.map (fun kv => if kv.1 = k then (kv.1, v) else kv) else kvs ++ [(k, v)]
def rngD (a b : Int) : List D := (List.range (b - a).toNat).map fun i => D.int (a + (i : Nat))
def rngC (a b c : Int) : List D := (List.range ((b - a + c - 1) / c).toNat).map fun i => D.int (a + (i : Nat) * c)
/-- a key of a dict whose keys are tuples, are none -/
def okK (t : Bool) (y : D) : Bool := if t = true then (match y with
  | .tup ds => ds.all flatK
  | _ => false) else flatK y
/-- what a walk yields -/
def itD (k : ItK) (vs : List D) : Option (List D) :=
  match k, vs with
  | .seq, [.lst ds] => some ds
  | .seq, [.tup ds] => some ds
  | .seq, [.ktup ds] => some ds
  | .rng1, [.int n] => if -(2 ^ 62) ≤ n ∧ n ≤ sizeLine then some (rngD 0 n) else none
  | .rng2, [.int a, .int b] => if -(2 ^ 61) ≤ a ∧ a < 2 ^ 61 ∧ -(2 ^ 61) ≤ b ∧ b < 2 ^ 61 ∧ b - a ≤ sizeLine then some (rngD a b) else none
  | .rng3, [.int a, .int b, .int c] => if -(2 ^ 61) ≤ a ∧ a < 2 ^ 61 ∧ -(2 ^ 61) ≤ b ∧ b < 2 ^ 61 ∧ 0 < c ∧ c < 2 ^ 30 ∧ b - a ≤ sizeLine then some (rngC a b c) else none
  | .zip, [.lst a, .lst b] => some ((a.zip b).map fun p => .tup [p.1, p.2])
  | .keys, [.dic _ kvs] => some (kvs.map (·.1))
  | .enum, [.lst a] => some (a.zipIdx.map fun p => .tup [.int (p.2 : Nat), p.1])
  | .rev, [.lst ds] => some ds.reverse
  | .rev, [.tup ds] => some ds.reverse
  | _, _ => none
mutual
def bindP : Pt → D → Sl → Option Sl
  | .v i, d, ρ => some (ρ.set i (.fz d))
  | .t ps, d, ρ => match d with
    | .tup ds => if ds.length = ps.length then bindPs ps ds ρ else none
    | _ => none
def bindPs : List Pt → List D → Sl → Option Sl
  | [], _, ρ => some ρ
  | p :: ps, d :: ds, ρ => match bindP p d ρ with
    | some ρ' => bindPs ps ds ρ'
    | none => none
  | _ :: _, [], _ => none
end
def killS (ρ : Sl) : List Nat → Sl
  | [] => ρ
  | v :: vs => (killS ρ vs).set v .un
def compL {α : Type} (f : D → Mem → R (Option α)) : List D → Mem → R (List α)
  | [], M => .ok [] M
  | d :: ds, M => (f d M).bind fun o M1 => (compL f ds M1).bind fun r M2 => .ok (match o with | some y => y :: r | none => r) M2
def strsOf : List D → Option (List Str)
  | [] => some []
  | .str s :: r => (strsOf r).map (s :: ·)
  | _ => none
/-- methods of values -/
def mthD (m : Mth) (x : D) (ds : List D) : Option D :=
  match m, x, ds with
  | .index, .ktup xs, [.str z] => (strsOf xs).bind fun ys => if z ∈ ys then some (.int ((ys.idxOf z : Nat) : Int)) else none
  | .indexL, .lst xs, [y] => (match D.pys xs, D.py y with
    | some bs, some a => if SeqAt.shaped (.list bs) = true ∧ SeqAt.shaped a = true then (bs.findIdx? fun z => PyData.eqv z a).map fun j => .int ((j : Nat) : Int) else none
    | _, _ => none)
  | _, _, _ => none
theorem mthD_index (xs as : List D) : mthD .index (.ktup xs) as = match as with
    | [.str z] => (strsOf xs).bind fun ys => if z ∈ ys then some (.int ((ys.idxOf z : Nat) : Int)) else none
    | _ => none := by
  unfold mthD
  split <;> first | rfl | (rename_i h _ _; cases h) | skip
  all_goals (split <;> first | rfl | skip)
  all_goals simp_all
theorem mthD_indexL (xs as : List D) : mthD .indexL (.lst xs) as = match as with
    | [y] => (match D.pys xs, D.py y with
      | some bs, some a => if SeqAt.shaped (.list bs) = true ∧ SeqAt.shaped a = true then (bs.findIdx? fun z => PyData.eqv z a).map fun j => .int ((j : Nat) : Int) else none
      | _, _ => none)
    | _ => none := by
  match as with
  | [] => rfl
  | [y] => rfl
  | _ :: _ :: _ => rfl
/-- what a method is asked of -/
def mthOk (m : Mth) (x : D) : Bool :=
  match m, x with
  | .index, .ktup _ => true
  | .indexL, .lst _ => true
  | _, _ => false
def slotR (ρ : Sl) (i : Nat) : Option D :=
  match ρ[i]? with
  | some (.fz d) => some d
  | _ => none

/-! ### the evaluator -/
structure Cfg where
  call : Nat → List D → Mem → R (Md × D)
  consts : List D
  sub : Nat → Nat → Option Bool
  dcts : List (List (Str × D))
/-- what a dict of the top holds -/
def kgetD (ds : List (List (Str × D))) (k : Nat) : D → Option D
  | .str z => ds[k]?.bind fun kvs => kvs.lookup z
  | _ => none
/-- the greatest, or what is given -/
def mxdD : D → D → Option D
  | .lst ds, .int j => (intsOf ds).map fun ns => .int ((maxL ns).getD j)
  | _, _ => none
mutual
def hvE (sub : Nat → Nat → Option Bool) (k : Nat) : Hx → Option D
  | .lit d => some d
  | .tup hs => (hvEs sub k hs).map .tup
  | .isi c => (sub k c).map .bl
  | .isv => some (.bl true)
  | .and hs => hvAnd sub k hs
  | .or hs => hvOr sub k hs
  | .not h => match hvE sub k h with
    | some (.bl b) => some (.bl (!b))
    | _ => none
def hvEs (sub : Nat → Nat → Option Bool) (k : Nat) : List Hx → Option (List D)
  | [] => some []
  | h :: hs => match hvE sub k h, hvEs sub k hs with
    | some d, some ds => some (d :: ds)
    | _, _ => none
def hvAnd (sub : Nat → Nat → Option Bool) (k : Nat) : List Hx → Option D
  | [] => none
  | h :: hs => match hvE sub k h with
    | some (.bl b) => match hs with
      | [] => some (.bl b)
      | _ => if b then hvAnd sub k hs else some (.bl false)
    | _ => none
def hvOr (sub : Nat → Nat → Option Bool) (k : Nat) : List Hx → Option D
  | [] => none
  | h :: hs => match hvE sub k h with
    | some (.bl b) => match hs with
      | [] => some (.bl b)
      | _ => if b then some (.bl true) else hvOr sub k hs
    | _ => none
end
def D.noLk : List (D × D) → Bool
  | [] => true
  | q :: kvs => q.2.noL && D.noLk kvs
def MO.noL : MO → Bool
  | .lst ds => D.noLs ds
  | .dic _ kvs => D.noLk kvs
  | _ => false
/-- nothing in memory leads to a list -/
def memOk (M : Mem) : Bool := M.all MO.noL
/-- what is looked at gives nothing away -/
def borR {α : Type} (_ : Mem) (ok : α → Bool) (r : R α) : R α :=
  match r with
    | .ok d M1 => if ok d = true ∧ memOk M1 = true then .ok d M1 else .st
    | .ex c M1 => if memOk M1 = true then .ex c M1 else .st
    | .st => .st

/-- a link of a chain of comparisons -/
def chR (r : R D) (k : Mem → R D) : R D := r.bind fun t M => match t with
  | .bl true => k M
  | .bl false => .ok (.bl false) M
  | _ => .st
def lookR (M : Mem) (r : R D) : R D :=
  match r with
  | .ok d M1 => if M1.isEmpty = true ∧ d.noL = true then .ok d M else .st
  | .ex c M1 => if M1.isEmpty = true then .ex c M else .st
  | .st => .st
/-- a slice's part: left out, or an int -/
def partX (x : Ex) (d : D) : Option (Option Int) :=
  match x with
  | .lit .non => some none
  | _ => (partD d).map some
mutual
def evE (c : Cfg) : Ex → Sl → Mem → R D
  | .var i, ρ, M => match ρ[i]? with
    | some (.fz d) => .ok d M
    | _ => .st
  | .lit d, _, M => .ok d M
  | .glob k, _, M => R.of c.consts[k]? M
  | .tup es, ρ, M => (evEs c es ρ M).bind fun ds M1 => .ok (.tup ds) M1
  | .lst es, ρ, M => (evEs c es ρ M).bind fun ds M1 => .ok (.lst ds) M1
  | .dict0, _, M => .ok (.dic false []) M
  | .bin o a b, ρ, M => (evE c a ρ M).bind fun x M1 => (evE c b ρ M1).bind fun y M2 => R.of (binD o x y) M2
  | .neg a, ρ, M => (evE c a ρ M).bind fun x M1 => match x with
    | .int i => .ok (.int (-i)) M1
    | _ => .st
  | .cmp o a b, ρ, M => (evE c a ρ M).bind fun x M1 => (evE c b ρ M1).bind fun y M2 => R.of (cmpD o x y) M2
  | .chain o o2 a b d, ρ, M => (evE c a ρ M).bind fun x M1 => (evE c b ρ M1).bind fun y M2 => (R.of (cmpD o x y) M2).bind fun t M3 => match t with
    | .bl true => (evE c d ρ M3).bind fun z M4 => R.of (cmpD o2 y z) M4
    | .bl false => .ok (.bl false) M3
    | _ => .st
  | .isN a ng, ρ, M => (evE c a ρ M).bind fun x M1 => .ok (.bl (match x with | .non => !ng | _ => ng)) M1
  | .and es, ρ, M => evAnd c es ρ M
  | .or es, ρ, M => evOr c es ρ M
  | .not a, ρ, M => (evE c a ρ M).bind fun x M1 => (R.of (truth x) M1).bind fun b M2 => .ok (.bl (!b)) M2
  | .ite q a b, ρ, M => (evE c q ρ M).bind fun x M1 => (R.of (truth x) M1).bind fun t M2 => if t then evE c a ρ M2 else evE c b ρ M2
  | .ix a b, ρ, M => (evE c a ρ M).bind fun x M1 => (evE c b ρ M1).bind fun y M2 => R.of (ixD x y) M2
  | .sl a lo hi, ρ, M => (evE c a ρ M).bind fun x M1 => (evE c lo ρ M1).bind fun y M2 => (R.of (partX lo y) M2).bind fun l M3 => (evE c hi ρ M3).bind fun z M4 => (R.of (partX hi z) M4).bind fun u M5 => R.of (slD x l u) M5
  | .call f es, ρ, M => (evEs c es ρ M).bind fun ds M1 => (c.call f ds M1).bind fun r M2 => .ok r.2 M2
  | .blt b es, ρ, M => (evRs c es ρ M).bind fun ds M1 => R.of (bltD b ds) M1
  | .mth m o es, ρ, M => (evE c o ρ M).bind fun x M1 => if mthOk m x = true then (evEs c es ρ M1).bind fun ds M2 => R.of (mthD m x ds) M2 else .st
  | .isi a t, ρ, M => (evE c a ρ M).bind fun x M1 => (R.of (isiD t x) M1).bind fun b M2 => .ok (.bl b) M2
  | .comp elt p k args conds own, ρ, M => (evEs c args ρ M).bind fun ds M1 => (R.of (itD k ds) M1).bind fun items M2 =>
      ((compL (fun d M3 => match bindP p d (killS ρ own) with
        | some ρ' => (evAll c conds ρ' M3).bind fun b M4 => if b then (evE c elt ρ' M4).bind fun y M5 => .ok (some y) M5 else .ok none M4
        | none => .st) items M2).nox).bind fun r M3 => .ok (.lst r) M3
  | .bor e, ρ, M => borR M D.noL (evE c e (viewS ρ) M)
  | .lrng es, ρ, M => (evEs c es ρ M).bind fun ds M1 => (R.of (itD (if ds.length = 1 then .rng1 else .rng2) ds) M1).bind fun its M2 => .ok (.lst its) M2
  | .dget d k o, ρ, M => (evE c d ρ M).bind fun x M1 => match x with
    | .dic t kvs => (evE c k ρ M1).bind fun y M2 => if okK t y = true then (match o with
        | none => .ok ((lookD y kvs).getD .non) M2
        | some e => (evE c e ρ M2).bind fun z M3 => .ok ((lookD y kvs).getD z) M3) else .st
    | _ => .st
  | .dix d k, ρ, M => (evE c d ρ M).bind fun x M1 => match x with
    | .dic t kvs => (evE c k ρ M1).bind fun y M2 => if okK t y = true then R.of (lookD y kvs) M2 else .st
    | _ => .st
  | .din k d ng, ρ, M => (evE c k ρ M).bind fun y M1 => (evE c d ρ M1).bind fun x M2 => match x with
    | .dic t kvs => if okK t y = true then .ok (.bl ((lookD y kvs).isSome != ng)) M2 else .st
    | _ => .st
  | .comp2 elt p k args conds own p2 k2 args2 conds2 own2, ρ, M => (evEs c args ρ M).bind fun ds M1 => (R.of (itD k ds) M1).bind fun items M2 =>
      ((compL (fun d M3 => match bindP p d (killS ρ own) with
        | some ρ' => (evAll c conds ρ' M3).bind fun b M4 => if b then (evEs c args2 ρ' M4).bind fun ds2 M5 => (R.of (itD k2 ds2) M5).bind fun items2 M6 =>
            (compL (fun d2 M7 => match bindP p2 d2 (killS ρ' own2) with
              | some ρ2 => (evAll c conds2 ρ2 M7).bind fun b2 M8 => if b2 then (evE c elt ρ2 M8).bind fun y M9 => .ok (some y) M9 else .ok none M8
              | none => .st) items2 M6).bind fun r M10 => .ok (some r) M10 else .ok none M4
        | none => .st) items M2).nox).bind fun r M3 => if r.flatten.length ≤ sizeLine then .ok (.lst r.flatten) M3 else .st
  | .look e, ρ, M => lookR M (evE c e (lookS M ρ) [])
  | .rpop e, ρ, M => (evE c e ρ M).bind fun x M1 => match x with
    | .ref n => (match M1[n]? with
      | some (.lst ds) => (match ds[ds.length - 1]? with
        | some y => .ok y (M1.set n (.lst ds.dropLast))
        | none => .st)
      | _ => .st)
    | _ => .st
  | .rapp e x, ρ, M => (evE c e ρ M).bind fun r M1 => match r with
    | .ref n => (match M1[n]? with
      | some (.lst _) => (evE c x ρ M1).bind fun y M2 => (match M2[n]? with
        | some (.lst ds) => if ds.length < sizeLine then .ok .non (M2.set n (.lst (ds ++ [y]))) else .st
        | _ => .st)
      | _ => .st)
    | _ => .st
  | .fld ks e f, ρ, M => (evE c e ρ M).bind fun x M1 => match x with
    | .ins k fs => if k ∈ ks then R.of (fs.lookup f) M1 else .st
    | _ => .st
  | .mcall k m f o es, ρ, M => (evE c o ρ M).bind fun x M1 => match x with
    | .ins k' fs => if k' = k ∧ fs.lookup m = none then (evEs c es ρ M1).bind fun ds M2 => (c.call f (x :: ds) M2).bind fun r M3 => .ok r.2 M3 else .st
    | _ => .st
  | .mk f es, ρ, M => (evEs c es ρ M).bind fun ds M1 => ((c.call f ds M1).nox).bind fun r M2 => if r.1 = .z then .ok r.2 M2 else .st
  | .disp ks es, ρ, M => (evEs c es ρ M).bind fun ds M1 => if ks.length = ds.length then .ok (.dic false (((ks.map .str).zip ds).foldl (fun acc q => putD q.1 q.2 acc) [])) M1 else .st
  | .dcomp kx vx p k args own, ρ, M => (evEs c args ρ M).bind fun ds M1 => (R.of (itD k ds) M1).bind fun items M2 =>
      ((compL (fun d M3 => match bindP p d (killS ρ own) with
        | some ρ' => (evE c kx ρ' M3).bind fun y M4 => (evE c vx ρ' M4).bind fun z M5 => if okK false y = true then .ok (some (y, z)) M5 else .st
        | none => .st) items M2).nox).bind fun r M3 => .ok (.dic false (r.foldl (fun acc q => putD q.1 q.2 acc) [])) M3
  | .newD t, _, M => .ok (.ref M.length) (M ++ [.dic t []])
  | .rsl a, ρ, M => (evE c a ρ M).bind fun x M1 => match x with
    | .lst ds => .ok (.lst ds.reverse) M1
    | _ => .st
  | .kget k e, ρ, M => (evE c e ρ M).bind fun x M1 => R.of (kgetD c.dcts k x) M1
  | .mxd a d, ρ, M => (evE c a ρ M).bind fun x M1 => (evE c d ρ M1).bind fun y M2 => R.of (mxdD x y) M2
  | .ch4 o1 o2 o3 o4 a b g d e, ρ, M => (evE c a ρ M).bind fun x M1 => (evE c b ρ M1).bind fun y M2 => chR (R.of (cmpD o1 x y) M2) fun M3 => (evE c g ρ M3).bind fun z M4 => chR (R.of (cmpD o2 y z) M4) fun M5 => (evE c d ρ M5).bind fun u M6 => chR (R.of (cmpD o3 z u) M6) fun M7 => (evE c e ρ M7).bind fun v M8 => R.of (cmpD o4 u v) M8
def evEs (c : Cfg) : List Ex → Sl → Mem → R (List D)
  | [], _, M => .ok [] M
  | e :: es, ρ, M => (evE c e ρ M).bind fun d M1 => (evEs c es ρ M1).bind fun ds M2 => .ok (d :: ds) M2
def evRs (c : Cfg) : List Ex → Sl → Mem → R (List D)
  | [], _, M => .ok [] M
  | e :: es, ρ, M => (evE c e ρ M).bind fun d M1 => (evRs c es ρ M1).bind fun ds M2 => .ok (d :: ds) M2
def evAnd (c : Cfg) : List Ex → Sl → Mem → R D
  | [], _, _ => .st
  | e :: es, ρ, M => (evE c e ρ M).bind fun d M1 => match es with
    | [] => .ok d M1
    | _ => (R.of (truth d) M1).bind fun t M2 => if t then evAnd c es ρ M2 else .ok d M2
def evOr (c : Cfg) : List Ex → Sl → Mem → R D
  | [], _, _ => .st
  | e :: es, ρ, M => (evE c e ρ M).bind fun d M1 => match es with
    | [] => .ok d M1
    | _ => (R.of (truth d) M1).bind fun t M2 => if t then .ok d M2 else evOr c es ρ M2
/-- a comprehension's tests -/
def evAll (c : Cfg) : List Ex → Sl → Mem → R Bool
  | [], _, M => .ok true M
  | e :: es, ρ, M => (evE c e ρ M).bind fun d M1 => (R.of (truth d) M1).bind fun t M2 => if t then evAll c es ρ M2 else .ok false M2
end
def evT (c : Cfg) (e : Ex) (ρ : Sl) (M : Mem) : R Bool := (evE c e ρ M).bind fun d M1 => R.of (truth d) M1

/-! ### things of one's own -/
/-- the one depth of all lists and dicts among them -/
def joinM (rs : List (Md × D)) : Option Md :=
  match rs.filter (fun r => r.2.isLD) with
  | [] => some .all
  | r :: t => if (t.all fun q => decide (q.1 = r.1)) = true then some r.1 else none
def lstA (rs : List (Md × D)) (M : Mem) : R (Md × D) :=
  match joinM rs with
  | some m => .ok (m.up, .lst (rs.map (·.2))) M
  | none => .st
/-- a tuple of things of one's own -/
def tupA (rs : List (Md × D)) (M : Mem) : R (Md × D) :=
  match joinM rs with
  | some m => .ok (m.up, .tup (rs.map (·.2))) M
  | none => .st
def frA (d : D) : Option (Md × D) :=
  match d with
  | .lst ds => some (if (ds.all fun d => !d.isLD) = true then (.all, d) else (.s .z, d))
  | _ => none
def ixA (r : Md × D) (k : D) : Option (Md × D) :=
  match r.2, k with
  | .lst ds, .int i => (L2.atI ds i).map fun d => (r.1.dn, d)
  | .tup ds, .int i => (L2.atI ds i).map fun d => (r.1.dn, d)
  | _, _ => none
/-- a list or a dict of one's own, all in it settled -/
def dnA (r : Md × D) : Option (Md × D) :=
  match r.2 with
  | .dic t kvs => if r.1 = .z then none else some (.s .z, .dic t kvs)
  | .lst ds => if r.1 = .z then none else some (.s .z, .lst ds)
  | _ => none
def okB (r : Md × D) : Bool := r.2.noL || (decide (r.1 = .all) && r.2.tupNoL)
/-- a new list of what leads to no list -/
def lkB (r : Md × D) : Bool := okB r || (decide (r.1 = .s .z) && (match r.2 with
  | .lst ds => D.noLs ds
  | _ => false))
def lookA (M : Mem) (r : R (Md × D)) : R (Md × D) :=
  match r with
  | .ok d M1 => if M1.isEmpty = true ∧ lkB d = true then .ok d M else .st
  | .ex c M1 => if M1.isEmpty = true then .ex c M else .st
  | .st => .st
mutual
def evA (c : Cfg) : Ax → Sl → Mem → R (Md × D)
  | .e x, ρ, M => (evE c x ρ M).bind fun d M1 => .ok (Md.z, d) M1
  | .lst as, ρ, M => (evAs c as ρ M).bind fun rs M1 => lstA rs M1
  | .dict0 t, _, M => .ok (.all, .dic t []) M
  | .fr x, ρ, M => (evE c x ρ M).bind fun d M1 => R.of (frA d) M1
  | .call f es, ρ, M => (evEs c es ρ M).bind fun ds M1 => c.call f ds M1
  | .ix a k, ρ, M => (evA c a ρ M).bind fun r M1 => (evE c k ρ M1).bind fun x M2 => R.of (ixA r x) M2
  | .comp elt p k args conds own, ρ, M => (evEs c args ρ M).bind fun ds M1 => (R.of (itD k ds) M1).bind fun items M2 =>
      ((compL (fun d M3 => match bindP p d (killS ρ own) with
        | some ρ' => (evAll c conds ρ' M3).bind fun b M4 => if b then (evA c elt ρ' M4).bind fun y M5 => .ok (some y) M5 else .ok none M4
        | none => .st) items M2).nox).bind fun r M3 => lstA r M3
  | .bor a, ρ, M => borR M okB (evA c a (viewS ρ) M)
  | .dn a, ρ, M => (evA c a ρ M).bind fun r M1 => R.of (dnA r) M1
  | .mcall k m f o es, ρ, M => (evE c o ρ M).bind fun x M1 => match x with
    | .ins k' fs => if k' = k ∧ fs.lookup m = none then (evEs c es ρ M1).bind fun ds M2 => c.call f (x :: ds) M2 else .st
    | _ => .st
  | .tup as, ρ, M => (evAs c as ρ M).bind fun rs M1 => tupA rs M1
  | .look a, ρ, M => lookA M (evA c a (lookS M ρ) [])
def evAs (c : Cfg) : List Ax → Sl → Mem → R (List (Md × D))
  | [], _, M => .ok [] M
  | a :: as, ρ, M => (evA c a ρ M).bind fun r M1 => (evAs c as ρ M1).bind fun rs M2 => .ok (r :: rs) M2
end

/-- the fields of a new instance -/
def evFs (c : Cfg) : List (Str × Ex) → Sl → Mem → R (List (Str × D))
  | [], _, M => .ok [] M
  | q :: r, ρ, M => (evE c q.2 ρ M).bind fun d M1 => (evFs c r ρ M1).bind fun ds M2 => .ok ((q.1, d) :: ds) M2
inductive RS where
  | nx (ρ : Sl) (M : Mem) | rt (d : Md × D) (M : Mem) | bk (ρ : Sl) (M : Mem) | ct (ρ : Sl) (M : Mem) | ex (c : Nat) (ρ : Sl) (M : Mem) | st
def R.to {α : Type} (r : R α) (ρ : Sl) (f : α → Mem → RS) : RS :=
  match r with
  | .ok a M => f a M
  | .ex c M => .ex c ρ M
  | .st => .st
@[simp] theorem R.to_ok {α : Type} (a : α) (M : Mem) (ρ : Sl) (f : α → Mem → RS) : (R.ok a M).to ρ f = f a M := rfl
@[simp] theorem R.to_ex {α : Type} (c : Nat) (M : Mem) (ρ : Sl) (f : α → Mem → RS) : (R.ex c M : R α).to ρ f = .ex c ρ M := rfl
@[simp] theorem R.to_st {α : Type} (ρ : Sl) (f : α → Mem → RS) : (R.st : R α).to ρ f = .st := rfl
def RS.seq (r : RS) (f : Sl → Mem → RS) : RS :=
  match r with
  | .nx ρ M => f ρ M
  | r => r
@[simp] theorem RS.seq_nx (ρ : Sl) (M : Mem) (f : Sl → Mem → RS) : (RS.nx ρ M).seq f = f ρ M := rfl
@[simp] theorem RS.seq_rt (d : Md × D) (M : Mem) (f : Sl → Mem → RS) : (RS.rt d M).seq f = .rt d M := rfl
@[simp] theorem RS.seq_ex (c : Nat) (ρ : Sl) (M : Mem) (f : Sl → Mem → RS) : (RS.ex c ρ M).seq f = .ex c ρ M := rfl
@[simp] theorem RS.seq_bk (ρ : Sl) (M : Mem) (f : Sl → Mem → RS) : (RS.bk ρ M).seq f = .bk ρ M := rfl
@[simp] theorem RS.seq_ct (ρ : Sl) (M : Mem) (f : Sl → Mem → RS) : (RS.ct ρ M).seq f = .ct ρ M := rfl
@[simp] theorem RS.seq_st (f : Sl → Mem → RS) : (RS.st).seq f = .st := rfl
/-- for: a turn's end decides -/
def forL (f : D → Sl → Mem → RS) : List D → Sl → Mem → RS
  | [], ρ, M => .nx ρ M
  | d :: ds, ρ, M => match f d ρ M with
    | .nx ρ' M' => forL f ds ρ' M'
    | .ct ρ' M' => forL f ds ρ' M'
    | .bk ρ' M' => .nx ρ' M'
    | r => r
/-- while, n turns at most -/
def whileL (t : Sl → Mem → R Bool) (f : Sl → Mem → RS) : Nat → Sl → Mem → RS
  | 0, _, _ => .st
  | n + 1, ρ, M => (t ρ M).to ρ fun b M1 => if b then (match f ρ M1 with
      | .nx ρ' M' => whileL t f n ρ' M'
      | .ct ρ' M' => whileL t f n ρ' M'
      | .bk ρ' M' => .nx ρ' M'
      | r => r) else .nx ρ M1
open Classical in
noncomputable def whileW (t : Sl → Mem → R Bool) (f : Sl → Mem → RS) (ρ : Sl) (M : Mem) : RS :=
  if h : ∃ n, whileL t f n ρ M ≠ .st then whileL t f (choose h) ρ M else .st
/-- a slot that holds what came -/
def slM (r : Md × D) : SV := if r.1 = .z ∨ r.2.isLD = false then .fz r.2 else .ow r.1 r.2
/-- the thing on a path -/
def getP : D → List D → Option D
  | d, [] => some d
  | .lst ds, .int j :: ks => match L2.ixN ds.length j with
    | some n => match ds[n]? with
      | some d => getP d ks
      | none => none
    | none => none
  | .tup ds, .int j :: ks => match L2.ixN ds.length j with
    | some n => match ds[n]? with
      | some d => getP d ks
      | none => none
    | none => none
  | _, _ => none
/-- the thing on a path, another in its stead -/
def setP : D → List D → D → D
  | _, [], x => x
  | .lst ds, .int j :: ks, x => match L2.ixN ds.length j with
    | some n => match ds[n]? with
      | some d => .lst (ds.set n (setP d ks x))
      | none => .lst ds
    | none => .lst ds
  | .tup ds, .int j :: ks, x => match L2.ixN ds.length j with
    | some n => match ds[n]? with
      | some d => .tup (ds.set n (setP d ks x))
      | none => .tup ds
    | none => .tup ds
  | d, _, _ => d
/-- how deep it is one's own there -/
def dnP : Md → List D → Md
  | m, [] => m
  | m, _ :: ks => dnP m.dn ks
def pathB (m : Md) (d : D) (ks : List D) : Bool := (match getP d ks with | some (.lst _) => true | _ => false) && !decide (dnP m ks = .z)
/-- something is put into a list whose parts are ds: how deep the list is one's own then -/
def putM (m : Md) (top : Bool) (ds : List D) (r : Md × D) : Option Md :=
  if r.2.isLD = false ∨ r.1 = m.dn then some m
  else if top = true ∧ (ds.all fun d => !d.isLD) = true then some r.1.up else none
/-- the new list -/
def muD (mu : Mu) (k : D) (ds : List D) (y : D) : Option (List D) :=
  match mu, k with
  | .app, _ => if ds.length < sizeLine then some (ds ++ [y]) else none
  | .setk _, .int j => (L2.ixN ds.length j).map fun n => ds.set n y
  | .clear, _ => some []
  | .rev, _ => some ds.reverse
  | .ins _, .int j => if ds.length < sizeLine ∧ 0 ≤ j ∧ j < 2 ^ 63 then some (ds.take j.toNat ++ [y] ++ ds.drop j.toNat) else none
  | _, _ => none
def muK : Mu → Ex
  | .setk k => k
  | .ins k => k
  | _ => .lit .non
/-- the change of a thing whose parts are ds -/
def muR (i : Nat) (m : Md) (d : D) (ks : List D) (mu : Mu) (k : D) (r : Md × D) (ρ : Sl) (M : Mem) : RS :=
  match getP d ks with
  | some (.lst ds) => match putM (dnP m ks) ks.isEmpty ds r, muD mu k ds r.2 with
    | some m', some ds' => .nx (ρ.set i (.ow (if ks.isEmpty then m' else m) (setP d ks (.lst ds')))) M
    | _, _ => .st
  | _ => .st
/-- a list gets the parts of a new list -/
def extR (i : Nat) (m : Md) (d : D) (ks : List D) (r : Md × D) (ρ : Sl) (M : Mem) : RS :=
  match getP d ks, r.2 with
  | some (.lst ds), .lst ys => if r.1 ≠ .z ∧ (r.1.dn = (dnP m ks).dn ∨ (ys.all fun y => !y.isLD) = true) ∧ ds.length + ys.length ≤ sizeLine then .nx (ρ.set i (.ow m (setP d ks (.lst (ds ++ ys))))) M else .st
  | _, _ => .st
/-- what is put in -/
def evL (c : Cfg) : El → Sl → Mem → R (Md × D)
  | .a a, ρ, M => evA c a ρ M
  | .mv j, ρ, M => match ρ[j]? with
    | some (.ow m d) => .ok (m, d) M
    | _ => .st
def giveS : El → Sl → Sl
  | .a _, ρ => ρ
  | .mv j, ρ => ρ.set j .un
/-- several, one after another -/
def evLs (c : Cfg) : List El → Sl → Mem → R (List (Md × D))
  | [], _, M => .ok [] M
  | el :: els, ρ, M => (evL c el ρ M).bind fun r M1 => (evLs c els (giveS el ρ) M1).bind fun rs M2 => .ok (r :: rs) M2
/-- no error leaves -/
def noexS (r : RS) : RS :=
  match r with
  | .ex _ _ _ => .st
  | r => r
/-- an error comes to the clauses -/
def hdR (sub : Nat → Nat → Option Bool) (k : Nat) : List Hd → Sl → Mem → RS
  | [], ρ, M => .ex k ρ M
  | h :: hs, ρ, M => match sub k h.c with
    | some true => if (hs.all fun g => (sub k g.c).isSome) = true then (match hvE sub k h.b with
      | some d => .rt (Md.z, d) M
      | none => .st) else .st
    | some false => hdR sub k hs ρ M
    | none => .st
def tryR (sub : Nat → Nat → Option Bool) (hs : List Hd) (r : RS) : RS :=
  match r with
  | .ex k ρ M => hdR sub k hs ρ M
  | r => r
mutual
noncomputable def evS (c : Cfg) : Sm → Sl → Mem → RS
  | .asg p e, ρ, M => (evE c e ρ M).to ρ fun d M1 => match bindP p d ρ with
    | some ρ' => .nx ρ' M1
    | none => .st
  | .own i a, ρ, M => (evA c a ρ M).to ρ fun r M1 => .nx (ρ.set i (slM r)) M1
  | .mut i ps mu el, ρ, M => match mu with
    | .setk k => (evL c el ρ M).to ρ fun r M1 => match (giveS el ρ)[i]? with
      | some (.ow m d) => ((evEs c ps (giveS el ρ) M1).nox).to (giveS el ρ) fun ks M2 => if pathB m d ks = true then (evE c k (giveS el ρ) M2).to (giveS el ρ) fun x M3 => muR i m d ks mu x r (giveS el ρ) M3 else .st
      | _ => .st
    | mu => match ρ[i]? with
      | some (.ow m0 d0) => ((evEs c ps ρ M).nox).to ρ fun ks M1 => if pathB m0 d0 ks = true then (evE c (muK mu) ρ M1).to ρ fun x M2 => (evL c el ρ M2).to ρ fun r M3 => (match (giveS el ρ)[i]? with
        | some (.ow m d) => muR i m d ks mu x r (giveS el ρ) M3
        | _ => .st) else .st
      | _ => .st
  | .pop p i ps k, ρ, M => match ρ[i]? with
    | some (.ow m d) => ((evEs c ps ρ M).nox).to ρ fun ks M1 => if pathB m d ks = true then (evE c (k.getD (.lit (.int (-1)))) ρ M1).to ρ fun x M2 => (match getP d ks, x with
        | some (.lst ds), .int j => (match L2.ixN ds.length j with
          | some n => (match ds[n]? with
            | some y => if y.isLD = false ∧ -(2 ^ 63) ≤ j ∧ j < 2 ^ 63 then (match bindP p y (ρ.set i (.ow m (setP d ks (.lst (ds.eraseIdx n))))) with
              | some ρ' => .nx ρ' M2
              | none => .st) else .st
            | none => .st)
          | none => .st)
        | _, _ => .st) else .st
    | _ => .st
  | .aug i o e, ρ, M => match ρ[i]? with
    | some (.fz x) => (evE c e ρ M).to ρ fun y M1 => (R.of (augD o x y) M1).to ρ fun z M2 => .nx (ρ.set i (.fz z)) M2
    | _ => .st
  | .expr e, ρ, M => (evE c e ρ M).to ρ fun _ M1 => .nx ρ M1
  | .ret e, ρ, M => (evE c e ρ M).to ρ fun d M1 => .rt (Md.z, d) M1
  | .retN, _, M => .rt (Md.z, .non) M
  | .retA a, ρ, M => (evA c a ρ M).to ρ fun r M1 => .rt r M1
  | .retV i, ρ, M => match ρ[i]? with
    | some (.ow m d) => .rt (m, d) M
    | some (.fz d) => .rt (Md.z, d) M
    | _ => .st
  | .ifs q a b, ρ, M => (evT c q ρ M).to ρ fun t M1 => if t then evSs c a ρ M1 else evSs c b ρ M1
  | .for_ p k args body, ρ, M => (evEs c args ρ M).to ρ fun ds M1 => (R.of (itD k ds) M1).to ρ fun items M2 =>
      forL (fun d ρ M => match bindP p d ρ with
        | some ρ' => evSs c body ρ' M
        | none => .st) items ρ M2
  | .while_ q body, ρ, M => whileW (evT c q) (evSs c body) ρ M
  | .brk, ρ, M => .bk ρ M
  | .cnt, ρ, M => .ct ρ M
  | .pass, ρ, M => .nx ρ M
  | .raise e, ρ, M => .ex e ρ M
  | .freeze i, ρ, M => match ρ[i]? with
    | some (.ow _ d) => .nx (ρ.set i (.fz d)) M
    | some (.fz _) => .nx ρ M
    | _ => .st
  | .kill is, ρ, M => .nx (killS ρ is) M
  | .try_ body hs, ρ, M => tryR c.sub hs (evSs c body ρ M)
  | .forK p i body, ρ, M => match ρ[i]? with
    | some (.fz (.dic _ kvs)) => noexS (forL (fun d ρ M => match bindP p d ρ with
        | some ρ' => evSs c body ρ' M
        | none => .st) (kvs.map (·.1)) ρ M)
    | _ => .st
  | .popS i ps k, ρ, M => match ρ[i]? with
    | some (.ow m d) => ((evEs c ps ρ M).nox).to ρ fun ks M1 => if pathB m d ks = true then (evE c (k.getD (.lit (.int (-1)))) ρ M1).to ρ fun x M2 => (match getP d ks, x with
        | some (.lst ds), .int j => (match L2.ixN ds.length j with
          | some n => if -(2 ^ 63) ≤ j ∧ j < 2 ^ 63 then .nx (ρ.set i (.ow m (setP d ks (.lst (ds.eraseIdx n))))) M2 else .st
          | none => .st)
        | _, _ => .st) else .st
    | _ => .st
  | .clr a, ρ, M => (evA c a ρ M).to ρ fun r M1 => match r with
    | (.z, _) => .st
    | (_, .lst _) => .nx ρ M1
    | _ => .st
  | .dset i k v, ρ, M => match ρ[i]? with
    | some (.ow m (.dic t kvs)) => if m = .s .z then (evE c v ρ M).to ρ fun x M1 => (evE c k ρ M1).to ρ fun y M2 => if kvs.length < sizeLine ∧ okK t y = true then .nx (ρ.set i (.ow (.s .z) (.dic t (putD y x kvs)))) M2 else .st else .st
    | _ => .st
  | .toRef i, ρ, M => match ρ[i]? with
    | some (.ow m (.lst ds)) => if m = .z then .st else .nx (ρ.set i (.fz (.ref M.length))) (M ++ [.lst ds])
    | some (.ow m (.dic t kvs)) => if m = .z then .st else .nx (ρ.set i (.fz (.ref M.length))) (M ++ [.dic t kvs])
    | _ => .st
  | .mkI k fs, ρ, M => (evFs c fs (.un :: ρ) M).to ρ fun r M1 => .rt (Md.z, .ins k r) M1
  | .rset e k v, ρ, M => (evE c v ρ M).to ρ fun x M1 => (evE c e ρ M1).to ρ fun r M2 => (match r with
    | .ref n => (match M2[n]? with
      | some (.dic _ _) => (evE c k ρ M2).to ρ fun y M3 => (match M3[n]? with
        | some (.dic t kvs) => if kvs.length < sizeLine ∧ okK t y = true then .nx ρ (M3.set n (.dic t (putD y x kvs))) else .st
        | _ => .st)
      | _ => .st)
    | _ => .st)
  | .ext i ps a, ρ, M => match ρ[i]? with
    | some (.ow m d) => ((evEs c ps ρ M).nox).to ρ fun ks M1 => if pathB m d ks = true then (evA c a ρ M1).to ρ fun r M2 => extR i m d ks r ρ M2 else .st
    | _ => .st
  | .retT els, ρ, M => ((evLs c els ρ M).bind fun rs M1 => tupA rs M1).to ρ fun r M1 => .rt r M1
noncomputable def evSs (c : Cfg) : List Sm → Sl → Mem → RS
  | [], ρ, M => .nx ρ M
  | s :: r, ρ, M => (evS c s ρ M).seq fun ρ' M' => evSs c r ρ' M'
end

/-! ### programs -/
structure Fn where
  np : Nat
  ns : Nat
  body : List Sm
structure Prog where
  fns : List Fn
  consts : List D
  subs : List (Nat × Nat × Bool)
  dcts : List (List (Str × D))
def Prog.sub (P : Prog) (k c : Nat) : Option Bool := (P.subs.find? fun t => decide (t.1 = k) && decide (t.2.1 = c)).map (·.2.2)
def startS (ns : Nat) (ds : List D) : Sl := ds.map .fz ++ List.replicate (ns - ds.length) .un
noncomputable def callN (P : Prog) : Nat → Nat → List D → Mem → R (Md × D)
  | 0, _, _, _ => .st
  | n + 1, f, ds, M => match P.fns[f]? with
    | some F => if ds.length = F.np then (match evSs ⟨callN P n, P.consts, P.sub, P.dcts⟩ F.body (startS F.ns ds) M with
      | .nx _ M' => .ok (Md.z, .non) M'
      | .rt d M' => .ok d M'
      | .ex c _ M' => .ex c M'
      | _ => .st) else .st
    | none => .st
noncomputable abbrev cfgN (P : Prog) (n : Nat) : Cfg := ⟨callN P n, P.consts, P.sub, P.dcts⟩
end VL

/-! V1: how data lies in the heap -/
namespace VL
open PySem PySem.Spec PyProof.Rows L2

def keyD : Key → D
  | .inl i => .int i
  | .inr s => .str s
def tkeyD (ks : List Key) : D := .tup (ks.map keyD)
/-- a dict at a, its keys as data -/
def DicAt (F : Hp) (a : Addr) : Bool → List (D × V) → Prop
  | false, l => ∃ kvs, F a = some (.dK kvs) ∧ l = kvs.map fun p => (keyD p.1, p.2)
  | true, l => ∃ kvs, F a = some (.dT kvs) ∧ l = kvs.map fun p => (tkeyD p.1, p.2)
/-- a kept tuple -/
def TupK (K : PySem.W.Frag) (a : Addr) : Prop := ∃ o, K.lookup a = some o ∧ o.cls = .type "tuple" ∧ o.dict = none
section
variable (K : PySem.W.Frag) (ι : List Addr) (F : Hp)
mutual
inductive Rep : V → D → Prop
  | non : Rep .non .non
  | bl (b : Bool) : Rep (.bl b) (.bl b)
  | int (i : Int) : Rep (.int i) (.int i)
  | str (s : Str) : Rep (.str s) (.str s)
  | tup {a : Addr} {vs : List V} {ds : List D} : F a = some (.tup vs) → Reps vs ds → Rep (.ref a) (.tup ds)
  | ktup {a : Addr} {vs : List V} {ds : List D} : SqT K F a vs → TupK K a → Reps vs ds → Rep (.ref a) (.ktup ds)
  | lst {a : Addr} {vs : List V} {ds : List D} : SqL K F a vs → Reps vs ds → Rep (.ref a) (.lst ds)
  | dic {a : Addr} {t : Bool} {l : List (D × V)} {kds : List (D × D)} : DicAt F a t l → RepK l kds → Rep (.ref a) (.dic t kds)
  | ref {n : Nat} {a : Addr} : ι[n]? = some a → Rep (.ref a) (.ref n)
  | ins {a dx : Addr} {c : Str} {l : List (Str × V)} {fs : List (Str × D)} : F a = some (.ins (He.ga K c) dx l) → RepK (l.map fun p => (D.str p.1, p.2)) (fs.map fun p => (D.str p.1, p.2)) → Rep (.ref a) (.ins c fs)
inductive Reps : List V → List D → Prop
  | nil : Reps [] []
  | cons {v : V} {d : D} {vs : List V} {ds : List D} : Rep v d → Reps vs ds → Reps (v :: vs) (d :: ds)
inductive RepK : List (D × V) → List (D × D) → Prop
  | nil : RepK [] []
  | cons {k : D} {v : V} {d : D} {l : List (D × V)} {m : List (D × D)} : Rep v d → RepK l m → RepK ((k, v) :: l) ((k, d) :: m)
end
end
section
variable {K : PySem.W.Frag} {ι ι' ι1 ι2 : List Addr} {F F' F1 F2 H H' H1 H2 : Hp}
theorem Rd.mono {a : Addr} {u : HO} (hF : ∀ a u, F a = some u → F' a = some u) (h : Rd F a u) : Rd F' a u := by
  rcases h with h | ⟨o, h⟩
  · exact .inl (hF _ _ h)
  · exact .inr ⟨o, hF _ _ h⟩
theorem SqL.mono {a : Addr} {xs : List V} (hF : ∀ a u, F a = some u → F' a = some u) (h : SqL K F a xs) : SqL K F' a xs := by
  rcases h with (h | ⟨o, h⟩) | h
  · exact .inl (.inl (hF _ _ h))
  · exact .inl (.inr ⟨o, hF _ _ h⟩)
  · exact .inr h
theorem SqT.mono {a : Addr} {xs : List V} (hF : ∀ a u, F a = some u → F' a = some u) (h : SqT K F a xs) : SqT K F' a xs := by
  rcases h with (h | ⟨o, h⟩) | h
  · exact .inl (.inl (hF _ _ h))
  · exact .inl (.inr ⟨o, hF _ _ h⟩)
  · exact .inr h
theorem DicAt.mono {a : Addr} {t : Bool} {l : List (D × V)} (hF : ∀ a u, F a = some u → F' a = some u) (h : DicAt F a t l) : DicAt F' a t l := by
  cases t <;> (obtain ⟨k, h, e⟩ := h; exact ⟨k, hF _ _ h, e⟩)
mutual
theorem Rep.mono (hι : ∀ (n : Nat) a, ι[n]? = some a → ι'[n]? = some a) (hF : ∀ a u, F a = some u → F' a = some u) : ∀ {v : V} {d : D}, Rep K ι F v d → Rep K ι' F' v d
  | _, _, .non => .non
  | _, _, .bl b => .bl b
  | _, _, .int i => .int i
  | _, _, .str s => .str s
  | _, _, .tup h r => .tup (hF _ _ h) (Reps.mono hι hF r)
  | _, _, .ktup h k r => .ktup (SqT.mono hF h) k (Reps.mono hι hF r)
  | _, _, .lst h r => .lst (SqL.mono hF h) (Reps.mono hι hF r)
  | _, _, .dic h r => .dic (h.mono hF) (RepK.mono hι hF r)
  | _, _, .ref h => .ref (hι _ _ h)
  | _, _, .ins h r => .ins (hF _ _ h) (RepK.mono hι hF r)
theorem Reps.mono (hι : ∀ (n : Nat) a, ι[n]? = some a → ι'[n]? = some a) (hF : ∀ a u, F a = some u → F' a = some u) : ∀ {v : List V} {d : List D}, Reps K ι F v d → Reps K ι' F' v d
  | _, _, .nil => .nil
  | _, _, .cons h r => .cons (Rep.mono hι hF h) (Reps.mono hι hF r)
theorem RepK.mono (hι : ∀ (n : Nat) a, ι[n]? = some a → ι'[n]? = some a) (hF : ∀ a u, F a = some u → F' a = some u) : ∀ {v : List (D × V)} {d : List (D × D)}, RepK K ι F v d → RepK K ι' F' v d
  | _, _, .nil => .nil
  | _, _, .cons h r => .cons (Rep.mono hι hF h) (RepK.mono hι hF r)
end
theorem Reps.length : ∀ {vs : List V} {ds : List D}, Reps K ι F vs ds → vs.length = ds.length
  | _, _, .nil => rfl
  | _, _, .cons _ r => congrArg (· + 1) r.length
theorem Reps.get : ∀ {vs : List V} {ds : List D} {i : Nat} {d : D}, Reps K ι F vs ds → ds[i]? = some d → ∃ v, vs[i]? = some v ∧ Rep K ι F v d
  | _, _, i, _, .nil, h => by simp at h
  | _, _, 0, _, .cons r _, h => by
    simp only [List.getElem?_cons_zero, Option.some.injEq] at h
    subst h; exact ⟨_, rfl, r⟩
  | _, _, i + 1, _, .cons _ r, h => by
    simp only [List.getElem?_cons_succ] at h
    obtain ⟨v, e, q⟩ := r.get h
    exact ⟨v, by simpa using e, q⟩
theorem Reps.getV : ∀ {vs : List V} {ds : List D} {i : Nat} {v : V}, Reps K ι F vs ds → vs[i]? = some v → ∃ d, ds[i]? = some d ∧ Rep K ι F v d
  | _, _, i, _, .nil, h => by simp at h
  | _, _, 0, _, .cons r _, h => by
    simp only [List.getElem?_cons_zero, Option.some.injEq] at h
    subst h; exact ⟨_, rfl, r⟩
  | _, _, i + 1, _, .cons _ r, h => by
    simp only [List.getElem?_cons_succ] at h
    obtain ⟨v, e, q⟩ := r.getV h
    exact ⟨v, by simpa using e, q⟩
theorem Reps.append : ∀ {vs ws : List V} {ds es : List D}, Reps K ι F vs ds → Reps K ι F ws es → Reps K ι F (vs ++ ws) (ds ++ es)
  | _, _, _, _, .nil, q => q
  | _, _, _, _, .cons r s, q => .cons r (s.append q)
theorem Reps.take : ∀ {vs : List V} {ds : List D} (n : Nat), Reps K ι F vs ds → Reps K ι F (vs.take n) (ds.take n)
  | _, _, 0, _ => by simpa using Reps.nil
  | _, _, _ + 1, .nil => by simpa using Reps.nil
  | _, _, n + 1, .cons r s => by simpa using Reps.cons r (s.take n)
theorem Reps.drop : ∀ {vs : List V} {ds : List D} (n : Nat), Reps K ι F vs ds → Reps K ι F (vs.drop n) (ds.drop n)
  | _, _, 0, h => by simpa using h
  | _, _, _ + 1, .nil => by simpa using Reps.nil
  | _, _, n + 1, .cons r s => by simpa using s.drop n
theorem Reps.set {v : V} {d : D} (q : Rep K ι F v d) : ∀ {vs : List V} {ds : List D} (n : Nat), Reps K ι F vs ds → Reps K ι F (vs.set n v) (ds.set n d)
  | _, _, _, .nil => by simpa using Reps.nil
  | _, _, 0, .cons r s => by simpa using Reps.cons q s
  | _, _, n + 1, .cons r s => by simpa using Reps.cons r (s.set q n)
theorem Reps.reverse : ∀ {vs : List V} {ds : List D}, Reps K ι F vs ds → Reps K ι F vs.reverse ds.reverse
  | _, _, .nil => .nil
  | _, _, .cons r s => by simpa using s.reverse.append (.cons r .nil)

/-! ### what lies there -/
def isDicO : HO → Bool
  | .dK _ => true
  | .dT _ => true
  | _ => false
/-- the settled part is there; a dict of it may be locked -/
def FSub (F H : Hp) : Prop := ∀ a u, F a = some u → H a = some u ∨ (isDicO u = true ∧ ∃ o, H a = some (.frz o u))
theorem FSub.isSome {a : Addr} {u : HO} (h : FSub F H) (e : F a = some u) : H a ≠ none := by
  rcases h a u e with q | ⟨_, o, q⟩ <;> (rw [q]; exact fun z => by cases z)
theorem FSub.sqL {a : Addr} {xs : List V} (h : FSub F H) (q : SqL K F a xs) : SqL K H a xs := by
  rcases q with (q | ⟨o, q⟩) | q
  · rcases h _ _ q with r | ⟨r, _⟩
    · exact .inl (.inl r)
    · cases r
  · rcases h _ _ q with r | ⟨r, _⟩
    · exact .inl (.inr ⟨o, r⟩)
    · cases r
  · exact .inr q
theorem FSub.rdL {a : Addr} {xs : List V} (h : FSub F H) (q : Rd F a (.lst xs)) : Rd H a (.lst xs) := by
  rcases q with q | ⟨o, q⟩
  · rcases h _ _ q with r | ⟨r, _⟩
    · exact .inl r
    · cases r
  · rcases h _ _ q with r | ⟨r, _⟩
    · exact .inr ⟨o, r⟩
    · cases r
theorem FSub.sqT {a : Addr} {xs : List V} (h : FSub F H) (q : SqT K F a xs) : SqT K H a xs := by
  rcases q with (q | ⟨o, q⟩) | q
  · rcases h _ _ q with r | ⟨r, _⟩
    · exact .inl (.inl r)
    · cases r
  · rcases h _ _ q with r | ⟨r, _⟩
    · exact .inl (.inr ⟨o, r⟩)
    · cases r
  · exact .inr q
/-- a list or a dict of its own -/
def OwRep (K : PySem.W.Frag) (ι : List Addr) (F H : Hp) (a : Addr) : D → Prop
  | .lst ds => ∃ vs, H a = some (.lst vs) ∧ Reps K ι F vs ds
  | .dic t kds => ∃ l, DicAt H a t l ∧ RepK K ι F l kds
  | _ => False
def MORep (K : PySem.W.Frag) (ι : List Addr) (F H : Hp) (a : Addr) : MO → Prop
  | .lst ds => OwRep K ι F H a (.lst ds)
  | .dic t kds => OwRep K ι F H a (.dic t kds)
  | .ins _ _ => False
structure MemRep (K : PySem.W.Frag) (ι : List Addr) (F : Hp) (M : Mem) (H : Hp) : Prop where
  len : ι.length = M.length
  nd : ι.Nodup
  at_ : ∀ (n : Nat) (a : Addr) (mo : MO), ι[n]? = some a → M[n]? = some mo → F a = none ∧ MORep K ι F H a mo
theorem OwRep.isSome {a : Addr} {d : D} (h : OwRep K ι F H a d) : H a ≠ none := by
  cases d with
  | lst ds => obtain ⟨vs, e, _⟩ := h; rw [e]; exact fun z => by cases z
  | dic t ds =>
    obtain ⟨l, e, _⟩ := h
    cases t <;> (obtain ⟨k, e, _⟩ := e; rw [e]; exact fun z => by cases z)
  | _ => exact False.elim h
theorem OwRep.mono {a : Addr} {d : D} (hι : ∀ (n : Nat) a, ι[n]? = some a → ι'[n]? = some a) (hF : ∀ a u, F a = some u → F' a = some u) (hH : ∀ u, H a = some u → H' a = some u) (h : OwRep K ι F H a d) : OwRep K ι' F' H' a d := by
  cases d with
  | lst ds => obtain ⟨vs, e, r⟩ := h; exact ⟨vs, hH _ e, r.mono hι hF⟩
  | dic t ds =>
    obtain ⟨l, e, r⟩ := h
    refine ⟨l, ?_, r.mono hι hF⟩
    cases t <;> (obtain ⟨k, e, z⟩ := e; exact ⟨k, hH _ e, z⟩)
  | _ => exact False.elim h
theorem MORep.mono {a : Addr} {m : MO} (hι : ∀ (n : Nat) a, ι[n]? = some a → ι'[n]? = some a) (hF : ∀ a u, F a = some u → F' a = some u) (hH : ∀ u, H a = some u → H' a = some u) (h : MORep K ι F H a m) : MORep K ι' F' H' a m := by
  cases m with
  | lst ds => exact OwRep.mono (d := .lst ds) hι hF hH h
  | dic t ds => exact OwRep.mono (d := .dic t ds) hι hF hH h
  | ins _ _ => exact h
theorem MORep.isSome {a : Addr} {m : MO} (h : MORep K ι F H a m) : H a ≠ none := by
  cases m with
  | lst ds => exact OwRep.isSome (d := .lst ds) h
  | dic t ds => exact OwRep.isSome (d := .dic t ds) h
  | ins _ _ => exact False.elim h
theorem MORep.notup {a : Addr} {m : MO} {ts : List V} (h : MORep K ι F H a m) (e : H a = some (.tup ts)) : False := by
  cases m with
  | lst ds => obtain ⟨vs, z, _⟩ := h; rw [e] at z; cases z
  | dic t ds => obtain ⟨l, z, _⟩ := h; cases t <;> (obtain ⟨k, z, _⟩ := z; rw [e] at z; cases z)
  | ins _ _ => exact h
theorem MemRep.there {M : Mem} (m : MemRep K ι F M H) {a : Addr} (h : a ∈ ι) : H a ≠ none ∧ F a = none := by
  obtain ⟨n, hn, e⟩ := List.getElem_of_mem h
  have hm : n < M.length := by rw [← m.len]; exact hn
  obtain ⟨q, r⟩ := m.at_ n a M[n] (by rw [List.getElem?_eq_getElem hn, e]) (List.getElem?_eq_getElem hm)
  exact ⟨r.isSome, q⟩

def ldO : HO → Bool
  | .lst _ => true
  | .dK _ => true
  | .dT _ => true
  | .ins _ _ _ => true
  | _ => false
/-- a list or a dict stands there -/
structure Ld (H : Hp) (a : Addr) : Prop where
  ex : ∃ u, H a = some u ∧ ldO u = true
theorem Ld.ne {a : Addr} (h : Ld H a) : H a ≠ none := by
  obtain ⟨u, e, _⟩ := h.ex
  rw [e]; exact fun z => by cases z
theorem Ld.mk_ {a : Addr} {u : HO} (h : H a = some u) (l : ldO u = true) : Ld H a := ⟨⟨u, h, l⟩⟩
theorem Ld.to {a : Addr} (h : Ld H a) (q : ∀ u, H a = .some u → H' a = .some u) : Ld H' a := let ⟨u, e, l⟩ := h.ex; ⟨⟨u, q _ e, l⟩⟩
theorem Ld.us {a : Addr} {o : HO} (l : ldO o = true := by rfl) : Ld (upd H a o) a := ⟨⟨o, upd_same, l⟩⟩
theorem Ld.upd {a p : Addr} {o : HO} (h : Ld H a) (n : a ≠ p) : Ld (L2.upd H p o) a := h.to fun u e => by rw [upd_ne n]; exact e
theorem Ld.any {a b : Addr} {o : HO} (h : Ld H b) (l : Ld (L2.upd H a o) a) : Ld (L2.upd H a o) b := by
  by_cases e : b = a
  · rw [e]; exact l
  · exact h.upd e
theorem DicAt.ld {a : Addr} {t : Bool} {l : List (D × V)} (h : DicAt H a t l) : Ld H a := by
  cases t <;> (obtain ⟨k, h, e⟩ := h; exact ⟨⟨_, h, rfl⟩⟩)
theorem OwRep.ld {K : PySem.W.Frag} {ι : List Addr} {a : Addr} {d : D} (h : OwRep K ι F H a d) : Ld H a := by
  cases d with
  | lst ds => obtain ⟨vs, e, _⟩ := h; exact ⟨⟨_, e, rfl⟩⟩
  | dic t ds =>
    obtain ⟨l, e, _⟩ := h
    cases t <;> (obtain ⟨k, e, _⟩ := e; exact ⟨⟨_, e, rfl⟩⟩)
  | _ => exact False.elim h
/-- what an expression may do to the heap -/
structure Stp (ι : List Addr) (F H : Hp) (ι' : List Addr) (F' H' : Hp) : Prop where
  pre : ∃ more, ι' = ι ++ more ∧ ∀ a ∈ more, H a = none
  subF : ∀ a u, F a = some u → F' a = some u
  newF : ∀ a, Ld H a → a ∉ ι → F a = none → F' a = none
  keep : ∀ a u, H a = some u → a ∉ ι → H' a = some u
  live : ∀ a, H a ≠ none → H' a ≠ none
theorem Stp.refl : Stp ι F H ι F H := ⟨⟨[], by simp, by simp⟩, fun _ _ h => h, fun _ _ _ h => h, fun _ _ h _ => h, fun _ h => h⟩
theorem Stp.ix (s : Stp ι F H ι' F' H') : ∀ (n : Nat) a, ι[n]? = some a → ι'[n]? = some a := by
  obtain ⟨m, e, _⟩ := s.pre
  intro n a h
  rw [e, List.getElem?_append_left]
  · exact h
  · exact (List.getElem?_eq_some_iff.mp h).1
theorem Stp.nin (s : Stp ι F H ι' F' H') {a : Addr} (h : a ∉ ι) (q : H a ≠ none) : a ∉ ι' := by
  obtain ⟨m, e, f⟩ := s.pre
  rw [e, List.mem_append]
  rintro (z | z)
  · exact h z
  · exact q (f _ z)
theorem Stp.trans (s : Stp ι F H ι1 F1 H1) (t : Stp ι1 F1 H1 ι2 F2 H2) : Stp ι F H ι2 F2 H2 := by
  refine ⟨?_, fun a u h => t.subF a u (s.subF a u h), fun a h n e => t.newF a (h.to fun u q => s.keep a u q n) (s.nin n h.ne) (s.newF a h n e), fun a u h n => t.keep a u (s.keep a u h n) (s.nin n (by rw [h]; exact fun z => by cases z)), fun a h => t.live a (s.live a h)⟩
  · obtain ⟨m, e, f⟩ := s.pre
    obtain ⟨m', e', f'⟩ := t.pre
    refine ⟨m ++ m', by rw [e', e, List.append_assoc], fun a h => ?_⟩
    rcases List.mem_append.mp h with z | z
    · exact f a z
    · have q := f' a z
      by_cases hh : H a = none
      · exact hh
      · exact absurd q (s.live a hh)
theorem Stp.rep (s : Stp ι F H ι' F' H') {v : V} {d : D} (h : Rep K ι F v d) : Rep K ι' F' v d := h.mono s.ix s.subF
theorem Stp.reps (s : Stp ι F H ι' F' H') {v : List V} {d : List D} (h : Reps K ι F v d) : Reps K ι' F' v d := h.mono s.ix s.subF
theorem Stp.ow (s : Stp ι F H ι' F' H') {a : Addr} {d : D} (h : OwRep K ι F H a d) (n : a ∉ ι) : OwRep K ι' F' H' a d := h.mono s.ix s.subF fun u e => s.keep a u e n
/-- a new settled object -/
theorem new_ok {M : Mem} {p : Addr} {o : HO} (f : FSub F H) (m : MemRep K ι F M H) (hp : H p = none) :
    Stp ι F H ι (upd F p o) (upd H p o) ∧ FSub (upd F p o) (upd H p o) ∧ MemRep K ι (upd F p o) M (upd H p o) := by
  have hFp : F p = none := by
    cases e : F p with
    | none => rfl
    | some u => exact absurd hp (f.isSome e)
  have st : Stp ι F H ι (upd F p o) (upd H p o) := by
    refine ⟨⟨[], by simp, by simp⟩, fun a u h => ?_, fun a h _ e => ?_, fun a u h _ => ?_, fun a h => ?_⟩
    · rw [upd_ne (ne_of_none h hFp)]; exact h
    · rw [upd_ne (fun z => h.ne (by rw [z]; exact hp))]; exact e
    · rw [upd_ne (ne_of_none h hp)]; exact h
    · by_cases e : a = p
      · subst e; rw [upd_same]; exact fun z => by cases z
      · rw [upd_ne e]; exact h
  refine ⟨st, fun a u h => ?_, m.len, m.nd, fun n a mo h1 h2 => ?_⟩
  · by_cases e : a = p
    · subst e; rw [upd_same] at h ⊢; exact .inl h
    · rw [upd_ne e] at h ⊢; exact f a u h
  · obtain ⟨q, r⟩ := m.at_ n a mo h1 h2
    have ne : a ≠ p := fun e => r.isSome (by rw [e]; exact hp)
    exact ⟨by rw [upd_ne ne]; exact q, r.mono st.ix st.subF fun u e => by rw [upd_ne ne]; exact e⟩

/-! ### things of one's own -/
section
variable (K : PySem.W.Frag) (ι : List Addr) (F H : Hp)
mutual
/-- v stands for d, the lists and dicts of which lie in S, each by itself, to the depth m -/
inductive DRep : Md → V → D → (Addr → Prop) → Prop
  | fz {m : Md} {v : V} {d : D} {S : Addr → Prop} : Rep K ι F v d → (m = .z ∨ d.isLD = false) → DRep m v d S
  | lst {m : Md} {a : Addr} {vs : List V} {ds : List D} {S T : Addr → Prop} : m ≠ .z → H a = some (.lst vs) → S a → ¬ T a → (∀ b, T b → S b) → DReps m.dn vs ds T → DRep m (.ref a) (.lst ds) S
  | dic {m : Md} {a : Addr} {t : Bool} {l : List (D × V)} {ds : List (D × D)} {S T : Addr → Prop} : m ≠ .z → DicAt H a t l → S a → ¬ T a → (∀ b, T b → S b) → DRepk m.dn l ds T → DRep m (.ref a) (.dic t ds) S
  | tup {m : Md} {a : Addr} {vs : List V} {ds : List D} {S : Addr → Prop} : m ≠ .z → F a = some (.tup vs) → DReps m.dn vs ds S → DRep m (.ref a) (.tup ds) S
inductive DReps : Md → List V → List D → (Addr → Prop) → Prop
  | nil {m : Md} {S : Addr → Prop} : DReps m [] [] S
  | cons {m : Md} {v : V} {d : D} {vs : List V} {ds : List D} {S A B : Addr → Prop} : DRep m v d A → DReps m vs ds B → (∀ a, A a → S a) → (∀ a, B a → S a) → (∀ a, A a → ¬ B a) → DReps m (v :: vs) (d :: ds) S
inductive DRepk : Md → List (D × V) → List (D × D) → (Addr → Prop) → Prop
  | nil {m : Md} {S : Addr → Prop} : DRepk m [] [] S
  | cons {m : Md} {k : D} {v : V} {d : D} {vs : List (D × V)} {ds : List (D × D)} {S A B : Addr → Prop} : DRep m v d A → DRepk m vs ds B → (∀ a, A a → S a) → (∀ a, B a → S a) → (∀ a, A a → ¬ B a) → DRepk m ((k, v) :: vs) ((k, d) :: ds) S
end
end
theorem DicAt.at_ {a : Addr} {t : Bool} {l : List (D × V)} (h : DicAt H a t l) : ∃ u, H a = some u := by
  cases t <;> (obtain ⟨k, h, e⟩ := h; exact ⟨_, h⟩)
theorem DicAt.to {a : Addr} {t : Bool} {l : List (D × V)} (h : DicAt H a t l) (q : ∀ u, H a = some u → H' a = some u) : DicAt H' a t l := by
  cases t <;> (obtain ⟨k, h, e⟩ := h; exact ⟨k, q _ h, e⟩)
mutual
theorem DRep.mono (hι : ∀ (n : Nat) a, ι[n]? = some a → ι'[n]? = some a) (hF : ∀ a u, F a = some u → F' a = some u) : ∀ {m : Md} {v : V} {d : D} {S S' : Addr → Prop}, DRep K ι F H m v d S → (∀ a, S a → S' a ∧ ∀ u, H a = some u → H' a = some u) → DRep K ι' F' H' m v d S'
  | _, _, _, _, _, .fz r e, _ => .fz (r.mono hι hF) e
  | _, _, _, _, _, .lst n e s t ts r, q => .lst n ((q _ s).2 _ e) (q _ s).1 t (fun b h => (q _ (ts b h)).1) (DReps.mono hι hF r fun b h => ⟨h, (q _ (ts b h)).2⟩)
  | _, _, _, _, _, .dic n e s t ts r, q => .dic n (e.to (q _ s).2) (q _ s).1 t (fun b h => (q _ (ts b h)).1) (DRepk.mono hι hF r fun b h => ⟨h, (q _ (ts b h)).2⟩)
  | _, _, _, _, _, .tup n e r, q => .tup n (hF _ _ e) (DReps.mono hι hF r q)
theorem DReps.mono (hι : ∀ (n : Nat) a, ι[n]? = some a → ι'[n]? = some a) (hF : ∀ a u, F a = some u → F' a = some u) : ∀ {m : Md} {v : List V} {d : List D} {S S' : Addr → Prop}, DReps K ι F H m v d S → (∀ a, S a → S' a ∧ ∀ u, H a = some u → H' a = some u) → DReps K ι' F' H' m v d S'
  | _, _, _, _, _, .nil, _ => .nil
  | _, _, _, _, _, .cons h r a b c, q => .cons (DRep.mono hι hF h fun x hx => ⟨hx, (q _ (a x hx)).2⟩) (DReps.mono hι hF r fun x hx => ⟨hx, (q _ (b x hx)).2⟩) (fun x hx => (q _ (a x hx)).1) (fun x hx => (q _ (b x hx)).1) c
theorem DRepk.mono (hι : ∀ (n : Nat) a, ι[n]? = some a → ι'[n]? = some a) (hF : ∀ a u, F a = some u → F' a = some u) : ∀ {m : Md} {v : List (D × V)} {d : List (D × D)} {S S' : Addr → Prop}, DRepk K ι F H m v d S → (∀ a, S a → S' a ∧ ∀ u, H a = some u → H' a = some u) → DRepk K ι' F' H' m v d S'
  | _, _, _, _, _, .nil, _ => .nil
  | _, _, _, _, _, .cons h r a b c, q => .cons (DRep.mono hι hF h fun x hx => ⟨hx, (q _ (a x hx)).2⟩) (DRepk.mono hι hF r fun x hx => ⟨hx, (q _ (b x hx)).2⟩) (fun x hx => (q _ (a x hx)).1) (fun x hx => (q _ (b x hx)).1) c
end
theorem DicAt.toL {a : Addr} {t : Bool} {l : List (D × V)} (h : DicAt H a t l) (q : ∀ u, H a = some u → ldO u = true → H' a = some u) : DicAt H' a t l := by
  cases t <;> (obtain ⟨k, h, e⟩ := h; exact ⟨k, q _ h rfl, e⟩)
mutual
/-- all of it is settled -/
theorem DRep.settle (hF : ∀ a u, F a = some u → F' a = some u) : ∀ {m : Md} {v : V} {d : D} {S : Addr → Prop}, DRep K ι F H m v d S → (∀ a u, S a → H a = some u → ldO u = true → F' a = some u) → Rep K ι F' v d
  | _, _, _, _, .fz r e, _ => r.mono (fun _ _ h => h) hF
  | _, _, _, _, .lst n e s t ts r, q => .lst (.inl (.inl (q _ _ s e rfl))) (DReps.settle hF r fun a u h => q a u (ts a h))
  | _, _, _, _, .dic n e s t ts r, q => .dic (e.toL fun u h => q _ u s h) (DRepk.settle hF r fun a u h => q a u (ts a h))
  | _, _, _, _, .tup n e r, q => .tup (hF _ _ e) (DReps.settle hF r q)
theorem DReps.settle (hF : ∀ a u, F a = some u → F' a = some u) : ∀ {m : Md} {v : List V} {d : List D} {S : Addr → Prop}, DReps K ι F H m v d S → (∀ a u, S a → H a = some u → ldO u = true → F' a = some u) → Reps K ι F' v d
  | _, _, _, _, .nil, _ => .nil
  | _, _, _, _, .cons h r a b c, q => .cons (DRep.settle hF h fun x u hx => q x u (a x hx)) (DReps.settle hF r fun x u hx => q x u (b x hx))
theorem DRepk.settle (hF : ∀ a u, F a = some u → F' a = some u) : ∀ {m : Md} {v : List (D × V)} {d : List (D × D)} {S : Addr → Prop}, DRepk K ι F H m v d S → (∀ a u, S a → H a = some u → ldO u = true → F' a = some u) → RepK K ι F' v d
  | _, _, _, _, .nil, _ => .nil
  | _, _, _, _, .cons h r a b c, q => .cons (DRep.settle hF h fun x u hx => q x u (a x hx)) (DRepk.settle hF r fun x u hx => q x u (b x hx))
end
theorem DReps.length : ∀ {m : Md} {v : List V} {d : List D} {S : Addr → Prop}, DReps K ι F H m v d S → v.length = d.length
  | _, _, _, _, .nil => rfl
  | _, _, _, _, .cons _ r _ _ _ => congrArg (· + 1) r.length
theorem isLDs_all : ∀ {ds : List D}, D.isLDs ds = false → ∀ x ∈ ds, x.isLD = false
  | [], _, _, hx => by cases hx
  | d :: ds, h, x, hx => by
    simp only [D.isLDs, Bool.or_eq_false_iff] at h
    rcases List.mem_cons.mp hx with rfl | hx
    · exact h.1
    · exact isLDs_all h.2 x hx
mutual
theorem DRep.flat : ∀ {m : Md} {v : V} {d : D} {S : Addr → Prop}, DRep K ι F H m v d S → (m = .z ∨ d.isLD = false) → Rep K ι F v d
  | _, _, _, _, .fz r _, _ => r
  | _, _, _, _, .lst n _ _ _ _ _, e => by rcases e with e | e; exact absurd e n; cases e
  | _, _, _, _, .dic n _ _ _ _ _, e => by rcases e with e | e; exact absurd e n; cases e
  | _, _, _, _, .tup n e0 r, e => by
    rcases e with e | e
    · exact absurd e n
    · exact .tup e0 (DReps.flat r (.inr (isLDs_all (by simpa only [D.isLD] using e))))
theorem DReps.flat : ∀ {m : Md} {v : List V} {d : List D} {S : Addr → Prop}, DReps K ι F H m v d S → (m = .z ∨ ∀ x ∈ d, x.isLD = false) → Reps K ι F v d
  | _, _, _, _, .nil, _ => .nil
  | _, _, _, _, .cons h r _ _ _, e => .cons (DRep.flat h (e.imp id fun e => e _ List.mem_cons_self)) (DReps.flat r (e.imp id fun e x hx => e x (List.mem_cons_of_mem _ hx)))
end
/-- settled parts -/
theorem DReps.of {m : Md} {S : Addr → Prop} : ∀ {v : List V} {d : List D}, Reps K ι F v d → (m = .z ∨ ∀ x ∈ d, x.isLD = false) → DReps K ι F H m v d S
  | _, _, .nil, _ => .nil
  | _, _, .cons h r, e => .cons (A := fun _ => False) (B := S) (.fz h (e.imp id fun e => e _ List.mem_cons_self)) (DReps.of r (e.imp id fun e x hx => e x (List.mem_cons_of_mem _ hx))) (fun _ h => h.elim) (fun _ h => h) (fun _ h => h.elim)
/-- new nodes -/
structure New (ι : List Addr) (F H0 H : Hp) (T : Addr → Prop) : Prop where
  at_ : ∀ a, T a → F a = none ∧ a ∉ ι ∧ H0 a = none ∧ Ld H a
theorem Stp.drep (s : Stp ι F H ι' F' H') {m : Md} {v : V} {d : D} {T : Addr → Prop} (h : DRep K ι F H m v d T) (n : ∀ a, T a → a ∉ ι) : DRep K ι' F' H' m v d T :=
  h.mono s.ix s.subF fun a ha => ⟨ha, fun u e => s.keep a u e (n a ha)⟩
theorem Stp.noneF (s : Stp ι F H ι' F' H') {a : Addr} (h : F a = .none) (q : Ld H a) (n : a ∉ ι) : F' a = .none := s.newF a q n h
theorem Stp.ld (s : Stp ι F H ι' F' H') {a : Addr} (q : Ld H a) (n : a ∉ ι) : Ld H' a := q.to fun u e => s.keep a u e n
theorem Stp.new_ {H0 : Hp} {T : Addr → Prop} (s : Stp ι F H ι' F' H') (n : New ι F H0 H T) : New ι' F' H0 H' T :=
  ⟨fun a ha => let ⟨h1, h2, h3, h4⟩ := n.at_ a ha; ⟨s.noneF h1 h4 h2, s.nin h2 h4.ne, h3, s.ld h4 h2⟩⟩
/-- a new thing is settled -/
theorem Stp.settle {M : Mem} {T : Addr → Prop} (s : Stp ι F H ι' F' H') (f : FSub F' H') (m : MemRep K ι' F' M H') (n : New ι' F' H H' T) :
    ∃ F2, Stp ι F H ι' F2 H' ∧ FSub F2 H' ∧ MemRep K ι' F2 M H' ∧ (∀ a u, F' a = some u → F2 a = some u) ∧ ∀ a u, T a → H' a = some u → F2 a = some u := by
  classical
  have h1 : ∀ a u, F' a = some u → (if T a then H' a else F' a) = some u := fun a u h => by
    rw [if_neg (fun z => by rw [(n.at_ a z).1] at h; cases h)]; exact h
  refine ⟨fun a => if T a then H' a else F' a, ⟨s.pre, fun a u h => h1 a u (s.subF a u h), fun a h n0 e0 => ?_, s.keep, s.live⟩, fun a u h => ?_, ⟨m.len, m.nd, fun k a mo h2 h3 => ?_⟩, h1, fun a u h e => by show (if T a then H' a else F' a) = some u; rw [if_pos h]; exact e⟩
  · show (if T a then H' a else F' a) = none
    rw [if_neg fun z => h.ne (n.at_ a z).2.2.1]; exact s.newF a h n0 e0
  · have h : (if T a then H' a else F' a) = some u := h
    by_cases z : T a
    · rw [if_pos z] at h; exact .inl h
    · rw [if_neg z] at h; exact f a u h
  · obtain ⟨q, r⟩ := m.at_ k a mo h2 h3
    refine ⟨?_, r.mono (fun _ _ h => h) h1 fun _ h => h⟩
    show (if T a then H' a else F' a) = none
    rw [if_neg (fun z => (n.at_ a z).2.1 (List.mem_of_getElem? h2))]; exact q

/-- a new thing is settled -/
theorem Stp.settle2 {M : Mem} {T : Addr → Prop} (s : Stp ι F H ι' F' H') (f : FSub F' H') (m : MemRep K ι' F' M H') (n : New ι' F' H H' T) :
    ∃ F2, Stp ι F H ι' F2 H' ∧ FSub F2 H' ∧ MemRep K ι' F2 M H' ∧ (∀ a u, F' a = some u → F2 a = some u) ∧ (∀ a u, T a → H' a = some u → F2 a = some u) ∧ ∀ a, ¬ T a → F2 a = F' a := by
  classical
  have h1 : ∀ a u, F' a = some u → (if T a then H' a else F' a) = some u := fun a u h => by
    rw [if_neg (fun z => by rw [(n.at_ a z).1] at h; cases h)]; exact h
  refine ⟨fun a => if T a then H' a else F' a, ⟨s.pre, fun a u h => h1 a u (s.subF a u h), fun a h n0 e0 => ?_, s.keep, s.live⟩, fun a u h => ?_, ⟨m.len, m.nd, fun k a mo h2 h3 => ?_⟩, h1, fun a u h e => by show (if T a then H' a else F' a) = some u; rw [if_pos h]; exact e, fun a h => by show (if T a then H' a else F' a) = F' a; rw [if_neg h]⟩
  · show (if T a then H' a else F' a) = none
    rw [if_neg fun z => h.ne (n.at_ a z).2.2.1]; exact s.newF a h n0 e0
  · have h : (if T a then H' a else F' a) = some u := h
    by_cases z : T a
    · rw [if_pos z] at h; exact .inl h
    · rw [if_neg z] at h; exact f a u h
  · obtain ⟨q, r⟩ := m.at_ k a mo h2 h3
    refine ⟨?_, r.mono (fun _ _ h => h) h1 fun _ h => h⟩
    show (if T a then H' a else F' a) = none
    rw [if_neg (fun z => (n.at_ a z).2.1 (List.mem_of_getElem? h2))]; exact q

/-! ### slots -/
structure SRO (K : PySem.W.Frag) (ι : List Addr) (F : Hp) (O : Addr → Prop) (ρ : Sl) (M : Mem) (σ : L2.St) (H : Hp) : Prop where
  sub : FSub F H
  mem : MemRep K ι F M H
  len : ρ.length = σ.length
  fz : ∀ (i : Nat) d, ρ[i]? = some (.fz d) → ∃ v, σ[i]? = some (some v) ∧ Rep K ι F v d
  own : ∀ a, O a → F a = none ∧ a ∉ ι ∧ Ld H a
  ow : ∃ S : Nat → Addr → Prop, (∀ (i : Nat) m d, ρ[i]? = some (.ow m d) → ∃ v, σ[i]? = some (some v) ∧ DRep K ι F H m v d (S i)) ∧ (∀ i a, S i a → O a) ∧ ∀ i j a, S i a → S j a → i = j
variable {ρ ρ' ρ1 ρ2 : Sl} {M M' : Mem} {σ σ' σ1 σ2 : L2.St} {O : Addr → Prop}
def SR (K : PySem.W.Frag) (ι : List Addr) (F : Hp) (ρ : Sl) (M : Mem) (σ : L2.St) (H : Hp) : Prop := ∃ O, SRO K ι F O ρ M σ H
theorem SRO.step (r : SRO K ι F O ρ M σ H) (s : Stp ι F H ι' F' H') (f : FSub F' H') (m : MemRep K ι' F' M' H') : SRO K ι' F' O ρ M' σ H' := by
  refine ⟨f, m, r.len, fun i d h => ?_, fun a h => ?_, ?_⟩
  · obtain ⟨v, e, q⟩ := r.fz i d h
    exact ⟨v, e, s.rep q⟩
  · obtain ⟨h1, h2, h3⟩ := r.own a h
    exact ⟨s.noneF h1 h3 h2, s.nin h2 h3.ne, s.ld h3 h2⟩
  · obtain ⟨S, h1, h2, h3⟩ := r.ow
    refine ⟨S, fun i m d h => ?_, h2, h3⟩
    obtain ⟨v, e, q⟩ := h1 i m d h
    exact ⟨v, e, s.drep q fun a ha => (r.own a (h2 i a ha)).2.1⟩
theorem SR.step (r : SR K ι F ρ M σ H) (s : Stp ι F H ι' F' H') (f : FSub F' H') (m : MemRep K ι' F' M' H') : SR K ι' F' ρ M' σ H' := let ⟨O, r⟩ := r; ⟨O, r.step s f m⟩
theorem SR.sub (r : SR K ι F ρ M σ H) : FSub F H := let ⟨_, r⟩ := r; r.sub
theorem SR.mem (r : SR K ι F ρ M σ H) : MemRep K ι F M H := let ⟨_, r⟩ := r; r.mem
theorem SR.fz (r : SR K ι F ρ M σ H) : ∀ (i : Nat) d, ρ[i]? = some (.fz d) → ∃ v, σ[i]? = some (some v) ∧ Rep K ι F v d := let ⟨_, r⟩ := r; r.fz
/-- a value that may be an own list or dict of a slot -/
def RepR (K : PySem.W.Frag) (ι : List Addr) (F H : Hp) (v : V) (d : D) : Prop := Rep K ι F v d ∨ ∃ a, v = .ref a ∧ OwRep K ι F H a d ∧ a ∉ ι
theorem Stp.repR (s : Stp ι F H ι' F' H') {v : V} {d : D} (h : RepR K ι F H v d) : RepR K ι' F' H' v d := by
  rcases h with h | ⟨a, e, o, n⟩
  · exact .inl (s.rep h)
  · exact .inr ⟨a, e, s.ow o n, s.nin n o.isSome⟩
/-! ### results -/
/-- what may be wanted of an exception -/
abbrev WXX := Value → Option Addr → L2.St → Hp → Prop
def Res {α : Type} (K : PySem.W.Frag) (cl : Nat → Value) (W : WXX) (ι : List Addr) (F : Hp) (σ : L2.St) (H : Hp) (r : R α) (P : α → Mem → List Addr → Hp → Hp → Prop) : Prop :=
  match r with
  | .ok d M' => ∀ ι' F' H', Stp ι F H ι' F' H' → FSub F' H' → MemRep K ι' F' M' H' → P d M' ι' F' H'
  | .ex c M' => ∀ ι' F' H', Stp ι F H ι' F' H' → FSub F' H' → MemRep K ι' F' M' H' → W (cl c) none σ H'
  | .st => False
variable {cl : Nat → Value} {W : WXX}
theorem Res.bind {α β : Type} {r : R α} {f : α → Mem → R β} {P : β → Mem → List Addr → Hp → Hp → Prop} (h : Res K cl W ι F σ H (r.bind f) P) :
    Res K cl W ι F σ H r fun d M1 ι1 F1 H1 => Res K cl W ι1 F1 σ H1 (f d M1) P := by
  cases r with
  | ok d M1 =>
    intro ι1 F1 H1 s1 f1 m1
    have h' : Res K cl W ι F σ H (f d M1) P := h
    cases e : f d M1 with
    | ok x M2 => rw [e] at h'; intro ι2 F2 H2 s2 f2 m2; exact h' ι2 F2 H2 (s1.trans s2) f2 m2
    | ex c M2 => rw [e] at h'; intro ι2 F2 H2 s2 f2 m2; exact h' ι2 F2 H2 (s1.trans s2) f2 m2
    | st => rw [e] at h'; exact h'
  | ex c M1 => exact h
  | st => exact h
theorem Res.imp {α : Type} {r : R α} {P P' : α → Mem → List Addr → Hp → Hp → Prop} (h : Res K cl W ι F σ H r P)
    (q : ∀ d M' ι' F' H', Stp ι F H ι' F' H' → FSub F' H' → MemRep K ι' F' M' H' → P d M' ι' F' H' → P' d M' ι' F' H') : Res K cl W ι F σ H r P' := by
  cases r with
  | ok d M1 => intro ι1 F1 H1 s1 f1 m1; exact q _ _ _ _ _ s1 f1 m1 (h ι1 F1 H1 s1 f1 m1)
  | ex c M1 => exact h
  | st => exact h
theorem Res.of_ok {α : Type} {d : α} {M' : Mem} {P : α → Mem → List Addr → Hp → Hp → Prop} (h : Res K cl W ι F σ H (.ok d M') P) (f : FSub F H) (m : MemRep K ι F M' H) : P d M' ι F H := h ι F H Stp.refl f m
/-- an expression's reading from its evaluator -/
def tE (K : PySem.W.Frag) (cl : Nat → Value) (W : WXX) (r : Sl → Mem → R D) : TE := fun σ H Q => ∃ ι F ρ M, SR K ι F ρ M σ H ∧ Res K cl W ι F σ H (r ρ M) fun d _ ι' F' H' => ∀ v, Rep K ι' F' v d → Q v H'
def tRd (K : PySem.W.Frag) (cl : Nat → Value) (W : WXX) (r : Sl → Mem → R D) : TE := fun σ H Q => ∃ ι F ρ M, SR K ι F ρ M σ H ∧ Res K cl W ι F σ H (r ρ M) fun d _ ι' F' H' => ∀ v, RepR K ι' F' H' v d → Q v H'
def tA (K : PySem.W.Frag) (cl : Nat → Value) (W : WXX) (r : Sl → Mem → R (List D)) : TA := fun σ H Q => ∃ ι F ρ M, SR K ι F ρ M σ H ∧ Res K cl W ι F σ H (r ρ M) fun ds _ ι' F' H' => ∀ vs, Reps K ι' F' vs ds → Q vs H'
def tT (K : PySem.W.Frag) (cl : Nat → Value) (W : WXX) (r : Sl → Mem → R Bool) : TT := fun σ H Q => ∃ ι F ρ M, SR K ι F ρ M σ H ∧ Res K cl W ι F σ H (r ρ M) fun b _ _ _ H' => Q b H'
/-- a thing of one's own -/
def tO (K : PySem.W.Frag) (cl : Nat → Value) (W : WXX) (r : Sl → Mem → R (Md × D)) : TE := fun σ H Q => ∃ ι F ρ M, SR K ι F ρ M σ H ∧ Res K cl W ι F σ H (r ρ M) fun d _ ι' F' H' => ∀ v T, DRep K ι' F' H' d.1 v d.2 T → New ι' F' H H' T → Q v H'
inductive RepsR (K : PySem.W.Frag) (ι : List Addr) (F H : Hp) : List V → List D → Prop
  | nil : RepsR K ι F H [] []
  | cons {v : V} {d : D} {vs : List V} {ds : List D} : RepR K ι F H v d → RepsR K ι F H vs ds → RepsR K ι F H (v :: vs) (d :: ds)
def tAR (K : PySem.W.Frag) (cl : Nat → Value) (W : WXX) (r : Sl → Mem → R (List D)) : TA := fun σ H Q => ∃ ι F ρ M, SR K ι F ρ M σ H ∧ Res K cl W ι F σ H (r ρ M) fun ds _ ι' F' H' => ∀ vs, RepsR K ι' F' H' vs ds → Q vs H'
theorem Stp.repsR (s : Stp ι F H ι' F' H') : ∀ {v : List V} {d : List D}, RepsR K ι F H v d → RepsR K ι' F' H' v d
  | _, _, .nil => .nil
  | _, _, .cons h r => .cons (s.repR h) (s.repsR r)
end
theorem PE.weak {X : Cx} {e : Expr} {t t' : TE} (h : PE X e t) (q : ∀ σ H Q, t' σ H Q → t σ H Q) : PE X e t' := ⟨fun pins s σ H Q I z => h.run pins s σ H Q I (q σ H Q z)⟩
theorem PT.weak {X : Cx} {e : Expr} {t t' : TT} (h : PT X e t) (q : ∀ σ H Q, t' σ H Q → t σ H Q) : PT X e t' := ⟨fun pins s σ H Q I z => h.run pins s σ H Q I (q σ H Q z)⟩
theorem PA.weak {X : Cx} {e : List Expr} {t t' : TA} (h : PA X e t) (q : ∀ σ H Q, t' σ H Q → t σ H Q) : PA X e t' := ⟨fun po pins s σ H Q I z => h.run po pins s σ H Q I (q σ H Q z)⟩
theorem PS.weak {X : Cx} {e : Stmt} {t t' : TS} (h : PS X e t) (q : ∀ D σ H, t' D σ H → t D σ H) : PS X e t' := ⟨fun pins s σ H D I z => h.run pins s σ H D I (q D σ H z)⟩
theorem PSs.weak {X : Cx} {e : List Stmt} {t t' : TS} (h : PSs X e t) (q : ∀ D σ H, t' D σ H → t D σ H) : PSs X e t' := ⟨fun pins s σ H D I z => h.run pins s σ H D I (q D σ H z)⟩
end VL

/-! VDK: dicts whose keys are ints and texts -/
namespace VL
open PySem PySem.Spec PyProof.Rows L2
section
variable {K : PySem.W.Frag} {ι : List Addr} {F F' H : Hp}
theorem keyD_inj {a b : Key} (h : keyD a = keyD b) : a = b := by
  cases a <;> cases b <;> cases h <;> rfl
theorem flat_key {v : V} {d : D} (h : Rep K ι F v d) (e : flatK d = true) : ∃ k : Key, d = keyD k ∧ v = kV k := by
  cases d <;> first | (cases e; done) | skip
  · cases h; exact ⟨.inl _, rfl, rfl⟩
  · cases h; exact ⟨.inr _, rfl, rfl⟩
theorem flat_keyD (k : Key) : flatK (keyD k) = true := by cases k <;> rfl
/-- a dict by its keys -/
theorem DicAt.k {a : Addr} {G : Hp} {l : List (D × V)} (h : DicAt G a false l) : ∃ kvs : List (Key × V), G a = some (.dK kvs) ∧ l = kvs.map fun p => (keyD p.1, p.2) := h
theorem DicAt.t {a : Addr} {G : Hp} {l : List (D × V)} (h : DicAt G a true l) : ∃ kvs : List (List Key × V), G a = some (.dT kvs) ∧ l = kvs.map fun p => (tkeyD p.1, p.2) := h
theorem keyDs_inj : ∀ {a b : List Key}, a.map keyD = b.map keyD → a = b
  | [], [], _ => rfl
  | [], _ :: _, h => by simp at h
  | _ :: _, [], h => by simp at h
  | x :: a, y :: b, h => by
    simp only [List.map_cons, List.cons.injEq] at h
    rw [keyD_inj h.1, keyDs_inj h.2]
theorem tkeyD_inj {a b : List Key} (h : tkeyD a = tkeyD b) : a = b := by
  injection h with h
  exact keyDs_inj h
section
variable {κ : Type} [DecidableEq κ] {kd : κ → D}
theorem repK_look (inj : ∀ {a b : κ}, kd a = kd b → a = b) {k : κ} : ∀ {kvs : List (κ × V)} {kds : List (D × D)}, RepK K ι F (kvs.map fun p => (kd p.1, p.2)) kds → (lookD (kd k) kds = none ∧ valV kvs k = none) ∨ ∃ d v, lookD (kd k) kds = some d ∧ valV kvs k = some v ∧ Rep K ι F v d
  | [], _, h => by cases h; exact .inl ⟨rfl, rfl⟩
  | p :: kvs, _, h => by
    cases h with
    | cons h1 h2 =>
      by_cases e : p.1 = k
      · refine .inr ⟨_, p.2, ?_, valV_pos e, h1⟩
        unfold lookD
        rw [List.find?_cons_of_pos (by simp [e])]; rfl
      · have e2 : ¬ kd p.1 = kd k := fun z => e (inj z)
        rw [valV_neg e]
        have : ∀ d' m, lookD (kd k) ((kd p.1, d') :: m) = lookD (kd k) m := fun d' m => by
          unfold lookD
          rw [List.find?_cons_of_neg (by simp [e2])]
        rw [this]
        exact repK_look inj h2
theorem repK_any (inj : ∀ {a b : κ}, kd a = kd b → a = b) {k : κ} : ∀ {kvs : List (κ × V)} {kds : List (D × D)}, RepK K ι F (kvs.map fun p => (kd p.1, p.2)) kds → (kds.any fun kv => decide (kv.1 = kd k)) = kvs.any fun kv => decide (kv.1 = k)
  | [], _, h => by cases h; rfl
  | p :: kvs, _, h => by
    cases h with
    | cons h1 h2 =>
      rw [List.any_cons, List.any_cons, repK_any inj h2]
      congr 1
      by_cases e : p.1 = k
      · simp [e]
      · have e2 : ¬ kd p.1 = kd k := fun z => e (inj z)
        simp [e, e2]
theorem repK_repl (inj : ∀ {a b : κ}, kd a = kd b → a = b) {k : κ} {v : V} {d : D} (hv : Rep K ι F v d) : ∀ {kvs : List (κ × V)} {kds : List (D × D)}, RepK K ι F (kvs.map fun p => (kd p.1, p.2)) kds →
    RepK K ι F ((kvs.map fun kv => if kv.1 = k then (kv.1, v) else kv).map fun p => (kd p.1, p.2)) (kds.map fun kv => if kv.1 = kd k then (kv.1, d) else kv)
  | [], _, h => by cases h; exact .nil
  | p :: kvs, _, h => by
    cases h with
    | cons h1 h2 =>
      simp only [List.map_cons]
      by_cases e : p.1 = k
      · rw [if_pos e, if_pos (by rw [e])]
        exact .cons hv (repK_repl inj hv h2)
      · rw [if_neg e, if_neg fun z => e (inj z)]
        exact .cons h1 (repK_repl inj hv h2)
theorem repK_snoc {x : D} {v : V} {d : D} (hv : Rep K ι F v d) : ∀ {l : List (D × V)} {kds : List (D × D)}, RepK K ι F l kds → RepK K ι F (l ++ [(x, v)]) (kds ++ [(x, d)])
  | [], _, h => by cases h; exact .cons hv .nil
  | p :: l, _, h => by
    cases h with
    | cons h1 h2 => exact .cons h1 (repK_snoc hv h2)
theorem repK_put (inj : ∀ {a b : κ}, kd a = kd b → a = b) {k : κ} {v : V} {d : D} {kvs : List (κ × V)} {kds : List (D × D)} (hv : Rep K ι F v d) (h : RepK K ι F (kvs.map fun p => (kd p.1, p.2)) kds) : RepK K ι F ((putK kvs k v).map fun p => (kd p.1, p.2)) (putD (kd k) d kds) := by
  unfold putK putD
  rw [repK_any inj h]
  split
  · exact repK_repl inj hv h
  · rw [List.map_append]; exact repK_snoc hv h
theorem repK_len : ∀ {l : List (D × V)} {kds : List (D × D)}, RepK K ι F l kds → l.length = kds.length
  | [], _, h => by cases h; rfl
  | p :: l, _, h => by
    cases h with
    | cons h1 h2 => simp [repK_len h2]
end
theorem repK_keys : ∀ {kvs : List (Key × V)} {kds : List (D × D)}, RepK K ι F (kvs.map fun p => (keyD p.1, p.2)) kds → Reps K ι F (kvs.map fun kv => kV kv.1) (kds.map (·.1))
  | [], _, h => by cases h; exact .nil
  | p :: kvs, _, h => by
    cases h with
    | cons h1 h2 =>
      refine .cons ?_ (repK_keys h2)
      obtain ⟨k, v⟩ := p
      cases k with
      | inl i => exact .int i
      | inr s => exact .str s
theorem repK_ints : ∀ {kvs : List (Key × V)} {kds : List (D × D)} {ns : List Int}, RepK K ι F (kvs.map fun p => (keyD p.1, p.2)) kds → intsOf (kds.map (·.1)) = some ns → kvs.map (·.1) = ns.map Sum.inl
  | [], _, _, h, e => by cases h; cases e; rfl
  | p :: kvs, _, ns, h, e => by
    cases h with
    | cons h1 h2 =>
      obtain ⟨k, v⟩ := p
      cases k with
      | inl i =>
        simp only [List.map_cons, keyD, intsOf, Option.map_eq_some_iff] at e
        obtain ⟨ms, e, rfl⟩ := e
        rw [List.map_cons, List.map_cons, repK_ints h2 e]
      | inr s => simp only [List.map_cons, keyD, intsOf] at e; cases e
theorem FSub.rdK {a : Addr} {kvs : List (Key × V)} (f : FSub F H) (h : F a = some (.dK kvs)) : Rd H a (.dK kvs) := by
  rcases f _ _ h with r | ⟨_, o, r⟩
  · exact .inl r
  · exact .inr ⟨o, r⟩
end
theorem intsOf_flat : ∀ {ds : List D} {ns : List Int}, intsOf ds = some ns → ds.all flatK = true
  | [], _, _ => rfl
  | d :: ds, ns, h => by
    unfold intsOf at h
    split at h
    · rename_i e; cases e
    · rename_i i r e
      cases e
      simp only [Option.map_eq_some_iff] at h
      obtain ⟨ms, h, _⟩ := h
      simp only [List.all_cons, intsOf_flat h, flatK, Bool.and_self]
    · cases h
section
variable {K : PySem.W.Frag} {ι : List Addr} {F F' H : Hp} {v : V} {kds : List (D × D)}
theorem RepR.dic (f : FSub F H) (h : RepR K ι F H v (.dic false kds)) : ∃ a kvs, v = .ref a ∧ Rd H a (.dK kvs) ∧ RepK K ι F (kvs.map fun p => (keyD p.1, p.2)) kds := by
  rcases h with h | ⟨a, e, ⟨l, at_, r⟩, _⟩
  · cases h with
    | dic at_ r =>
      obtain ⟨kvs, e, rfl⟩ := at_.k
      exact ⟨_, kvs, rfl, f.rdK e, r⟩
  · obtain ⟨kvs, e2, rfl⟩ := at_.k
    exact ⟨a, kvs, e, .inl e2, r⟩
/-- a tuple that stands there may be settled -/
theorem tup_in {M : Mem} {q : Addr} {ts : List V} (f : FSub F H) (m : MemRep K ι F M H) (h : H q = some (.tup ts)) :
    ∃ F', Stp ι F H ι F' H ∧ FSub F' H ∧ MemRep K ι F' M H ∧ F' q = some (.tup ts) := by
  cases e : F q with
  | some u =>
    have : u = .tup ts := by
      rcases f q u e with z | ⟨_, o, z⟩
      · rw [h] at z; cases z; rfl
      · rw [h] at z; cases z
    subst this
    exact ⟨F, Stp.refl, f, m, e⟩
  | none =>
    have sub : ∀ a u, F a = some u → upd F q (.tup ts) a = some u := fun a u z => by rw [upd_ne (ne_of_none z e)]; exact z
    refine ⟨upd F q (.tup ts), ⟨⟨[], by simp, by simp⟩, sub, fun a l _ z => ?_, fun _ _ z _ => z, fun _ z => z⟩, fun a u z => ?_, ⟨m.len, m.nd, fun n a mo h1 h2 => ?_⟩, upd_same⟩
    · rw [upd_ne fun z2 => ?_]
      · exact z
      · subst z2
        obtain ⟨w, ew, lw⟩ := l.ex
        rw [h] at ew; cases ew; cases lw
    · by_cases ea : a = q
      · subst ea; rw [upd_same] at z; cases z; exact .inl h
      · rw [upd_ne ea] at z; exact f a u z
    · obtain ⟨q1, q2⟩ := m.at_ n a mo h1 h2
      have ne : a ≠ q := fun z => by
        subst z
        exact q2.notup h
      exact ⟨by rw [upd_ne ne]; exact q1, q2.mono (fun _ _ h => h) sub fun _ h => h⟩
theorem tups_in {M : Mem} : ∀ {kvs : List (List Key × V)} {bs : List Addr} {F : Hp}, FSub F H → MemRep K ι F M H → IsKeys H kvs bs →
    ∃ F', Stp ι F H ι F' H ∧ FSub F' H ∧ MemRep K ι F' M H ∧ IsKeys F' kvs bs
  | _, _, F, f, m, .nil => ⟨F, Stp.refl, f, m, .nil⟩
  | _, _, F, f, m, .cons h r => by
    obtain ⟨F1, s1, f1, m1, e1⟩ := tup_in f m h
    obtain ⟨F2, s2, f2, m2, e2⟩ := tups_in f1 m1 r
    exact ⟨F2, s1.trans s2, f2, m2, .cons (s2.subF _ _ e1) e2⟩
theorem keyV_rep (k : Key) : Rep K ι F (kV k) (keyD k) := by
  cases k with
  | inl i => exact .int i
  | inr s => exact .str s
theorem keyVs_rep : ∀ k : List Key, Reps K ι F (k.map kV) (k.map keyD)
  | [] => .nil
  | k :: ks => .cons (keyV_rep k) (keyVs_rep ks)
theorem keys_reps : ∀ {kvs : List (List Key × V)} {bs : List Addr} {kds : List (D × D)}, RepK K ι F (kvs.map fun p => (tkeyD p.1, p.2)) kds → IsKeys F' kvs bs → Reps K ι F' (bs.map V.ref) (kds.map (·.1))
  | _, _, _, h, .nil => by cases h; exact .nil
  | _, _, _, h, .cons e r => by
    cases h with
    | cons h1 h2 => exact .cons (.tup e (keyVs_rep _)) (keys_reps h2 r)
theorem FSub.rdT {a : Addr} {kvs : List (List Key × V)} (f : FSub F H) (h : F a = some (.dT kvs)) : Rd H a (.dT kvs) := by
  rcases f _ _ h with r | ⟨_, o, r⟩
  · exact .inl r
  · exact .inr ⟨o, r⟩
theorem RepR.dicT {v : V} {kds : List (D × D)} (f : FSub F H) (h : RepR K ι F H v (.dic true kds)) : ∃ a kvs, v = .ref a ∧ Rd H a (.dT kvs) ∧ RepK K ι F (kvs.map fun p => (tkeyD p.1, p.2)) kds := by
  rcases h with h | ⟨a, e, ⟨l, at_, r⟩, _⟩
  · cases h with
    | dic at_ r =>
      obtain ⟨kvs, e, rfl⟩ := at_.t
      exact ⟨_, kvs, rfl, f.rdT e, r⟩
  · obtain ⟨kvs, e2, rfl⟩ := at_.t
    exact ⟨a, kvs, e, .inl e2, r⟩
theorem RepR.dicA {v : V} {t : Bool} {kds : List (D × D)} (f : FSub F H) (h : RepR K ι F H v (.dic t kds)) : (∃ a kvs, v = .ref a ∧ Rd H a (.dK kvs) ∧ RepK K ι F (kvs.map fun p => (keyD p.1, p.2)) kds) ∨
    ∃ a kvs, v = .ref a ∧ Rd H a (.dT kvs) ∧ RepK K ι F (kvs.map fun p => (tkeyD p.1, p.2)) kds := by
  cases t with
  | false => exact .inl (h.dic f)
  | true => exact .inr (h.dicT f)
/-- a tuple that is a key -/
theorem tup_key : ∀ {ds : List D} {vs : List V}, Reps K ι F vs ds → ds.all flatK = true → ∃ ks : List Key, ds = ks.map keyD ∧ vs = ks.map kV
  | [], _, h, _ => by cases h; exact ⟨[], rfl, rfl⟩
  | d :: ds, _, h, e => by
    cases h with
    | cons h r =>
      simp only [List.all_cons, Bool.and_eq_true] at e
      obtain ⟨k, rfl, rfl⟩ := flat_key h e.1
      obtain ⟨ks, rfl, rfl⟩ := tup_key r e.2
      exact ⟨k :: ks, rfl, rfl⟩
end
/-- list(xs) of a list, a tuple, a dict -/
theorem call_list_any {X : Cx} (hc : X.calm = true) : CallR X (.type "list") (fun xs H Q => (∃ p ys, xs = [.ref p] ∧ (SqL X.K H p ys ∨ SqT X.K H p ys) ∧ ∀ l, H l = none → Q (.ref l) (upd H l (.lst ys))) ∨
    (∃ (a : Addr) (kvs : List (Key × V)), xs = [.ref a] ∧ Rd H a (.dK kvs) ∧ ∀ p, H p = none → Q (.ref p) (upd H p (.lst (kvs.map fun kv => kV kv.1)))) ∨
    ∃ d kvs, xs = [V.ref d] ∧ Rd H d (.dT kvs) ∧ ∀ p bs, H p = none → IsKeys H kvs bs → Q (.ref p) (upd H p (.lst (bs.map V.ref)))) := by
  intro pins sh σ hp args us Q I rel h
  rcases h with h | h | h
  · exact call_list_of pins sh σ hp args us Q I rel h
  · exact call_listD hc pins sh σ hp args us Q I rel h
  · exact call_list_dT hc pins sh σ hp args us Q I rel h
/-- len(d) -/
theorem cr_lenD {X : Cx} : CallR X (.builtin "len") (fun xs H Q => ∃ (a : Addr) (kvs : List (Key × V)), xs = [.ref a] ∧ Rd H a (.dK kvs) ∧ Q (.int kvs.length) H) := by
  intro pins sh σ hp args us Q I rel ⟨a, kvs, ea, rd, fin⟩
  subst ea
  obtain ⟨w0, rfl, rw0⟩ := vals1 rel
  cases rw0
  exact d_len I rd fun t s' I' => ⟨.int kvs.length, _, I', ⟨t, rfl⟩, fin⟩
/-- sorted(d) of a dict whose keys are ints, any number of them -/
theorem cr_sortedDK {X : Cx} (hcalm : X.calm = true) : CallR X (.builtin "sorted") (fun xs H Q => ∃ (a : Addr) (kvs : List (Key × V)) (ks : List Int), xs = [.ref a] ∧ Rd H a (.dK kvs) ∧ kvs.map (·.1) = ks.map Sum.inl ∧
    ∀ (ys : List Int) (p : Addr), ys.Perm ks → ys.Pairwise (· ≤ ·) → H p = none → Q (.ref p) (upd H p (.lst (ys.map V.int)))) := by
  intro pins sh σ hp args us Q I rel ⟨a, kvs, ks, ea, rd, hks, fin⟩
  subst ea
  obtain ⟨w0, rfl, rw0⟩ := vals1 rel
  cases rw0
  obtain ⟨small, low, vs, kvr, dd⟩ := dk_rd I.hok rd
  obtain ⟨ep, dat⟩ := dd.dictAt
  have keys : vs.map (·.1) = ks.map Sum.inl := kvr.keys ▸ hks
  have len : vs.length = ks.length := by simpa using congrArg List.length keys
  have small' : vs.length ≤ sizeLine := kvr.length ▸ small
  refine Calls.call_function_entry PyProof.Rows.kind_sorted PyProof.Rows.plain_sorted PyProof.Rows.entry_sorted (PyProof.Rows.args_sorted1 _) ?_
  unfold Builtin.«sorted»
  refine wpAny_bind (m := checkCount "sorted" 1 1 _) (wpAny_pure (wpAny_bind (PySem.W.kdu_collect (PySem.W.kdl_dict (knd := mixKind X.prog X.w) low) (I.ok.hd hcalm) dat small' fun h1 tk acc keep1 got => ?_)))
  have alen : acc.toList.length = ks.length := by rw [Array.length_toList, got.1, len]
  have hI : IntsAre acc.toList ks := ints_each alen fun j v e => by
    obtain ⟨k, x, e1, e2⟩ := got.2 j v (by rw [← e, Array.getElem?_toList])
    have e3 := congrArg (fun l => l[j]?) keys
    simp only [List.getElem?_map, e1, Option.map_some] at e3
    obtain ⟨y, e4, e5⟩ := Option.map_eq_some_iff.mp e3.symm
    rcases keyIs_shape e2 with ⟨i, t, ek, ev⟩ | ⟨z, t, ek, _⟩
    · exact ⟨y, t, e4, by rw [ev]; rw [ek] at e5; cases e5; rfl⟩
    · rw [ek] at e5; cases e5
  have lim : acc.toList.length ≤ sizeLine := by rw [alen, ← len]; exact small'
  refine wpAny_bind (wpAny_newList ?_ lim)
  have at_ : (h1.push (seqObj "list" acc.toList.toArray 0)).get? h1.objs.size = some (seqObj "list" acc.toList.toArray 0) := Heap.get?_push_size _ rfl
  show wpAny _ _ _ _ _ { sh with heap := h1.push (seqObj "list" acc.toList.toArray 0), toks := tk }
  refine wpAny_bind (wpAny_holding (wpAny_call_entry PyProof.Rows.slot_list_sort ⟨_, at_, rfl⟩ PyProof.Rows.entry_list_sort
    (SrtO.list_sort_ord (s := { sh with heap := h1.push (seqObj "list" acc.toList.toArray 0), toks := tk }) SrtO.swo_int at_ lim (fun two => SrtO.ints_sortable hI two) fun out so st => ⟨_, rfl, ?_⟩) (PyProof.Rows.args_list_sort _)))
  obtain ⟨g1, g2, g3⟩ := SrtO.ints_out hI so st
  obtain ⟨e', he'⟩ := PyProof.Rows.sortedHeap_at (vs := acc.toList) (out := out.toArray) at_
  have olen : ((out.map SrtO.iv).map V.int).length ≤ sizeLine := by rw [List.length_map, g2.length_eq, ← len]; exact small'
  refine wpAny_pure ⟨_, rfl, .ref h1.objs.size, _, (I.kept (t' := tk) keep1).laid (o := .lst ((out.map SrtO.iv).map V.int)) (t' := tk) (fun b u e => ?_) (Nat.le_refl _) ⟨olen, out, e', vals_of_ints g1, he'⟩, rfl, fin _ _ g2 g3 ((I.kept (t' := tk) keep1).hok.fresh (Nat.le_refl _))⟩
  have hb : b < h1.objs.size := Heap.lt_size e
  rw [PyProof.Rows.sortedHeap_old (Nat.ne_of_lt hb) (by rw [size_push']; exact Nat.lt_succ_of_lt hb), Heap.get?_push_of_some _ e]
end VL

/-! V2: the operations by values -/
namespace VL
open PySem PySem.Spec PyProof.Rows L2
section
variable {K : PySem.W.Frag} {ι ι' : List Addr} {F F' H H' : Hp} {v w : V} {ds : List D} {M : Mem}
theorem Rep.getInt {i : Int} (h : Rep K ι F v (.int i)) : v = .int i := by cases h; rfl
theorem RepR.int {i : Int} (h : RepR K ι F H v (.int i)) : v = .int i := by
  rcases h with h | ⟨a, _, o, _⟩
  · cases h; rfl
  · exact o.elim
theorem RepR.bl {i : Bool} (h : RepR K ι F H v (.bl i)) : v = .bl i := by
  rcases h with h | ⟨a, _, o, _⟩
  · cases h; rfl
  · exact o.elim
theorem RepR.str {i : Str} (h : RepR K ι F H v (.str i)) : v = .str i := by
  rcases h with h | ⟨a, _, o, _⟩
  · cases h; rfl
  · exact o.elim
theorem RepR.non (h : RepR K ι F H v .non) : v = .non := by
  rcases h with h | ⟨a, _, o, _⟩
  · cases h; rfl
  · exact o.elim
theorem RepR.lst (f : FSub F H) (h : RepR K ι F H v (.lst ds)) : ∃ a vs, v = .ref a ∧ SqL K H a vs ∧ Reps K ι F vs ds := by
  rcases h with h | ⟨a, e, ⟨vs, z, r⟩, _⟩
  · cases h with | lst a r => exact ⟨_, _, rfl, f.sqL a, r⟩
  · exact ⟨a, vs, e, .inl (.inl z), r⟩
theorem FSub.tup {a : Addr} {vs : List V} (f : FSub F H) (h : F a = some (.tup vs)) : H a = some (.tup vs) := by
  rcases f _ _ h with r | ⟨r, _⟩
  · exact r
  · cases r
theorem RepR.ktup (f : FSub F H) (h : RepR K ι F H v (.ktup ds)) : ∃ a vs, v = .ref a ∧ SqT K H a vs ∧ Reps K ι F vs ds := by
  rcases h with h | ⟨a, _, o, _⟩
  · cases h with | ktup a _ r => exact ⟨_, _, rfl, f.sqT a, r⟩
  · exact o.elim
theorem RepR.tup (f : FSub F H) (h : RepR K ι F H v (.tup ds)) : ∃ a vs, v = .ref a ∧ SqT K H a vs ∧ F a = some (.tup vs) ∧ Reps K ι F vs ds := by
  rcases h with h | ⟨a, _, o, _⟩
  · cases h with | tup a r => exact ⟨_, _, rfl, .inl (.inl (f.tup a)), a, r⟩
  · exact o.elim
theorem RepR.of (h : Rep K ι F v w') : RepR K ι F H v w' := .inl h
mutual
theorem Rep.dp (f : FSub F H) : ∀ {v : V} {d : D} {x : PyData}, Rep K ι F v d → D.py d = some x → Dp K H v x
  | _, _, _, .non, h => by simp only [D.py, Option.some.injEq] at h; subst h; exact .non
  | _, _, _, .bl b, h => by simp only [D.py, Option.some.injEq] at h; subst h; exact .bl b
  | _, _, _, .int b, h => by simp only [D.py, Option.some.injEq] at h; subst h; exact .int b
  | _, _, _, .str b, h => by simp only [D.py, Option.some.injEq] at h; subst h; exact .str b
  | _, _, _, .tup a r, h => by
    simp only [D.py, Option.map_eq_some_iff] at h
    obtain ⟨xs, h, rfl⟩ := h
    exact .tup (.inl (.inl (f.tup a))) (Reps.dp f r h)
  | _, _, _, .lst a r, h => by
    simp only [D.py, Option.map_eq_some_iff] at h
    obtain ⟨xs, h, rfl⟩ := h
    exact .lst (f.sqL a) (Reps.dp f r h)
  | _, _, _, .dic _ _, h => by simp [D.py] at h
  | _, _, _, .ktup _ _ _, h => by simp [D.py] at h
  | _, _, _, .ref _, h => by simp [D.py] at h
theorem Reps.dp (f : FSub F H) : ∀ {v : List V} {d : List D} {x : List PyData}, Reps K ι F v d → D.pys d = some x → DpAll K H v x
  | _, _, _, .nil, h => by simp only [D.pys, Option.some.injEq] at h; subst h; exact .nil
  | _, _, _, .cons a r, h => by
    simp only [D.pys] at h
    split at h
    · rename_i x y e1 e2
      simp only [Option.some.injEq] at h; subst h
      exact .cons (Rep.dp f a e1) (Reps.dp f r e2)
    · cases h
end
theorem RepR.dp (f : FSub F H) {v : V} {d : D} {x : PyData} (h : RepR K ι F H v d) (e : D.py d = some x) : Dp K H v x := by
  rcases h with h | ⟨a, rfl, o, _⟩
  · exact h.dp f e
  · cases d with
    | lst ds =>
      obtain ⟨vs, z, r⟩ := o
      simp only [D.py, Option.map_eq_some_iff] at e
      obtain ⟨xs, e, rfl⟩ := e
      exact .lst (.inl (.inl z)) (r.dp f e)
    | dic kds => simp [D.py] at e
    | _ => exact o.elim

/-! ### readings of an operation -/
def rOp (K : PySem.W.Frag) (g : D → D → Option D) : R2 := fun x y H Q => ∃ ι F M a b d, FSub F H ∧ MemRep K ι F M H ∧ RepR K ι F H x a ∧ RepR K ι F H y b ∧ g a b = some d ∧
  ∀ F' H' v, Stp ι F H ι F' H' → FSub F' H' → MemRep K ι F' M H' → Rep K ι F' v d → Q v H'
def rCl (K : PySem.W.Frag) (g : List D → Option D) : List V → Hp → VK → Prop := fun xs H Q => ∃ ι F M as d, FSub F H ∧ MemRep K ι F M H ∧ RepsR K ι F H xs as ∧ g as = some d ∧
  ∀ F' H' v, Stp ι F H ι F' H' → FSub F' H' → MemRep K ι F' M H' → Rep K ι F' v d → Q v H'
def rU1 (K : PySem.W.Frag) (g : D → Option D) : V → Hp → VK → Prop := fun x H Q => ∃ ι F M a d, FSub F H ∧ MemRep K ι F M H ∧ RepR K ι F H x a ∧ g a = some d ∧
  ∀ F' H' v, Stp ι F H ι F' H' → FSub F' H' → MemRep K ι F' M H' → Rep K ι F' v d → Q v H'
/-- a new list, a new tuple -/
theorem fin_new {Q : VK} {o : HO} {d : D} (f : FSub F H) (m : MemRep K ι F M H) (q : ∀ F' H' v, Stp ι F H ι F' H' → FSub F' H' → MemRep K ι F' M H' → Rep K ι F' v d → Q v H')
    {p : Addr} (hp : H p = none) (hr : Rep K ι (upd F p o) (.ref p) d) : Q (.ref p) (upd H p o) := by
  obtain ⟨s1, f1, m1⟩ := new_ok (o := o) f m hp
  exact q _ _ _ s1 f1 m1 hr
theorem fin_new2 {Q : VK} {o : HO} {d : D} {F2 : Hp} (s : Stp ι F H ι F2 H) (f : FSub F2 H) (m : MemRep K ι F2 M H) (q : ∀ F' H' v, Stp ι F H ι F' H' → FSub F' H' → MemRep K ι F' M H' → Rep K ι F' v d → Q v H')
    {p : Addr} (hp : H p = none) (hr : Rep K ι (upd F2 p o) (.ref p) d) : Q (.ref p) (upd H p o) := by
  obtain ⟨s1, f1, m1⟩ := new_ok (o := o) f m hp
  exact q _ _ _ (s.trans s1) f1 m1 hr
theorem rep_new_lst {vs : List V} {p : Addr} (f : FSub F H) (hp : H p = none) (r : Reps K ι F vs ds) : Rep K ι (upd F p (.lst vs)) (.ref p) (.lst ds) :=
  .lst (.inl (.inl upd_same)) (r.mono (fun _ _ h => h) fun a u h => by rw [upd_ne (fun e => f.isSome h (by rw [e]; exact hp))]; exact h)
theorem rep_new_tup {vs : List V} {p : Addr} (f : FSub F H) (hp : H p = none) (r : Reps K ι F vs ds) : Rep K ι (upd F p (.tup vs)) (.ref p) (.tup ds) :=
  .tup upd_same (r.mono (fun _ _ h => h) fun a u h => by rw [upd_ne (fun e => f.isSome h (by rw [e]; exact hp))]; exact h)
theorem fin_same {Q : VK} {d : D} (f : FSub F H) (m : MemRep K ι F M H) (q : ∀ F' H' v, Stp ι F H ι F' H' → FSub F' H' → MemRep K ι F' M H' → Rep K ι F' v d → Q v H') (hr : Rep K ι F v d) : Q v H := q _ _ _ Stp.refl f m hr
section
variable {X : Cx}
theorem add_isList {prog : Program} {w : World} {A : Around} {E : Value → Shared → Prop} {s : Shared} {l b : Addr} {vs ws : List Value} {Q : Value → Shared → Prop} (hl : s.heap.IsList l vs.toArray) (hb : s.heap.IsList b ws.toArray)
    (h : Q (.ref s.heap.objs.size) { s with heap := s.heap.push { cls := .type "list", data := .seq (vs ++ ws).toArray } }) (hsz : vs.length + ws.length ≤ sizeLine) :
    wpAny (model prog w) A (binaryOp .Add (.ref l) (.ref b)) Q E s := by
  obtain ⟨⟨cls, dd, data, sl⟩, ho, hc, n, hd⟩ := id hl
  obtain ⟨⟨cls2, dd2, data2, sl2⟩, ho2, hc2, n2, hd2⟩ := id hb
  simp only at hc hd hc2 hd2
  subst hc hd hc2 hd2
  have e : vs.toArray ++ ws.toArray = (vs ++ ws).toArray := by simp
  refine concat_meets ⟨_, ho, rfl⟩ ⟨_, ho2, rfl⟩ noFill_list_add seq_list_add PySem.F.slot_list_add PySem.F.entry_list_add (PySem.F.args_list_add_2 _ _) (list_addW l b vs.toArray ws.toArray n n2 dd dd2 sl sl2 (by simpa using hsz)) ⟨ho, ho2, ?_⟩
  rw [e]
  exact h
theorem op_addL : OpR X (binaryOp .Add) (fun x y H Q => ∃ l b xs zs, x = .ref l ∧ y = .ref b ∧ SqL X.K H l xs ∧ SqL X.K H b zs ∧ xs.length + zs.length ≤ sizeLine ∧ ∀ p, H p = none → Q (.ref p) (upd H p (.lst (xs ++ zs)))) := by
  intro pins s σ H x y v u Q I rx ry h
  obtain ⟨l, b, xs, zs, rfl, rfl, hH, hB, hz, q⟩ := h
  cases rx
  cases ry
  obtain ⟨its, r, e, z⟩ := I.list hH
  obtain ⟨its2, r2, e2, z2⟩ := I.list hB
  have hl := r.length
  have hl2 := r2.length
  refine add_isList e.isList e2.isList ?_ (by omega)
  exact ⟨.ref _, _, I.lnew (t' := s.toks) (r.append r2) (by rw [List.length_append]; omega), rfl, q _ I.fresh⟩
def pyOp : BOp → Operator
  | .add => .Add | .sub => .Sub | .mul => .Mult | .fdiv => .FloorDiv | .mod => .Mod | .pow => .Pow | .band => .BitAnd
def pyCmp : COp → CmpOp
  | .eq => .Eq | .ne => .NotEq | .lt => .Lt | .le => .LtE | .gt => .Gt | .ge => .GtE | .isin => .In | .notin => .NotIn | .is_ => .Is | .isnot => .IsNot
theorem op_bin (o : BOp) : OpR X (binaryOp (pyOp o)) (rOp X.K (binD o)) := by
  intro pins s σ H x y v u Q I rx ry h
  obtain ⟨ι, F, M, a, b, d, f, m, ra, rb, e, q⟩ := h
  unfold binD at e
  split at e
  · cases e; rw [ra.int] at rx; rw [rb.int] at ry
    exact op_add pins s σ H _ _ v u Q I rx ry ⟨_, _, rfl, rfl, fin_same f m q (.int _)⟩
  · cases e; rw [ra.int] at rx; rw [rb.int] at ry
    exact op_sub pins s σ H _ _ v u Q I rx ry ⟨_, _, rfl, rfl, fin_same f m q (.int _)⟩
  · split at e
    · rename_i hc; cases e; rw [ra.int] at rx; rw [rb.int] at ry
      exact op_mul pins s σ H _ _ v u Q I rx ry ⟨_, _, rfl, rfl, (of_decide_eq_true hc : (_ ∧ _) ∨ (_ ∧ _)), fin_same f m q (.int _)⟩
    · cases e
  · split at e
    · rename_i hc; cases e; rw [ra.int] at rx; rw [rb.int] at ry
      exact op_fdiv pins s σ H _ _ v u Q I rx ry ⟨_, _, rfl, rfl, hc, fin_same f m q (.int _)⟩
    · cases e
  · split at e
    · rename_i hc; cases e; rw [ra.int] at rx; rw [rb.int] at ry
      exact op_mod pins s σ H _ _ v u Q I rx ry ⟨_, _, rfl, rfl, hc, fin_same f m q (.int _)⟩
    · cases e
  · split at e
    · rename_i hc; cases e; rw [ra.int] at rx; rw [rb.int] at ry
      exact op_pow pins s σ H _ _ v u Q I rx ry ⟨_, _, rfl, rfl, hc, fin_same f m q (.int _)⟩
    · cases e
  · cases e; rw [ra.int] at rx; rw [rb.int] at ry
    exact op_and pins s σ H _ _ v u Q I rx ry ⟨_, _, rfl, rfl, fin_same f m q (.int _)⟩
  · split at e
    · rename_i hc; cases e; rw [ra.str] at rx; rw [rb.str] at ry
      exact op_add_str pins s σ H _ _ v u Q I rx ry ⟨_, _, rfl, rfl, hc, fin_same f m q (.str _)⟩
    · cases e
  · split at e
    · rename_i hc; cases e
      obtain ⟨p1, v1, rfl, a1, r1⟩ := ra.lst f
      obtain ⟨p2, v2, rfl, a2, r2⟩ := rb.lst f
      refine op_addL pins s σ H _ _ v u Q I rx ry ⟨_, _, _, _, rfl, rfl, a1, a2, by rw [r1.length, r2.length]; exact hc, fun p hp => ?_⟩
      exact fin_new f m q hp (rep_new_lst f hp (r1.append r2))
    · cases e
  · split at e
    · rename_i hc; cases e
      obtain ⟨p1, v1, rfl, a1, a1', r1⟩ := ra.tup f
      obtain ⟨p2, v2, rfl, a2, a2', r2⟩ := rb.tup f
      refine op_catA pins s σ H _ _ v u Q I rx ry ⟨_, _, _, _, rfl, rfl, a1, a2, by rw [r1.length, r2.length]; exact hc, fun e => ?_, fun _ e => ?_, fun _ _ p hp => ?_⟩
      · subst e; cases r1; exact fin_same f m q (.tup a2' (by simpa using r2))
      · subst e; cases r2; exact fin_same f m q (.tup a1' (by simpa using r1))
      · exact fin_new f m q hp (rep_new_tup f hp (r1.append r2))
    · cases e
  · cases e
theorem decS {x y : Str} : decide (V.str x = V.str y) = decide (x = y) := by simp
theorem decI {x y : Int} : decide (V.int x = V.int y) = decide (x = y) := by simp
theorem decB {x y : Bool} : decide (V.bl x = V.bl y) = decide (x = y) := by simp
theorem op_eqV (hu : X.A.units + 64 < cLine) : OpR X (compareOp .Eq) (rOp X.K (cmpD .eq)) := by
  intro pins s σ H x y v u Q I rx ry h
  obtain ⟨ι, F, M, a, b, d, f, m, ra, rb, e, q⟩ := h
  simp only [cmpD, eqD, Option.map_eq_some_iff] at e
  obtain ⟨r, e, rfl⟩ := e
  split at e
  · cases e; rw [ra.str] at rx; rw [rb.str] at ry
    refine op_eq pins s σ H _ _ v u Q I rx ry ⟨rfl, ?_⟩
    rw [decS]
    exact fin_same f m q (.bl _)
  · cases e; rw [ra.int] at rx; rw [rb.int] at ry
    refine op_eq pins s σ H _ _ v u Q I rx ry ⟨rfl, ?_⟩
    rw [decI]
    exact fin_same f m q (.bl _)
  · cases e; rw [ra.bl] at rx; rw [rb.bl] at ry
    refine op_eq pins s σ H _ _ v u Q I rx ry ⟨rfl, ?_⟩
    rw [decB]
    exact fin_same f m q (.bl _)
  split at e
  · rename_i p1 p2 e1 e2
    split at e
    · rename_i hs; cases e
      exact op_eqD hu pins s σ H _ _ v u Q I rx ry ⟨_, _, ra.dp f e1, rb.dp f e2, hs.1, hs.2, fin_same f m q (.bl _)⟩
    · cases e
  · cases e
theorem op_neV (hu : X.A.units + 64 < cLine) : OpR X (compareOp .NotEq) (rOp X.K (cmpD .ne)) := by
  intro pins s σ H x y v u Q I rx ry h
  obtain ⟨ι, F, M, a, b, d, f, m, ra, rb, e, q⟩ := h
  simp only [cmpD, eqD, Option.map_eq_some_iff] at e
  obtain ⟨r, e, rfl⟩ := e
  split at e
  · cases e; rw [ra.str] at rx; rw [rb.str] at ry
    refine op_ne pins s σ H _ _ v u Q I rx ry ⟨rfl, ?_⟩
    rw [decS]
    exact fin_same f m q (.bl _)
  · cases e; rw [ra.int] at rx; rw [rb.int] at ry
    refine op_ne pins s σ H _ _ v u Q I rx ry ⟨rfl, ?_⟩
    rw [decI]
    exact fin_same f m q (.bl _)
  · cases e; rw [ra.bl] at rx; rw [rb.bl] at ry
    refine op_ne pins s σ H _ _ v u Q I rx ry ⟨rfl, ?_⟩
    rw [decB]
    exact fin_same f m q (.bl _)
  split at e
  · rename_i p1 p2 e1 e2
    split at e
    · rename_i hs; cases e
      exact op_neD hu pins s σ H _ _ v u Q I rx ry ⟨_, _, ra.dp f e1, rb.dp f e2, hs.1, hs.2, fin_same f m q (.bl _)⟩
    · cases e
  · cases e
/-- a flat value -/
def vOf : D → V
  | .bl b => .bl b | .int i => .int i | .str s => .str s | _ => .non
theorem RepR.flat {v : V} {d : D} (h : RepR K ι F H v d) (e : flatD d = true) : v = vOf d ∧ flatV (vOf d) = true := by
  cases d with
  | non => exact ⟨h.non, rfl⟩
  | bl b => exact ⟨h.bl, rfl⟩
  | int b => exact ⟨h.int, rfl⟩
  | str b => exact ⟨h.str, rfl⟩
  | _ => cases e
theorem eqF_eqV : ∀ {a b : D}, flatD a = true → flatD b = true → eqV (vOf a) (vOf b) = eqF a b := by
  intro a b ha hb
  cases a <;> first | (cases ha; done) | (cases b <;> first | (cases hb; done) | rfl)
theorem flats {ds : List D} : ∀ {vs : List V}, Reps K ι F vs ds → ds.all flatD = true → vs = ds.map vOf ∧ (ds.map vOf).all flatV = true := by
  induction ds with
  | nil => intro vs r _; cases r; exact ⟨rfl, rfl⟩
  | cons d ds ih =>
    intro vs r h
    cases r with
    | cons r1 r2 =>
      simp only [List.all_cons, Bool.and_eq_true] at h
      obtain ⟨e1, e2⟩ := ih r2 h.2
      obtain ⟨z1, z2⟩ := RepR.flat (H := fun _ => none) (.inl r1) h.1
      refine ⟨by rw [z1, e1]; rfl, ?_⟩
      simp only [List.map_cons, List.all_cons, Bool.and_eq_true]
      exact ⟨z2, e2⟩
theorem inV_map {x : D} (hx : flatD x = true) : ∀ {ds : List D}, ds.all flatD = true → inV (vOf x) (ds.map vOf) = ds.any fun y => eqF y x
  | [], _ => rfl
  | d :: ds, h => by
    simp only [List.all_cons, Bool.and_eq_true] at h
    have ih := inV_map hx h.2
    unfold inV at ih ⊢
    simp only [List.map_cons, List.any_cons, ih, eqF_eqV h.1 hx]
theorem op_inV (hu : X.A.units + 64 < cLine) : OpR X (compareOp .In) (rOp X.K (cmpD .isin)) := by
  intro pins s σ H x y v u Q I rx ry h
  obtain ⟨ι, F, M, a, b, d, f, m, ra, rb, e, q⟩ := h
  simp only [cmpD] at e
  split at e
  · rename_i ds
    simp only [memG, Option.map_eq_some_iff] at e
    obtain ⟨r, e, rfl⟩ := e
    split at e
    · rename_i r' em
      cases e
      simp only [memD] at em
      split at em
      · rename_i hc; cases em
        obtain ⟨z1, z2⟩ := ra.flat hc.1
        obtain ⟨p, vs, rfl, a1, r1⟩ := rb.lst f
        obtain ⟨z3, z4⟩ := flats r1 hc.2
        subst z1; subst z3
        refine op_in_seq pins s σ H _ _ v u Q I rx ry ⟨_, _, rfl, .inl a1, z2, z4, ?_⟩
        rw [inV_map hc.1 hc.2]
        exact fin_same f m q (.bl _)
      · cases em
    · split at e
      · rename_i pa pb e1 e2
        split at e
        · rename_i hc; cases e
          have hb : D.py (.lst ds) = some (.list pb) := by simp only [D.py, e2, Option.map_some]
          obtain ⟨as, r1⟩ := Dp.reads I pa x v (ra.dp f e1) rx
          obtain ⟨bs, r2⟩ := Dp.reads I (.list pb) y u (rb.dp f hb) ry
          exact SeqAt.in_list_reads r2 r1 hc.2.1 hc.1 (by have := hc.2.2; omega) ⟨.bl _, H, I, rfl, fin_same f m q (.bl _)⟩
        · cases e
      · cases e
  · simp only [memD, Option.map_eq_some_iff] at e
    obtain ⟨r, e, rfl⟩ := e
    split at e
    · rename_i hc; cases e
      obtain ⟨z1, z2⟩ := ra.flat hc.1
      obtain ⟨p, vs, rfl, a1, _, r1⟩ := rb.tup f
      obtain ⟨z3, z4⟩ := flats r1 hc.2
      subst z1; subst z3
      refine op_in_seq pins s σ H _ _ v u Q I rx ry ⟨_, _, rfl, .inr a1, z2, z4, ?_⟩
      rw [inV_map hc.1 hc.2]
      exact fin_same f m q (.bl _)
    · cases e
  · simp only [memD, Option.map_eq_some_iff] at e
    obtain ⟨r, e, rfl⟩ := e
    split at e
    · rename_i hc; cases e
      obtain ⟨z1, z2⟩ := ra.flat hc.1
      obtain ⟨p, vs, rfl, a1, r1⟩ := rb.ktup f
      obtain ⟨z3, z4⟩ := flats r1 hc.2
      subst z1; subst z3
      refine op_in_seq pins s σ H _ _ v u Q I rx ry ⟨_, _, rfl, .inr a1, z2, z4, ?_⟩
      rw [inV_map hc.1 hc.2]
      exact fin_same f m q (.bl _)
    · cases e
  · cases e
theorem op_notinV (hu : X.A.units + 64 < cLine) : OpR X (compareOp .NotIn) (rOp X.K (cmpD .notin)) := by
  intro pins s σ H x y v u Q I rx ry h
  obtain ⟨ι, F, M, a, b, d, f, m, ra, rb, e, q⟩ := h
  simp only [cmpD] at e
  split at e
  · rename_i ds
    simp only [memG, Option.map_eq_some_iff] at e
    obtain ⟨r, e, rfl⟩ := e
    split at e
    · rename_i r' em
      cases e
      simp only [memD] at em
      split at em
      · rename_i hc; cases em
        obtain ⟨z1, z2⟩ := ra.flat hc.1
        obtain ⟨p, vs, rfl, a1, r1⟩ := rb.lst f
        obtain ⟨z3, z4⟩ := flats r1 hc.2
        subst z1; subst z3
        refine op_notIn_seq pins s σ H _ _ v u Q I rx ry ⟨_, _, rfl, .inl a1, z2, z4, ?_⟩
        rw [inV_map hc.1 hc.2]
        exact fin_same f m q (.bl _)
      · cases em
    · split at e
      · rename_i pa pb e1 e2
        split at e
        · rename_i hc; cases e
          have hb : D.py (.lst ds) = some (.list pb) := by simp only [D.py, e2, Option.map_some]
          obtain ⟨as, r1⟩ := Dp.reads I pa x v (ra.dp f e1) rx
          obtain ⟨bs, r2⟩ := Dp.reads I (.list pb) y u (rb.dp f hb) ry
          exact SeqAt.notIn_list_reads r2 r1 hc.2.1 hc.1 (by have := hc.2.2; omega) ⟨.bl _, H, I, rfl, fin_same f m q (.bl _)⟩
        · cases e
      · cases e
  · simp only [memD, Option.map_eq_some_iff] at e
    obtain ⟨r, e, rfl⟩ := e
    split at e
    · rename_i hc; cases e
      obtain ⟨z1, z2⟩ := ra.flat hc.1
      obtain ⟨p, vs, rfl, a1, _, r1⟩ := rb.tup f
      obtain ⟨z3, z4⟩ := flats r1 hc.2
      subst z1; subst z3
      refine op_notIn_seq pins s σ H _ _ v u Q I rx ry ⟨_, _, rfl, .inr a1, z2, z4, ?_⟩
      rw [inV_map hc.1 hc.2]
      exact fin_same f m q (.bl _)
    · cases e
  · simp only [memD, Option.map_eq_some_iff] at e
    obtain ⟨r, e, rfl⟩ := e
    split at e
    · rename_i hc; cases e
      obtain ⟨z1, z2⟩ := ra.flat hc.1
      obtain ⟨p, vs, rfl, a1, r1⟩ := rb.ktup f
      obtain ⟨z3, z4⟩ := flats r1 hc.2
      subst z1; subst z3
      refine op_notIn_seq pins s σ H _ _ v u Q I rx ry ⟨_, _, rfl, .inr a1, z2, z4, ?_⟩
      rw [inV_map hc.1 hc.2]
      exact fin_same f m q (.bl _)
    · cases e
  · cases e
theorem op_cmpI {o : COp} {f : Value → Value → Sem Value} {g : Int → Int → Bool} (ho : OpR X f (rI0 fun i j => .bl (g i j)))
    (hg : ∀ a b d, cmpD o a b = some d → ∃ i j, a = .int i ∧ b = .int j ∧ d = .bl (g i j)) : OpR X f (rOp X.K (cmpD o)) := by
  intro pins s σ H x y v u Q I rx ry h
  obtain ⟨ι, F, M, a, b, d, f, m, ra, rb, e, q⟩ := h
  obtain ⟨i, j, rfl, rfl, rfl⟩ := hg a b d e
  rw [ra.int] at rx; rw [rb.int] at ry
  exact ho pins s σ H _ _ v u Q I rx ry ⟨_, _, rfl, rfl, fin_same f m q (.bl _)⟩
theorem op_cmp (hu : X.A.units + 64 < cLine) (o : COp) : OpR X (compareOp (pyCmp o)) (rOp X.K (cmpD o)) := by
  cases o with
  | eq => exact op_eqV hu
  | ne => exact op_neV hu
  | isin => exact op_inV hu
  | notin => exact op_notinV hu
  | lt =>
    refine op_cmpI op_lt fun a b d e => ?_
    simp only [cmpD] at e
    split at e
    · cases e; exact ⟨_, _, rfl, rfl, rfl⟩
    · cases e
  | le =>
    refine op_cmpI op_le fun a b d e => ?_
    simp only [cmpD] at e
    split at e
    · cases e; exact ⟨_, _, rfl, rfl, rfl⟩
    · cases e
  | gt =>
    refine op_cmpI op_gt fun a b d e => ?_
    simp only [cmpD] at e
    split at e
    · cases e; exact ⟨_, _, rfl, rfl, rfl⟩
    · cases e
  | ge =>
    refine op_cmpI op_ge fun a b d e => ?_
    simp only [cmpD] at e
    split at e
    · cases e; exact ⟨_, _, rfl, rfl, rfl⟩
    · cases e

  | is_ =>
    intro pins s σ H x y v u Q I rx ry h
    obtain ⟨ι, F, M, a, b, d, f, m, ra, rb, e, q⟩ := h
    simp only [cmpD] at e
    split at e
    · cases e
      rw [ra.bl] at rx; rw [rb.bl] at ry
      exact op_is_bl pins s σ H _ _ v u Q I rx ry ⟨_, _, rfl, rfl, fin_same f m q (.bl _)⟩
    · cases e
  | isnot =>
    intro pins s σ H x y v u Q I rx ry h
    obtain ⟨ι, F, M, a, b, d, f, m, ra, rb, e, q⟩ := h
    simp only [cmpD] at e
    split at e
    · cases e
      rw [ra.bl] at rx; rw [rb.bl] at ry
      exact op_isnot_bl pins s σ H _ _ v u Q I rx ry ⟨_, _, rfl, rfl, fin_same f m q (.bl _)⟩
    · cases e

/-! ### items, slices, calls of built-ins -/
theorem Reps.atI {vs : List V} {ds : List D} {i : Int} {d : D} (r : Reps K ι F vs ds) (h : L2.atI ds i = some d) : ∃ v, L2.atI vs i = some v ∧ Rep K ι F v d := by
  unfold L2.atI at h ⊢
  rw [r.length]
  cases e : ixN ds.length i with
  | none => rw [e] at h; cases h
  | some j =>
    rw [e] at h
    exact r.get h
theorem ix_V : IxR X (rOp X.K ixD) := by
  intro value slice pins s σ H x y v u Q I rx ry h hs
  obtain ⟨ι, F, M, a, b, d, f, m, ra, rb, e, q⟩ := h
  unfold ixD at e
  split at e
  · obtain ⟨p, vs, rfl, a1, r1⟩ := ra.lst f
    rw [rb.int] at ry
    obtain ⟨z, e1, r2⟩ := r1.atI e
    exact ix_list value slice pins s σ H _ _ v u Q I rx ry ⟨p, vs, _, z, rfl, rfl, a1, e1, fin_same f m q r2⟩ hs
  · obtain ⟨p, vs, rfl, a1, _, r1⟩ := ra.tup f
    rw [rb.int] at ry
    obtain ⟨z, e1, r2⟩ := r1.atI e
    exact ix_tup value slice pins s σ H _ _ v u Q I rx ry ⟨p, vs, _, z, rfl, rfl, a1, e1, fin_same f m q r2⟩ hs
  · cases e
def rSl (K : PySem.W.Frag) : V → Option Int → Option Int → Hp → VK → Prop := fun x lo hi H Q => ∃ ι F M a d, FSub F H ∧ MemRep K ι F M H ∧ RepR K ι F H x a ∧ slD a lo hi = some d ∧
  ∀ F' H' v, Stp ι F H ι F' H' → FSub F' H' → MemRep K ι F' M H' → Rep K ι F' v d → Q v H'
theorem Reps.cut {vs : List V} {ds : List D} (lo hi : Option Int) (r : Reps K ι F vs ds) : Reps K ι F (cutV vs lo hi) (cutD ds lo hi) := by
  unfold cutV cutD
  rw [r.length]
  exact (r.drop _).take _
theorem sl_V : SlR X (rSl X.K) := by
  intro pins s σ H x v vl vu lo hi sl Q I rx hs pl pu h
  obtain ⟨ι, F, M, a, d, f, m, ra, e, q⟩ := h
  cases a with
  | lst ds =>
    simp only [slD, Option.some.injEq] at e
    subst e
    obtain ⟨p, vs, rfl, a1, r1⟩ := ra.lst f
    exact sl_list pins s σ H _ v vl vu lo hi sl Q I rx hs pl pu ⟨p, vs, rfl, a1, fun p hp => fin_new f m q hp (rep_new_lst f hp (r1.cut _ _))⟩
  | tup ds =>
    simp only [slD] at e
    split at e
    · cases e
    · rename_i hc
      cases e
      obtain ⟨p, vs, rfl, a1, _, r1⟩ := ra.tup f
      exact sl_tup pins s σ H _ v vl vu lo hi sl Q I rx hs pl pu ⟨p, vs, rfl, a1, by rw [r1.length]; exact hc, fun p hp => fin_new f m q hp (rep_new_tup f hp (r1.cut _ _))⟩
  | _ => simp [slD] at e
theorem intsOf_map : ∀ {ds : List D} {ns : List Int}, intsOf ds = some ns → ds = ns.map D.int
  | [], ns, h => by simp only [intsOf, Option.some.injEq] at h; subst h; rfl
  | d :: ds, ns, h => by
    cases d <;> simp only [intsOf, Option.map_eq_some_iff, reduceCtorEq] at h
    obtain ⟨r, h, rfl⟩ := h
    rw [intsOf_map h]; rfl
theorem blsOf_map : ∀ {ds : List D} {ns : List Bool}, blsOf ds = some ns → ds = ns.map D.bl
  | [], ns, h => by simp only [blsOf, Option.some.injEq] at h; subst h; rfl
  | d :: ds, ns, h => by
    cases d <;> simp only [blsOf, Option.map_eq_some_iff, reduceCtorEq] at h
    obtain ⟨r, h, rfl⟩ := h
    rw [blsOf_map h]; rfl
theorem Reps.ints : ∀ {ns : List Int} {vs : List V}, Reps K ι F vs (ns.map D.int) → vs = ns.map V.int
  | [], _, .nil => rfl
  | n :: ns, _, .cons a r => by
    cases a
    rw [r.ints]; rfl
theorem Reps.bls : ∀ {ns : List Bool} {vs : List V}, Reps K ι F vs (ns.map D.bl) → vs = ns.map V.bl
  | [], _, .nil => rfl
  | n :: ns, _, .cons a r => by
    cases a
    rw [r.bls]; rfl
def pyBlt : Blt → Value
  | .len => .builtin "len" | .int => .type "int" | .list => .type "list" | .tuple => .type "tuple" | .max => .builtin "max" | .min => .builtin "min"
  | .abs => .builtin "abs" | .sum => .builtin "sum" | .sorted => .builtin "sorted" | .any => .builtin "any" | .all => .builtin "all" | .str => .type "str"
theorem RepsR.one {vs : List V} {d : D} (h : RepsR K ι F H vs [d]) : ∃ v, vs = [v] ∧ RepR K ι F H v d := by
  cases h with | cons a r => cases r; exact ⟨_, rfl, a⟩
theorem RepsR.two {vs : List V} {d e : D} (h : RepsR K ι F H vs [d, e]) : ∃ v w, vs = [v, w] ∧ RepR K ι F H v d ∧ RepR K ι F H w e := by
  cases h with | cons a r => cases r with | cons b r => cases r; exact ⟨_, _, rfl, a, b⟩
/-! ### the greatest, the least, sorted -/
theorem foldMax : ∀ (l : List Int) (a : Int), a ≤ l.foldl max a ∧ (∀ y ∈ l, y ≤ l.foldl max a) ∧ (l.foldl max a = a ∨ l.foldl max a ∈ l)
  | [], a => ⟨Int.le_refl _, (fun _ h => by cases h), .inl rfl⟩
  | b :: l, a => by
    obtain ⟨h1, h2, h3⟩ := foldMax l (max a b)
    refine ⟨by show a ≤ l.foldl max (max a b); omega, fun y hy => ?_, ?_⟩
    · show y ≤ l.foldl max (max a b)
      rcases List.mem_cons.mp hy with rfl | hy
      · omega
      · exact h2 y hy
    · show l.foldl max (max a b) = a ∨ l.foldl max (max a b) ∈ b :: l
      rcases h3 with h3 | h3
      · by_cases e : a ≤ b
        · exact .inr (by rw [h3, Int.max_eq_right e]; exact List.mem_cons_self)
        · exact .inl (by rw [h3]; omega)
      · exact .inr (List.mem_cons_of_mem _ h3)
theorem foldMin : ∀ (l : List Int) (a : Int), l.foldl min a ≤ a ∧ (∀ y ∈ l, l.foldl min a ≤ y) ∧ (l.foldl min a = a ∨ l.foldl min a ∈ l)
  | [], a => ⟨Int.le_refl _, (fun _ h => by cases h), .inl rfl⟩
  | b :: l, a => by
    obtain ⟨h1, h2, h3⟩ := foldMin l (min a b)
    refine ⟨by show l.foldl min (min a b) ≤ a; omega, fun y hy => ?_, ?_⟩
    · show l.foldl min (min a b) ≤ y
      rcases List.mem_cons.mp hy with rfl | hy
      · omega
      · exact h2 y hy
    · show l.foldl min (min a b) = a ∨ l.foldl min (min a b) ∈ b :: l
      rcases h3 with h3 | h3
      · by_cases e : b ≤ a
        · exact .inr (by rw [h3, Int.min_eq_right e]; exact List.mem_cons_self)
        · exact .inl (by rw [h3]; omega)
      · exact .inr (List.mem_cons_of_mem _ h3)
theorem maxL_ok {ns : List Int} {m : Int} (h : maxL ns = some m) : 0 < ns.length ∧ ∀ k, k ∈ ns → (∀ y, y ∈ ns → y ≤ k) → k = m := by
  cases ns with
  | nil => cases h
  | cons a r =>
    simp only [maxL, Option.some.injEq] at h
    subst h
    obtain ⟨h1, h2, h3⟩ := foldMax r a
    refine ⟨by simp, fun k hk hy => ?_⟩
    have e1 : r.foldl max a ≤ k := by
      rcases h3 with h3 | h3
      · rw [h3]; exact hy a List.mem_cons_self
      · exact hy _ (List.mem_cons_of_mem _ h3)
    rcases List.mem_cons.mp hk with rfl | hk
    · omega
    · have := h2 k hk; omega
theorem minL_ok {ns : List Int} {m : Int} (h : minL ns = some m) : 0 < ns.length ∧ ∀ k, k ∈ ns → (∀ y, y ∈ ns → k ≤ y) → k = m := by
  cases ns with
  | nil => cases h
  | cons a r =>
    simp only [minL, Option.some.injEq] at h
    subst h
    obtain ⟨h1, h2, h3⟩ := foldMin r a
    refine ⟨by simp, fun k hk hy => ?_⟩
    have e1 : k ≤ r.foldl min a := by
      rcases h3 with h3 | h3
      · rw [h3]; exact hy a List.mem_cons_self
      · exact hy _ (List.mem_cons_of_mem _ h3)
    rcases List.mem_cons.mp hk with rfl | hk
    · omega
    · have := h2 k hk; omega
theorem sort_uniq {ns ms : List Int} (hp : ms.Perm ns) (hs : ms.Pairwise (· ≤ ·)) : ms = ns.mergeSort (fun a b => decide (a ≤ b)) := by
  refine List.Perm.eq_of_pairwise (le := (· ≤ ·)) (fun a b _ _ h1 h2 => Int.le_antisymm h1 h2) hs ?_ (hp.trans (List.mergeSort_perm ns _).symm)
  have := List.pairwise_mergeSort (le := fun a b : Int => decide (a ≤ b)) (fun a b c h1 h2 => by simp only [decide_eq_true_eq] at *; omega) (fun a b => by simp only [Bool.or_eq_true, decide_eq_true_eq]; omega) ns
  simpa only [decide_eq_true_eq] using this
theorem sortP_uniq {ns ms : List (Int × Int)} (hp : ms.Perm ns) (hs : ms.Pairwise fun a b => lePB a b = true) : ms = ns.mergeSort lePB := by
  refine List.Perm.eq_of_pairwise (le := fun a b => lePB a b = true) (fun a b _ _ h1 h2 => ?_) hs ?_ (hp.trans (List.mergeSort_perm ns _).symm)
  · simp only [lePB, decide_eq_true_eq] at h1 h2
    exact Prod.ext (by omega) (by omega)
  · exact List.pairwise_mergeSort (le := lePB) (fun a b c h1 h2 => by simp only [lePB, decide_eq_true_eq] at *; omega) (fun a b => by simp only [lePB, Bool.or_eq_true, decide_eq_true_eq]; omega) ns
theorem pairsOf_map : ∀ {ds : List D} {ps : List (Int × Int)}, pairsOf ds = some ps → ds = ps.map fun p => .tup [.int p.1, .int p.2]
  | [], ps, h => by simp only [pairsOf, Option.some.injEq] at h; subst h; rfl
  | d :: ds, ps, h => by
    unfold pairsOf at h
    split at h
    · rename_i e; cases e
    · rename_i i j r e
      cases e
      simp only [Option.map_eq_some_iff] at h
      obtain ⟨qs, h, rfl⟩ := h
      rw [pairsOf_map h]; rfl
    · cases h
theorem Reps.pairs : ∀ {ps : List (Int × Int)} {vs : List V}, Reps K ι F vs (ps.map fun p => .tup [.int p.1, .int p.2]) → ∀ x ∈ vs, ∃ p : Int × Int, ∃ t, x = .ref t ∧ F t = some (.tup [.int p.1, .int p.2])
  | [], _, h, x, hx => by cases h; cases hx
  | p :: ps, _, h, x, hx => by
    cases h with
    | cons h r =>
      rcases List.mem_cons.mp hx with rfl | hx
      · cases h with
        | tup a q =>
          cases q with | cons q1 q => cases q with | cons q2 q => cases q; cases q1; cases q2; exact ⟨p, _, rfl, a⟩
      · exact Reps.pairs r x hx
theorem Reps.keys {X : Cx} {pins : List (Addr × Obj)} {s : Shared} {σ : L2.St} {k : V → Int × Int} (I : L2.Inv X pins σ H s) (f : FSub F H) : ∀ {ps : List (Int × Int)} {vs : List V}, Reps X.K ι F vs (ps.map fun p => .tup [.int p.1, .int p.2]) → (∀ x ∈ vs, ∃ t, x = .ref t ∧ F t = some (.tup [.int (k x).1, .int (k x).2])) → vs.map k = ps
  | [], _, h, _ => by cases h; rfl
  | p :: ps, _, h, hk => by
    cases h with
    | cons h r =>
      rw [List.map_cons, Reps.keys I f r fun x hx => hk x (List.mem_cons_of_mem _ hx)]
      congr 1
      obtain ⟨t, e, q⟩ := hk _ List.mem_cons_self
      cases h with
      | tup a q' =>
        cases q' with
        | cons q1 q2 =>
          cases q2 with
          | cons q2 q3 =>
            cases q3; cases q1; cases q2
            cases e
            rw [a] at q
            injection q with this
            injection this with this
            injection this with h1 h2
            injection h2 with h2 _
            injection h1 with h1
            injection h2 with h2
            exact Prod.ext h1.symm h2.symm
/-- a pair of ints lies there -/
theorem pair_there {X : Cx} {pins : List (Addr × Obj)} {sh : Shared} {σ : L2.St} {c : Addr} {p : Int × Int} (I : L2.Inv X pins σ H sh) (h : SqT X.K H c [.int p.1, .int p.2]) : Srt.IsPair sh.heap (.ref c) p.1 p.2 := by
  obtain ⟨parts, rel, ⟨ob, at_, cls, ep, dat⟩, _⟩ := I.tuple h
  obtain ⟨v1, v2, rfl, ⟨t1, r1⟩, ⟨t2, r2⟩⟩ := vals2 rel
  subst r1 r2
  exact ⟨c, ob, t1, t2, ep, rfl, at_, cls, dat⟩
/-- sorted(xs), xs pairs of ints, wherever their tuples come from -/
theorem cr_sortedPX {X : Cx} : CallR X (.builtin "sorted") (fun vs H Q => ∃ (a : Addr) (xs : List V) (k : V → Int × Int), vs = [V.ref a] ∧ SqL X.K H a xs ∧ (∀ x ∈ xs, ∃ t, x = V.ref t ∧ SqT X.K H t [.int (k x).1, .int (k x).2]) ∧
  ∀ ys p, SrtO.Srtd (ltP k) ys → SrtO.Stb (ltP k) ys xs → H p = none → Q (.ref p) (upd H p (.lst ys))) := by
  intro pins sh σ hp args us Q I rel ⟨a, xs, k, ea, sq, par, fin⟩
  subst ea
  obtain ⟨w0, rfl, rw0⟩ := vals1 rel
  cases rw0
  obtain ⟨its, rv, pl, small⟩ := I.list sq
  obtain ⟨back, refs⟩ := refs_back rv fun x m => (par x m).imp fun _ z => z.1
  have small' : its.length ≤ sizeLine := rv.length ▸ small
  refine SrtO.sorted_pairsO (k := k ∘ backV) pl.isList small' (fun v hv => ?_) fun h2 d out so st keep hd ⟨ep, e⟩ => ?_
  · obtain ⟨c, rfl⟩ := refs v hv
    obtain ⟨c', ec, q⟩ := par (.ref c) (back ▸ List.mem_map.mpr ⟨_, hv, rfl⟩)
    cases ec
    exact pair_there I q
  · have stb : SrtO.Stb (ltP k) (out.map backV) xs := back ▸ SrtO.Stb.map (ltP_swo k) backV st
    have vo := vals_back fun u hu => refs u (st.perm.mem_iff.mp hu)
    exact ⟨.ref d, _, I.laid (o := .lst (out.map backV)) (t' := sh.toks) keep hd ⟨stb.len ▸ small, out, ep, vo, e⟩, rfl, fin _ d (SrtO.srtd_map so) stb (I.hok.fresh hd)⟩
theorem ltP_le {k : V → Int × Int} {x y : V} (h : ltP k y x = false) : lePB (k x) (k y) = true := by
  have := SrtO.lexB_no.mp h
  simp only [lePB, decide_eq_true_eq]; omega
theorem cl_blt (hc : X.calm = true) (b : Blt) : CallR X (pyBlt b) (rCl X.K (bltD b)) := by
  intro pins s σ H xs us Q I r h
  obtain ⟨ι, F, M, as, d, f, m, ra, e, q⟩ := h
  unfold bltD at e
  split at e
  · cases e
    obtain ⟨v, rfl, r1⟩ := ra.one
    obtain ⟨p, vs, rfl, a1, r2⟩ := r1.lst f
    refine call_len_seq pins s σ H _ us Q I r ⟨p, vs, rfl, .inl a1, ?_⟩
    rw [r2.length]; exact fin_same f m q (.int _)
  · cases e
    obtain ⟨v, rfl, r1⟩ := ra.one
    obtain ⟨p, vs, rfl, a1, _, r2⟩ := r1.tup f
    refine call_len_seq pins s σ H _ us Q I r ⟨p, vs, rfl, .inr a1, ?_⟩
    rw [r2.length]; exact fin_same f m q (.int _)
  · cases e
    obtain ⟨v, rfl, r1⟩ := ra.one
    obtain ⟨p, kvs, rfl, a1, r2⟩ := r1.dic f
    refine cr_lenD pins s σ H _ us Q I r ⟨p, kvs, rfl, a1, ?_⟩
    have e := repK_len r2
    rw [List.length_map] at e
    rw [e]
    exact fin_same f m q (.int _)
  · cases e
    obtain ⟨v, rfl, r1⟩ := ra.one
    obtain ⟨p, vs, rfl, a1, r2⟩ := r1.ktup f
    refine call_len_seq pins s σ H _ us Q I r ⟨p, vs, rfl, .inr a1, ?_⟩
    rw [r2.length]; exact fin_same f m q (.int _)
  · cases e
    obtain ⟨v, rfl, r1⟩ := ra.one
    rw [r1.int] at r
    exact call_int1 pins s σ H _ us Q I r (.inl ⟨_, rfl, fin_same f m q (.int _)⟩)
  · cases e
    obtain ⟨v, rfl, r1⟩ := ra.one
    rw [r1.bl] at r
    exact call_int1 pins s σ H _ us Q I r (.inr ⟨_, rfl, fin_same f m q (.int _)⟩)
  · cases e
    obtain ⟨v, rfl, r1⟩ := ra.one
    obtain ⟨p, vs, rfl, a1, r2⟩ := r1.lst f
    exact call_list_of pins s σ H _ us Q I r ⟨p, vs, rfl, .inl a1, fun p hp => fin_new f m q hp (rep_new_lst f hp r2)⟩
  · cases e
    obtain ⟨v, rfl, r1⟩ := ra.one
    obtain ⟨p, vs, rfl, a1, _, r2⟩ := r1.tup f
    exact call_list_of pins s σ H _ us Q I r ⟨p, vs, rfl, .inr a1, fun p hp => fin_new f m q hp (rep_new_lst f hp r2)⟩
  · cases e
    obtain ⟨v, rfl, r1⟩ := ra.one
    rename_i tt kvs0
    cases tt with
    | true =>
      obtain ⟨p, kvs, rfl, a1, r2⟩ := r1.dicT f
      refine call_list_dT hc pins s σ H _ us Q I r ⟨p, kvs, rfl, a1, fun p bs hp hk => ?_⟩
      obtain ⟨F2, s2, f2, m2, hk2⟩ := tups_in f m hk
      exact fin_new2 s2 f2 m2 q hp (rep_new_lst f2 hp (keys_reps r2 hk2))
    | false =>
    obtain ⟨p, kvs, rfl, a1, r2⟩ := r1.dic f
    exact call_listD hc pins s σ H _ us Q I r ⟨p, kvs, rfl, a1, fun p hp => fin_new f m q hp (rep_new_lst f hp (repK_keys r2))⟩
  · cases e
    obtain ⟨v, rfl, r1⟩ := ra.one
    obtain ⟨p, vs, rfl, a1, a2, r2⟩ := r1.tup f
    exact call_tuple_of pins s σ H _ us Q I r ⟨p, vs, rfl, .inr ⟨a1, fin_same f m q (.tup a2 r2)⟩⟩
  · cases e
    obtain ⟨v, rfl, r1⟩ := ra.one
    obtain ⟨p, vs, rfl, a1, r2⟩ := r1.lst f
    exact call_tuple_of pins s σ H _ us Q I r ⟨p, vs, rfl, .inl ⟨a1, fun p hp => fin_new f m q hp (rep_new_tup f hp r2)⟩⟩
  · cases e
    obtain ⟨v, w, rfl, r1, r2⟩ := ra.two
    rw [r1.int, r2.int] at r
    exact call_max2 hc pins s σ H _ us Q I r ⟨_, _, rfl, fin_same f m q (.int _)⟩
  · cases e
    obtain ⟨v, w, rfl, r1, r2⟩ := ra.two
    rw [r1.int, r2.int] at r
    exact call_min2 hc pins s σ H _ us Q I r ⟨_, _, rfl, fin_same f m q (.int _)⟩
  · simp only [Option.bind_eq_some_iff, Option.map_eq_some_iff] at e
    obtain ⟨ns, e, x, em, rfl⟩ := e
    obtain ⟨v, rfl, r1⟩ := ra.one
    obtain ⟨p, vs, rfl, a1, r2⟩ := r1.lst f
    rw [intsOf_map e] at r2
    rw [r2.ints] at a1
    obtain ⟨g1, g2⟩ := maxL_ok em
    exact cr_max hc pins s σ H _ us Q I r ⟨p, ns, rfl, a1, g1, fun k hk hy => by rw [g2 k hk hy]; exact fin_same f m q (.int _)⟩
  · simp only [Option.bind_eq_some_iff, Option.map_eq_some_iff] at e
    obtain ⟨ns, e, x, em, rfl⟩ := e
    obtain ⟨v, rfl, r1⟩ := ra.one
    obtain ⟨p, vs, rfl, a1, r2⟩ := r1.lst f
    rw [intsOf_map e] at r2
    rw [r2.ints] at a1
    obtain ⟨g1, g2⟩ := minL_ok em
    exact cr_min hc pins s σ H _ us Q I r ⟨p, ns, rfl, a1, g1, fun k hk hy => by rw [g2 k hk hy]; exact fin_same f m q (.int _)⟩
  · simp only [Option.map_eq_some_iff] at e
    obtain ⟨ss, e, rfl⟩ := e
    obtain ⟨v, rfl, r1⟩ := ra.one
    obtain ⟨p, vs, rfl, a1, r2⟩ := r1.lst f
    unfold srtD at e
    split at e
    · rename_i ns en
      cases e
      rw [intsOf_map en] at r2
      rw [r2.ints] at a1
      refine cr_sortedI pins s σ H _ us Q I r ⟨p, ns, rfl, a1, fun ns' p hp hs hn => ?_⟩
      rw [sort_uniq hp hs]
      refine fin_new f m q hn (rep_new_lst f hn ?_)
      have reps : ∀ ns : List Int, Reps X.K ι F (ns.map V.int) (ns.map D.int) := fun ns => by
        induction ns with
        | nil => exact .nil
        | cons n ns ih => exact .cons (.int n) ih
      exact reps _
    · simp only [Option.map_eq_some_iff] at e
      obtain ⟨ps, ep, rfl⟩ := e
      rw [pairsOf_map ep] at r2
      classical
      have hk := r2.pairs
      refine cr_sortedPX pins s σ H _ us Q I r ⟨p, vs, fun x => if h : ∃ p : Int × Int, ∃ t, x = .ref t ∧ F t = some (.tup [.int p.1, .int p.2]) then Classical.choose h else (0, 0), rfl, a1, fun x hx => ?_, fun ys p hs hb hn => ?_⟩
      · dsimp only
        rw [dif_pos (hk x hx)]
        obtain ⟨t, e, q⟩ := Classical.choose_spec (hk x hx)
        exact ⟨t, e, .inl (.inl (f.tup q))⟩
      · generalize hkd : (fun x => if h : ∃ p : Int × Int, ∃ t, x = V.ref t ∧ F t = some (.tup [.int p.1, .int p.2]) then Classical.choose h else (0, 0)) = k at hs hb
        have hk2 : ∀ x ∈ vs, ∃ t, x = .ref t ∧ F t = some (.tup [.int (k x).1, .int (k x).2]) := fun x hx => by
          rw [← hkd]
          dsimp only
          rw [dif_pos (hk x hx)]
          exact Classical.choose_spec (hk x hx)
        have e1 := Reps.keys I f r2 hk2
        have e2 : ys.map k = ps.mergeSort lePB := by
          refine sortP_uniq (by rw [← e1]; exact hb.perm.map k) ?_
          rw [List.pairwise_map]
          exact hs.imp fun h => ltP_le h
        refine fin_new f m q hn (rep_new_lst f hn ?_)
        rw [← e2, List.map_map]
        have reps : ∀ l : List V, (∀ x ∈ l, ∃ t, x = .ref t ∧ F t = some (.tup [.int (k x).1, .int (k x).2])) → Reps X.K ι F l (l.map ((fun p => D.tup [.int p.1, .int p.2]) ∘ k)) := fun l => by
          induction l with
          | nil => exact fun _ => .nil
          | cons n l ih =>
            intro h
            refine .cons ?_ (ih fun x hx => h x (List.mem_cons_of_mem _ hx))
            obtain ⟨t, e, q⟩ := h n List.mem_cons_self
            have : Rep X.K ι F (.ref t) (.tup [.int (k n).1, .int (k n).2]) := .tup q (.cons (.int _) (.cons (.int _) .nil))
            rw [← e] at this
            exact this
        exact reps ys fun x hx => hk2 x (hb.perm.mem_iff.mp hx)
  · simp only [Option.map_eq_some_iff] at e
    obtain ⟨ns, e, rfl⟩ := e
    obtain ⟨v, rfl, r1⟩ := ra.one
    obtain ⟨p, kvs, rfl, a1, r2⟩ := r1.dic f
    refine cr_sortedDK hc pins s σ H _ us Q I r ⟨p, kvs, ns, rfl, a1, repK_ints r2 e, fun ns' p hp hs hn => ?_⟩
    rw [sort_uniq hp hs]
    refine fin_new f m q hn (rep_new_lst f hn ?_)
    have reps : ∀ ns : List Int, Reps X.K ι F (ns.map V.int) (ns.map D.int) := fun ns => by
      induction ns with
      | nil => exact .nil
      | cons n ns ih => exact .cons (.int n) ih
    exact reps _
  · cases e
    obtain ⟨v, rfl, r1⟩ := ra.one
    rw [r1.int] at r
    exact call_abs pins s σ H _ us Q I r ⟨_, rfl, fin_same f m q (.int _)⟩
  · simp only [Option.map_eq_some_iff] at e
    obtain ⟨ns, e, rfl⟩ := e
    obtain ⟨v, rfl, r1⟩ := ra.one
    obtain ⟨p, vs, rfl, a1, r2⟩ := r1.lst f
    rw [intsOf_map e] at r2
    rw [r2.ints] at a1
    exact cr_sum hc pins s σ H _ us Q I r ⟨p, ns, rfl, a1, fin_same f m q (.int _)⟩
  · simp only [Option.map_eq_some_iff] at e
    obtain ⟨ns, e, rfl⟩ := e
    obtain ⟨v, rfl, r1⟩ := ra.one
    obtain ⟨p, vs, rfl, a1, r2⟩ := r1.lst f
    rw [blsOf_map e] at r2
    rw [r2.bls] at a1
    exact cr_all hc pins s σ H _ us Q I r ⟨p, ns, rfl, a1, fin_same f m q (.bl _)⟩
  · simp only [Option.map_eq_some_iff] at e
    obtain ⟨ns, e, rfl⟩ := e
    obtain ⟨v, rfl, r1⟩ := ra.one
    obtain ⟨p, vs, rfl, a1, r2⟩ := r1.lst f
    rw [blsOf_map e] at r2
    rw [r2.bls] at a1
    exact cr_any hc pins s σ H _ us Q I r ⟨p, ns, rfl, a1, fin_same f m q (.bl _)⟩
  · cases e
/-! ### isinstance -/
def tyName : Ty → String
  | .int => "int" | .bool => "bool" | .str => "str" | .list => "list" | .tuple => "tuple" | .dict => "dict"
def tyD : D → String
  | .non => "NoneType" | .bl _ => "bool" | .int _ => "int" | .str _ => "str" | .tup _ => "tuple" | .lst _ => "list" | .dic _ _ => "dict" | _ => ""
theorem RepR.ty {d : D} {v : V} (f : FSub F H) (h : RepR K ι F H v d) (hd : ∀ c fs, d ≠ .ins c fs) (hr : ∀ n, d ≠ .ref n) (hk : ∀ t n, d ≠ .dic t n) (hkt : ∀ n, d ≠ .ktup n) : TyX K H v (.type (tyD d)) := by
  cases d with
  | non => rw [h.non]; exact .base .non
  | bl b => rw [h.bl]; exact .base (.bl b)
  | int b => rw [h.int]; exact .base (.int b)
  | str b => rw [h.str]; exact .base (.str b)
  | tup ds =>
    obtain ⟨p, vs, rfl, a1, _, r1⟩ := h.tup f
    rcases a1 with (a | ⟨o, a⟩) | ⟨o, its, n, a, c, _⟩
    · exact .base (.tup a)
    · exact .fTuple a
    · exact .kTuple a c
  | lst ds =>
    obtain ⟨p, vs, rfl, a1, r1⟩ := h.lst f
    rcases a1 with (a | ⟨o, a⟩) | ⟨o, its, n, a, c, _⟩
    · exact .base (.lst a)
    · exact .base (.frz a)
    · exact .kList a c
  | dic t kds => exact absurd rfl (hk t kds)
  | ktup kds => exact absurd rfl (hkt kds)
  | ins c fs => exact absurd rfl (hd c fs)
  | ref n => exact absurd rfl (hr n)
end
end
end VL

/-! VT: try with several clauses, each with a name or without -/
namespace VL
open PySem PySem.Spec PyProof.Rows L2
/-- one clause: its class, its name's slot, its suite's reading -/
structure Cls1 where
  c : Value
  i : Option Nat
  t : Addr → Value → Option Addr → TS
def setN (σ : L2.St) : Option Nat → Option V → L2.St
  | none, _ => σ
  | some i, v => σ.set i v
def endsN (D : Ends) (i : Option Nat) : Ends := { nx := fun σ H => D.nx (setN σ i none) H, rt := D.rt, bk := fun σ H => D.bk (setN σ i none) H, ct := fun σ H => D.ct (setN σ i none) H }
/-- what the clauses want of an exception -/
def wHds (K : PySem.W.Frag) (Wo : WX) (D : Ends) : List Cls1 → WX
  | [] => Wo
  | h :: r => fun cls d σ H => ∃ b, PySem.W.exmOne K cls h.c = some b ∧ (b = true → (∀ g ∈ r, ∃ b2, PySem.W.exmOne K cls g.c = some b2) ∧ ∀ a, H a = none → h.t a cls d (endsN D h.i) (setN σ h.i (some (.ref a))) H) ∧ (b = false → wHds K Wo D r cls d σ H)
inductive HdsN (X : Cx) : List ExceptHandler → List Cls1 → Prop
  | nil : HdsN X [] []
  | plain {x : Str} {h : Cls1} {b0 : Stmt} {ss : List Stmt} {p1 p2 : Pos} {hds : List ExceptHandler} {l : List Cls1} (hc : Names X x h.c) (hi : h.i = none)
      (su : ∀ (a : Addr) (oe : Obj) (cls : Value) (d : Option Addr) (pn : List (Addr × Obj)), Zc cls d oe → (∃ vs, oe.data = .fields vs) → PSs (X.suite a ((a, oe) :: pn)) (b0 :: ss) (h.t a cls d)) (r : HdsN X hds l) :
      HdsN X (.ExceptHandler (some (.Name x p1)) none (b0 :: ss) p2 :: hds) (h :: l)
  | named {x n : Str} {i : Nat} {h : Cls1} {b0 : Stmt} {ss : List Stmt} {p1 p2 : Pos} {hds : List ExceptHandler} {l : List Cls1} (hc : Names X x h.c) (hi : h.i = some i) (hN : X.N[i]? = some n) (hl : X.env.kindOf n = some .local)
      (su : ∀ (a : Addr) (oe : Obj) (cls : Value) (d : Option Addr) (pn : List (Addr × Obj)), Zc cls d oe → (∃ vs, oe.data = .fields vs) → PSs (X.suite a ((a, oe) :: pn)) (b0 :: ss) (h.t a cls d)) (r : HdsN X hds l) :
      HdsN X (.ExceptHandler (some (.Name x p1)) (some n) (b0 :: ss) p2 :: hds) (h :: l)
  | tup {x1 x2 : Str} {h1 h2 : Cls1} {b0 : Stmt} {ss : List Stmt} {k : Nat} {p1 p2 p3 p4 : Pos} {hds : List ExceptHandler} {l : List Cls1} (hc1 : Names X x1 h1.c) (hc2 : Names X x2 h2.c) (hi1 : h1.i = none) (hi2 : h2.i = none)
      (su1 : ∀ (a : Addr) (oe : Obj) (cls : Value) (d : Option Addr) (pn : List (Addr × Obj)), Zc cls d oe → (∃ vs, oe.data = .fields vs) → PSs (X.suite a ((a, oe) :: pn)) (b0 :: ss) (h1.t a cls d))
      (su2 : ∀ (a : Addr) (oe : Obj) (cls : Value) (d : Option Addr) (pn : List (Addr × Obj)), Zc cls d oe → (∃ vs, oe.data = .fields vs) → PSs (X.suite a ((a, oe) :: pn)) (b0 :: ss) (h2.t a cls d)) (r : HdsN X hds l) :
      HdsN X (.ExceptHandler (some (.Tuple [.Name x1 p1, .Name x2 p2] k p3)) none (b0 :: ss) p4 :: hds) (h1 :: h2 :: l)
theorem flying_push {base : Heap} {l : List Env} {e : Addr} {Z : Obj → Prop} {h : Heap} {o : Obj} (x : HandSPX.FlyingZ base l e Z h) : HandSPX.FlyingZ base l e Z (h.push o) := by
  obtain ⟨f1, f2, f3, oe, vs, T, oT, ts, he, hz, hd, h1, h2, h3, h4, h5, h6⟩ := x
  have k : ∀ b x, h.get? b = some x → (h.push o).get? b = some x := fun b x e => Heap.get?_push_of_some _ e
  exact ⟨fun b x hb => k _ _ (f1 b x hb), f2, Heap.FunFrames.of_keeps (fun b x e _ => ⟨x, k b x e, rfl⟩) f3, oe, vs, T, oT, ts, k _ _ he, hz, hd, h1, h2, h3, k _ _ h4, h5, h6⟩
section
variable {X : Cx} {body : List Stmt} {h0 : ExceptHandler} {hds : List ExceptHandler} {l : List Cls1} {pos : Pos} {tb : WX → TS} {Wo : WX}
/-- the state in which a clause is looked at -/
structure Caught (X : Cx) (pins : List (Addr × Obj)) (σ1 : L2.St) (H1 : Hp) (s1 : Shared) (a : Addr) (cls : Value) (d : Option Addr) (B : Heap) (sI : Shared) (hp : Heap) : Prop where
  J : Inv X pins σ1 H1 sI
theorem ps_try_hds (hst : X.stack = X.env :: X.outer) (hfl : X.env.frame = some X.env.locals) (hnd : X.N.Nodup) (tk : Takes X Wo)
    (hb : ∀ (W : WX) (pn : List (Addr × Obj)) (xe : Value → Shared → Prop), Takes (X.tr pn xe) W → PassesOwn (model X.prog X.w) X.A X.env xe → PSs (X.tr pn xe) body (tb W))
    (hh : HdsN X (h0 :: hds) l) : PS X (.Try body (h0 :: hds) [] [] pos) (fun D σ H => tb (wHds X.K Wo D l) D σ H) := by
  constructor
  intro pins s σ H D I hq
  have ok := I.ok
  have frs0 : X.A.frames = some (X.env :: X.outer) := by
    rw [ok.frames]; rw [hst]
  apply wpAny_Try_except
  have run := (hb (wHds X.K Wo D l) (X.pn ++ pins) (fun e sa => wpAny (model X.prog X.w) X.A (noteFrame e X.env)
    (fun _ sb => wpAny (model X.prog X.w) X.A (setFlight e none) (fun _ sc => wpAny (model X.prog X.w) X.A
      (handleBy e X.env (h0 :: hds)) (SP X pins D) X.xe sc) X.xe sb) X.xe sa) ?ctch PassesOwn.looking).run [] s σ H D (I.toTry _) hq
  case ctch =>
    intro u s2 xx
    obtain ⟨a, B, sI, pins2, σ2, H2, cls, d, rfl, J0, nb, up, sky, na, os, ag, w⟩ := xx
    have J : Inv X pins σ2 H2 sI := J0.ofTry ok
    have sky2 : Sky B (X.env :: X.outer) a (Zc cls d) X.env.locals s2.heap := by
      rw [← hst]; exact sky
    show wpAny (model X.prog X.w) X.A (noteFrame (.ref a) X.env) _ _ _
    refine Sky.land Zc.steady frs0 hfl sky2 ?_
    intro h3 fl3 up3
    have look : ∀ {x : Str} {c : Value} {b : Bool} {p1 : Pos} {Q : Bool → Shared → Prop} {E : Value → Shared → Prop}, Names X x c → True := fun _ => trivial
    have go : ∀ {hs2 : List ExceptHandler} {l2 : List Cls1}, HdsN X hs2 l2 → ∀ {h3 : Heap}, HandSPX.FlyingZ B (X.env :: X.outer) a (Zc cls d) h3 → s2.heap.UpToSlots h3 → wHds X.K Wo D l2 cls d σ2 H2 →
        wpAny (model X.prog X.w) X.A (handleBy (.ref a) X.env hs2) (SP X pins D) X.xe { s2 with heap := h3 } := by
      intro hs2 l2 hk
      induction hk with
      | nil =>
        intro h3 fl3 up3 w
        apply wpAny_handleBy_nil
        obtain ⟨_, _, _, oe, vs, T, oT, t2, he, hz, hd, hT, hr⟩ := id fl3
        unfold PySem.passOn
        refine wpAny_bind (wpAny_field he hd hT ?_)
        rw [if_neg (by simp : ¬ ((Value.ref T == Value.none) = true))]
        have last : wpAny (model X.prog X.w) X.A (setFlight (.ref a) X.env.frame)
            (fun _ s4 => wpAny (model X.prog X.w) X.A (throw (.ref a) : Sem Flow) (SP X pins D) X.xe s4) X.xe { s2 with heap := h3 } := by
          rw [hfl]
          refine HandSPX.setFlight_upZ fl3 ?_
          intro h4 hh4 up4
          refine wpAny_throw (tk _ _ ?_)
          have hh5 : _ := hh4
          rw [← hst] at hh5
          exact ⟨a, B, sI, pins, σ2, H2, cls, d, rfl, J, nb, (up.trans up3).trans up4, .inr (.inr hh5), na, os, ag, w⟩
        first
          | exact wpAny_bind (wpAny_pure (wpAny_bind last))
          | exact wpAny_bind last
      | @plain x h b0 ss p1 p2 hds2 l2 hc hi su r ih =>
        intro h3 fl3 up3 w
        have J3 : Inv X pins σ2 H2 { s2 with heap := h3 } :=
          J.landed nb fl3.1 (up.trans up3) os ag
        obtain ⟨oe3, vs3, he3, hz3, hd3⟩ := fl3.there
        have off : ∀ {h : Heap} {o : Obj} {vs : Array Value}, h.FunFrames B (X.env :: X.outer) → h.get? a = some o → o.data = .fields vs →
            a ∉ frs (X.env :: X.outer) := by
          intro h o vs ff e dd hm
          obtain ⟨_, o2, e2, hnf⟩ := ff.mem hm
          rw [e] at e2
          cases e2
          exact hnf _ dd
        have nfr := off fl3.2.2.1 he3 hd3
        have nL : a ≠ X.env.locals := by
          intro z
          refine nfr (List.mem_filterMap.mpr ⟨X.env, List.mem_cons_self, ?_⟩)
          rw [hfl, z]
        have nF : a ∉ X.fs := by
          intro hm
          obtain ⟨e, he, q⟩ := List.mem_filterMap.mp hm
          exact nfr (List.mem_filterMap.mpr ⟨e, List.mem_cons_of_mem _ he, q⟩) <;> skip
        have S3 := J3.suite he3 hd3 na nL nF
        obtain ⟨b, hb1, yes, no⟩ := w
        refine wpAny_handleBy_cons (codeAny_handlers_test ?_) (fun q => by cases q)
        have LT : PySem.W.Looks (model X.prog X.w) h3 (typeOf (.ref a)) cls := by
          intro A Q E s k q
          exact wpAny_typeOf_ref (k _ _ he3) (by rw [hz3.1]; exact q)
        have LM := PySem.W.exm_one (M := model X.prog X.w) (J3.kIn) LT hb1
        have tst : ∀ {Q : Value → Shared → Prop} {E : Value → Shared → Prop}, Q h.c { s2 with heap := h3 } →
            wpAny (model X.prog X.w) (X.A.mark (some (.ref a))) (eval (.Name x p1) X.env) Q E { s2 with heap := h3 } := by
          intro Q E q
          obtain ⟨hg, hdb, hm | ⟨hm, hv, hn⟩⟩ := hc
          · exact ld_glob (X := X.suite a ((a, oe3) :: (X.pn ++ pins))) S3 hg hm q hdb
          · exact ld_blt (X := X.suite a ((a, oe3) :: (X.pn ++ pins))) S3 hg hm hv q hn hdb
        refine tst (LM.here ?_)
        cases b with
        | false =>
          show wpAny _ X.A (handleBy (.ref a) X.env hds2) _ _ _
          exact ih fl3 up3 (no rfl)
        | true =>
          apply codeAny_handlers_suite
          refine HandSPX.lands_againZ fl3 ?_
          intro h4 fl4 up4
          have J4 : Inv X pins σ2 H2 { s2 with heap := h4 } :=
            J.landed nb fl4.1 ((up.trans up3).trans up4) os ag
          obtain ⟨oe4, vs4, he4, hz4, hd4⟩ := fl4.there
          have S4 := J4.suite he4 hd4 na nL nF
          have yes := (yes rfl).2 a na
          rw [hi] at yes
          refine wpAny_mono ((su a oe4 cls d (X.pn ++ pins) hz4 ⟨_, hd4⟩).run [] _ _ H2 _ S4 yes) ?_ (fun _ _ z => z.elim)
          intro f s6 hsp
          cases f with
          | next => obtain ⟨σ6, H6, S6, q6⟩ := hsp; exact ⟨_, _, S6.unsuite ok, q6⟩
          | brk => obtain ⟨σ6, H6, S6, q6⟩ := hsp; exact ⟨_, _, S6.unsuite ok, q6⟩
          | cont => obtain ⟨σ6, H6, S6, q6⟩ := hsp; exact ⟨_, _, S6.unsuite ok, q6⟩
          | ret u => obtain ⟨v6, σ6, H6, S6, r6, q6⟩ := hsp; exact ⟨_, _, _, S6.unsuite ok, r6, q6⟩
      | @named x n i h b0 ss p1 p2 hds2 l2 hc hi hN hl su r ih =>
        intro h3 fl3 up3 w
        have J3 : Inv X pins σ2 H2 { s2 with heap := h3 } :=
          J.landed nb fl3.1 (up.trans up3) os ag
        obtain ⟨oe3, vs3, he3, hz3, hd3⟩ := fl3.there
        have off : ∀ {h : Heap} {o : Obj} {vs : Array Value}, h.FunFrames B (X.env :: X.outer) → h.get? a = some o → o.data = .fields vs →
            a ∉ frs (X.env :: X.outer) := by
          intro h o vs ff e dd hm
          obtain ⟨_, o2, e2, hnf⟩ := ff.mem hm
          rw [e] at e2
          cases e2
          exact hnf _ dd
        have nfr := off fl3.2.2.1 he3 hd3
        have nL : a ≠ X.env.locals := by
          intro z
          refine nfr (List.mem_filterMap.mpr ⟨X.env, List.mem_cons_self, ?_⟩)
          rw [hfl, z]
        have nF : a ∉ X.fs := by
          intro hm
          obtain ⟨e, he, q⟩ := List.mem_filterMap.mp hm
          exact nfr (List.mem_filterMap.mpr ⟨e, List.mem_cons_of_mem _ he, q⟩) <;> skip
        have S3 := J3.suite he3 hd3 na nL nF
        obtain ⟨b, hb1, yes, no⟩ := w
        refine wpAny_handleBy_cons (codeAny_handlers_test ?_) (fun q => by cases q)
        have LT : PySem.W.Looks (model X.prog X.w) h3 (typeOf (.ref a)) cls := by
          intro A Q E s k q
          exact wpAny_typeOf_ref (k _ _ he3) (by rw [hz3.1]; exact q)
        have LM := PySem.W.exm_one (M := model X.prog X.w) (J3.kIn) LT hb1
        have tst : ∀ {Q : Value → Shared → Prop} {E : Value → Shared → Prop}, Q h.c { s2 with heap := h3 } →
            wpAny (model X.prog X.w) (X.A.mark (some (.ref a))) (eval (.Name x p1) X.env) Q E { s2 with heap := h3 } := by
          intro Q E q
          obtain ⟨hg, hdb, hm | ⟨hm, hv, hn⟩⟩ := hc
          · exact ld_glob (X := X.suite a ((a, oe3) :: (X.pn ++ pins))) S3 hg hm q hdb
          · exact ld_blt (X := X.suite a ((a, oe3) :: (X.pn ++ pins))) S3 hg hm hv q hn hdb
        refine tst (LM.here ?_)
        cases b with
        | false =>
          show wpAny _ X.A (handleBy (.ref a) X.env hds2) _ _ _
          exact ih fl3 up3 (no rfl)
        | true =>
          apply codeAny_handlers_suite_as
          refine HandSPX.lands_againZ fl3 ?_
          intro h4 fl4 up4
          have J4 : Inv X pins σ2 H2 { s2 with heap := h4 } :=
            J.landed nb fl4.1 ((up.trans up3).trans up4) os ag
          obtain ⟨oe4, vs4, he4, hz4, hd4⟩ := fl4.there
          have S4 := J4.suite he4 hd4 na nL nF
          have yes := (yes rfl).2 a na
          rw [hi] at yes
          refine store_ok (X := X.suite a ((a, oe4) :: (X.pn ++ pins))) (v := .ref a) S4 hnd hN (.inl hl) rfl ?_ (.inr hl)
          intro s5 S5
          refine wpAny_mono ((su a oe4 cls d (X.pn ++ pins) hz4 ⟨_, hd4⟩).run [] s5 _ H2 _ S5 yes) ?_ (fun _ _ z => z.elim)
          intro f s6 hsp
          have fin : ∀ {σ6 : L2.St} {H6 : Hp} {Q : Shared → Prop}, Inv (X.suite a ((a, oe4) :: (X.pn ++ pins))) [] σ6 H6 s6 →
              (∀ s7, Inv X pins (σ6.set i none) H6 s7 → Q s7) →
              wpAny (model X.prog X.w) X.A (do bindName X.env n .none; unbindBehindTheSuite X.env n p2) (fun _ s7 => Q s7) X.xe s6 := by
            intro σ6 H6 Q S6 hq
            exact gone_ok (S6.unsuite ok) hnd hN hl hq
          cases f with
          | next => obtain ⟨σ6, H6, S6, q6⟩ := hsp; exact fin S6 fun s7 J7 => ⟨_, _, J7, q6⟩
          | brk => obtain ⟨σ6, H6, S6, q6⟩ := hsp; exact fin S6 fun s7 J7 => ⟨_, _, J7, q6⟩
          | cont => obtain ⟨σ6, H6, S6, q6⟩ := hsp; exact fin S6 fun s7 J7 => ⟨_, _, J7, q6⟩
          | ret u => obtain ⟨v6, σ6, H6, S6, r6, q6⟩ := hsp; exact fin S6 fun s7 J7 => ⟨_, _, _, J7, r6, q6⟩
      | @tup x1 x2 h1 h2 b0 ss k p1 p2 p3 p4 hds2 l2 hc1 hc2 hi1 hi2 su1 su2 r ih =>
        intro h3 fl3 up3 w
        have J3 : Inv X pins σ2 H2 { s2 with heap := h3 } :=
          J.landed nb fl3.1 (up.trans up3) os ag
        obtain ⟨oe3, vs3, he3, hz3, hd3⟩ := fl3.there
        have off : ∀ {h : Heap} {o : Obj} {vs : Array Value}, h.FunFrames B (X.env :: X.outer) → h.get? a = some o → o.data = .fields vs →
            a ∉ frs (X.env :: X.outer) := by
          intro h o vs ff e dd hm
          obtain ⟨_, o2, e2, hnf⟩ := ff.mem hm
          rw [e] at e2
          cases e2
          exact hnf _ dd
        have nfr := off fl3.2.2.1 he3 hd3
        have nL : a ≠ X.env.locals := by
          intro z
          refine nfr (List.mem_filterMap.mpr ⟨X.env, List.mem_cons_self, ?_⟩)
          rw [hfl, z]
        have nF : a ∉ X.fs := by
          intro hm
          obtain ⟨e, he, q⟩ := List.mem_filterMap.mp hm
          exact nfr (List.mem_filterMap.mpr ⟨e, List.mem_cons_of_mem _ he, q⟩) <;> skip
        have S3 := J3.suite he3 hd3 na nL nF
        obtain ⟨b1, hb1, yes1, no1⟩ := w
        have b2x : ∃ b2, PySem.W.exmOne X.K cls h2.c = some b2 := by
          cases b1 with
          | true => exact (yes1 rfl).1 h2 List.mem_cons_self
          | false => obtain ⟨b2, q, _⟩ := no1 rfl; exact ⟨b2, q⟩
        obtain ⟨b2, hb2⟩ := b2x
        refine wpAny_handleBy_cons (codeAny_handlers_test ?_) (fun q => by cases q)
        have tst : ∀ {x : Str} {c : Value} {p : Pos}, Names X x c → ∀ {Q : Value → Shared → Prop} {E : Value → Shared → Prop}, Q c { s2 with heap := h3 } →
            wpAny (model X.prog X.w) (X.A.mark (some (.ref a))) (eval (.Name x p) X.env) Q E { s2 with heap := h3 } := by
          intro x c p hc Q E q
          obtain ⟨hg, hdb, hm | ⟨hm, hv, hn⟩⟩ := hc
          · exact ld_glob (X := X.suite a ((a, oe3) :: (X.pn ++ pins))) S3 hg hm q hdb
          · exact ld_blt (X := X.suite a ((a, oe3) :: (X.pn ++ pins))) S3 hg hm hv q hn hdb
        have tst2 : ∀ {Q : Value → Shared → Prop} {E : Value → Shared → Prop}, Q (.ref h3.objs.size) { s2 with heap := h3.push { cls := .type "tuple", data := .seq [h1.c, h2.c].toArray } } →
            wpAny (model X.prog X.w) (X.A.mark (some (.ref a))) (eval (.Tuple [.Name x1 p1, .Name x2 p2] k p3) X.env) Q E { s2 with heap := h3 } := by
          intro Q E q
          refine wpAny_Tuple (wpAny_items_cons (tst hc1 ?_) rfl)
          refine wpAny_items_cons (tst hc2 ?_) rfl
          refine wpAny_items_nil ?_
          exact ⟨by show 2 ≤ sizeLine; decide +kernel, q⟩
        have fl4 := flying_push (o := { cls := .type "tuple", data := .seq [h1.c, h2.c].toArray }) fl3
        have up4 : s2.heap.UpToSlots (h3.push { cls := .type "tuple", data := .seq [h1.c, h2.c].toArray }) := up3.trans (Heap.UpToSlots.of_keeps fun b o e => Heap.get?_push_of_some _ e)
        have hp : (h3.push { cls := .type "tuple", data := .seq [h1.c, h2.c].toArray }).get? h3.objs.size = some { cls := .type "tuple", data := .seq [h1.c, h2.c].toArray } := Heap.get?_push_size _ rfl
        refine tst2 ?_
        clear tst tst2
        clear S3 nfr oe3 he3 hz3 hd3
        generalize h3.push { cls := .type "tuple", data := .seq [h1.c, h2.c].toArray } = h3' at *
        have J3' : Inv X pins σ2 H2 { s2 with heap := h3' } := J.landed nb fl4.1 (up.trans up4) os ag
        obtain ⟨oe3, vs3, he3, hz3, hd3⟩ := fl4.there
        have LT : PySem.W.Looks (model X.prog X.w) h3' (typeOf (.ref a)) cls := by
          intro A Q E s k q
          exact wpAny_typeOf_ref (k _ _ he3) (by rw [hz3.1]; exact q)
        have hx : PySem.W.exmAny X.K cls [h1.c, h2.c] = some (b1 || (b2 || false)) := by
          unfold PySem.W.exmAny
          unfold PySem.W.exmAny
          unfold PySem.W.exmAny
          rw [hb1, hb2]
        have LM := PySem.W.exm_tup2 (M := model X.prog X.w) (J3'.kIn) LT hp hx
        refine LM.here ?_
        cases hb : (b1 || (b2 || false)) with
        | false =>
          show wpAny _ X.A (handleBy (.ref a) X.env hds2) _ _ _
          have e1 : b1 = false := by cases b1 <;> simp_all
          have e2 : b2 = false := by cases b2 <;> simp_all
          obtain ⟨b2', q, _, no2⟩ := no1 e1
          rw [hb2] at q
          cases q
          exact ih fl4 up4 (no2 e2)
        | true =>
          apply codeAny_handlers_suite
          refine HandSPX.lands_againZ fl4 ?_
          intro h4 fl5 up5
          have J4 : Inv X pins σ2 H2 { s2 with heap := h4 } :=
            J.landed nb fl5.1 ((up.trans up4).trans up5) os ag
          obtain ⟨oe4, vs4, he4, hz4, hd4⟩ := fl5.there
          have S4 := J4.suite he4 hd4 na nL nF
          obtain ⟨t, st, yt⟩ : ∃ t : TS, PSs (X.suite a ((a, oe4) :: (X.pn ++ pins))) (b0 :: ss) t ∧ t (endsN D none) (setN σ2 none (some (.ref a))) H2 := by
            cases hb1e : b1 with
            | true =>
              have y := (yes1 hb1e).2 a na
              rw [hi1] at y
              exact ⟨_, su1 a oe4 cls d (X.pn ++ pins) hz4 ⟨_, hd4⟩, y⟩
            | false =>
              have e2 : b2 = true := by cases b2 <;> simp_all
              obtain ⟨b2', q, y2, _⟩ := no1 hb1e
              rw [hb2] at q
              cases q
              have y := (y2 e2).2 a na
              rw [hi2] at y
              exact ⟨_, su2 a oe4 cls d (X.pn ++ pins) hz4 ⟨_, hd4⟩, y⟩
          refine wpAny_mono (st.run [] _ _ H2 _ S4 yt) ?_ (fun _ _ z => z.elim)
          intro f s6 hsp
          cases f with
          | next => obtain ⟨σ6, H6, S6, q6⟩ := hsp; exact ⟨_, _, S6.unsuite ok, q6⟩
          | brk => obtain ⟨σ6, H6, S6, q6⟩ := hsp; exact ⟨_, _, S6.unsuite ok, q6⟩
          | cont => obtain ⟨σ6, H6, S6, q6⟩ := hsp; exact ⟨_, _, S6.unsuite ok, q6⟩
          | ret u => obtain ⟨v6, σ6, H6, S6, r6, q6⟩ := hsp; exact ⟨_, _, _, S6.unsuite ok, r6, q6⟩
    exact go hh fl3 up3 w
  refine wpAny_mono run ?_ (fun e s1 he => he)
  intro f s1 hsp
  cases f with
  | next => obtain ⟨σ1, H1, J1, q⟩ := hsp; exact wpAny_execs_nil ⟨σ1, H1, J1.ofTry ok, q⟩
  | brk => obtain ⟨σ1, H1, J1, q⟩ := hsp; exact ⟨σ1, H1, J1.ofTry ok, q⟩
  | cont => obtain ⟨σ1, H1, J1, q⟩ := hsp; exact ⟨σ1, H1, J1.ofTry ok, q⟩
  | ret u => obtain ⟨v, σ1, H1, J1, r, q⟩ := hsp; exact ⟨v, σ1, H1, J1.ofTry ok, r, q⟩
end
end VL

/-! V3: what a text is matched with; expressions are served by the evaluator -/
namespace VL
open PySem PySem.Spec PyProof.Rows L2

/-! ### matching -/
/-- a class: its name, what makes it, its fields, its methods -/
structure CD where
  name : Str
  ini : Option Nat
  flds : List Str
  meths : List (Str × Nat)
structure Nms where
  fns : List Str
  consts : List Str
  excs : List Str
  cls : List CD
  dcts : List Str
def Nms.hasF (nm : Nms) (k f : Str) : Bool := nm.cls.any fun c => decide (c.name = k) && c.flds.contains f
def Nms.hasM (nm : Nms) (k m : Str) (f : Nat) : Bool := nm.cls.any fun c => decide (c.name = k) && c.meths.contains (m, f)
def Nms.hasI (nm : Nms) (k : Str) (f : Nat) : Bool := nm.cls.any fun c => decide (c.name = k) && decide (c.ini = some f)
/-- what may stand ahead of a point -/
def recvB : Expr → Bool
  | .Name _ _ => true
  | .Subscript _ _ _ => true
  | .Attribute _ _ _ => true
  | .Call _ (_ :: _) _ _ => true
  | _ => false
def mthName : Mth → Str
  | .get => "get"
  | .index => "index"
  | .indexL => "index"
def mthB : Mth → Bool
  | .get => false
  | _ => true
def keysB : List Str → List (Option Expr) → Bool
  | [], ks => ks.isEmpty
  | s :: r, ks => match ks with
    | some (.Constant (.str z) _ _) :: q => decide (z = s) && keysB r q
    | _ => false
def okN (x : Str) : Bool := !(x == ("__debug__" : Str)) && !(x == ("__classdict__" : Str)) && !decide (x = ("__name__" : Str))
def glB (sc : Scope) (x : Str) : Bool := okN x && decide (sc.names.lookup x = some .globalImplicit)
def visB (sc : Scope) (x : Str) : Bool := okN x && (decide (sc.names.lookup x = some .local) || decide (sc.names.lookup x = some .cell) || decide (sc.names.lookup x = some .free))
def locB (sc : Scope) (x : Str) : Bool := decide (sc.names.lookup x = some .local) || decide (sc.names.lookup x = some .cell)
def nst : Expr → Bool
  | .Starred _ _ => false
  | _ => true
def litB : D → Const → Bool
  | .non, .none => true
  | .bl a, .bool b => a == b
  | .int a, .int b => decide (a = b)
  | .str a, .str b => decide (a = b)
  | _, _ => false
def bltName : Blt → Str
  | .len => "len" | .int => "int" | .list => "list" | .tuple => "tuple" | .max => "max" | .min => "min"
  | .abs => "abs" | .sum => "sum" | .sorted => "sorted" | .any => "any" | .all => "all" | .str => "str"
def bltNames : List Str := ["len", "int", "list", "tuple", "max", "min", "abs", "sum", "sorted", "any", "all", "str", "range", "reversed", "zip", "enumerate", "isinstance", "bool", "dict", "ValueError"]
def tyStr : Ty → Str
  | .int => "int" | .bool => "bool" | .str => "str" | .list => "list" | .tuple => "tuple" | .dict => "dict"
def pixB : Expr → Bool
  | .Slice _ _ _ _ => false
  | .Constant _ _ _ => true
  | .Name _ _ => true
  | .BinOp _ _ _ _ => true
  | .UnaryOp _ _ _ => true
  | .Call _ _ _ _ => true
  | .Subscript _ _ _ => true
  | .Attribute _ _ _ => true
  | _ => false
mutual
def mP (N : List Str) (sc : Scope) : Pt → Expr → Bool
  | .v i, e => match e with
    | .Name x _ => decide (N[i]? = some x) && locB sc x
    | _ => false
  | .t ps, e => match e with
    | .Tuple es _ _ => mPs N sc ps es
    | _ => false
def mPs (N : List Str) (sc : Scope) : List Pt → List Expr → Bool
  | [], es => es.isEmpty
  | p :: ps, es => match es with
    | e :: es => nst e && mP N sc p e && mPs N sc ps es
    | [] => false
end
mutual
def ptV : Pt → List Nat
  | .v i => [i]
  | .t ps => ptVs ps
def ptVs : List Pt → List Nat
  | [] => []
  | p :: ps => ptV p ++ ptVs ps
end
def mOp : BOp → Operator → Bool
  | .add, .Add | .sub, .Sub | .mul, .Mult | .fdiv, .FloorDiv | .mod, .Mod | .pow, .Pow | .band, .BitAnd => true
  | _, _ => false
def mCmp : COp → CmpOp → Bool
  | .eq, .Eq | .ne, .NotEq | .lt, .Lt | .le, .LtE | .gt, .Gt | .ge, .GtE | .isin, .In | .notin, .NotIn | .is_, .Is | .isnot, .IsNot => true
  | _, _ => false
theorem mOp_eq {o : BOp} {p : Operator} (h : mOp o p = true) : p = pyOp o := by
  cases o <;> cases p <;> first | rfl | cases h
theorem mCmp_eq {o : COp} {p : CmpOp} (h : mCmp o p = true) : p = pyCmp o := by
  cases o <;> cases p <;> first | rfl | cases h
def isIsNone (ng : Bool) : CmpOp → Bool
  | .Is => !ng
  | .IsNot => ng
  | _ => false
mutual
def tstB : Ex → Bool
  | .ite _ _ _ => false
  | .and es => tstBs es && !es.isEmpty
  | .or es => tstBs es && !es.isEmpty
  | .not a => tstB a
  | .bor a => tstB a
  | .look a => tstB a
  | _ => true
def tstBs : List Ex → Bool
  | [] => true
  | e :: es => tstB e && tstBs es
end
def tupE : Expr → Bool
  | .Tuple _ _ _ => true
  | _ => false
/-- what walks: its name, how many it takes -/
def itB (k : ItK) (x : Str) (n : Nat) (tg : Expr) : Bool :=
  match k with
  | .rng1 => decide (x = ("range" : Str)) && decide (n = 1)
  | .rng2 => decide (x = ("range" : Str)) && decide (n = 2)
  | .rng3 => decide (x = ("range" : Str)) && decide (n = 3)
  | .rev => decide (x = ("reversed" : Str)) && decide (n = 1)
  | .zip => decide (x = ("zip" : Str)) && decide (n = 2) && tupE tg
  | .enum => decide (x = ("enumerate" : Str)) && decide (n = 1) && tupE tg
  | _ => false
def pixD : Expr → Bool
  | .Tuple _ _ _ => true
  | e => pixB e
def nameE : Expr → Bool
  | .Name _ _ => true
  | _ => false
/-- a comprehension with two walks -/
structure C2 where
  ee : Expr
  tg : Expr
  iter : Expr
  ifs : List Expr
  tg2 : Expr
  iter2 : Expr
  ifs2 : List Expr
  scope : Scope
def c2Of : Expr → Option C2
  | .ListComp ee [⟨tg, iter, ifs, 0⟩, ⟨tg2, iter2, ifs2, 0⟩] scope _ => some ⟨ee, tg, iter, ifs, tg2, iter2, ifs2, scope⟩
  | _ => none
/-- what a walk takes -/
def itArgs : ItK → Expr → List Expr
  | .seq, e => [e]
  | _, .Call _ es _ _ => es
  | _, _ => []
def itShp (sc : Scope) (k : ItK) (tg : Expr) : Expr → Bool
  | .Call (.Name x _) es kws _ => (match k with
    | .seq => true
    | .keys => false
    | k => glB sc x && kws.isEmpty && itB k x es.length tg)
  | .Set _ _ _ => false
  | .SetComp _ _ _ _ => false
  | .List _ _ => false
  | .Tuple _ _ _ => false
  | _ => (match k with
    | .seq => true
    | _ => false)
def c2B (N : List Str) (sc : Scope) (p : Pt) (k : ItK) (conds : List Ex) (own : List Nat) (p2 : Pt) (k2 : ItK) (conds2 : List Ex) (own2 : List Nat) (q : C2) : Bool :=
  blkC N sc q.scope (own.map fun i => (N.getD i "", i)) && mP N q.scope p q.tg && (ptV p).all (fun i => own.contains i) && own.all (fun i => decide (i < N.length)) && decide (conds.length ≤ 1) && tstBs conds &&
  mP N q.scope p2 q.tg2 && (ptV p2).all (fun i => own2.contains i) && own2.all (fun i => own.contains i) && decide (conds2.length ≤ 1) && tstBs conds2 && itShp sc k q.tg q.iter && itShp q.scope k2 q.tg2 q.iter2
/-- a name alone -/
def mVar (N : List Str) (sc : Scope) (i : Nat) (e : Expr) : Bool :=
  match e with
  | .Name x _ => decide (N[i]? = some x) && visB sc x
  | _ => false
def noDc : Ex → Bool
  | .dcomp _ _ _ _ _ _ => false
  | .bor a => noDc a
  | .look a => noDc a
  | _ => true
mutual
def mE (N : List Str) (nm : Nms) : Ex → Scope → Expr → Bool
  | .var i, sc, e => match e with
    | .Name x _ => decide (N[i]? = some x) && visB sc x
    | _ => false
  | .lit d, _, e => match e with
    | .Constant c _ _ => litB d c
    | _ => false
  | .glob k, sc, e => match e with
    | .Name x _ => decide (nm.consts[k]? = some x) && glB sc x
    | _ => false
  | .tup xs, sc, e => match e with
    | .Tuple es _ _ => mEs N nm xs sc es && decide (xs.length ≤ 1000)
    | _ => false
  | .lst xs, sc, e => match e with
    | .List es _ => mEs N nm xs sc es && decide (xs.length ≤ 1000)
    | _ => false
  | .dict0, _, e => false
  | .bin o a b, sc, e => match e with
    | .BinOp ea op eb _ => mOp o op && mE N nm a sc ea && mE N nm b sc eb
    | _ => false
  | .neg a, sc, e => match e with
    | .UnaryOp op ea _ => (match op with | .USub => true | _ => false) && mE N nm a sc ea
    | _ => false
  | .cmp o a b, sc, e => match e with
    | .Compare ea ops es _ => (match ops, es with
      | [op], [eb] => mCmp o op && !behindInMarks op eb && mE N nm a sc ea && mE N nm b sc eb
      | _, _ => false)
    | _ => false
  | .chain o o2 a b c, sc, e => match e with
    | .Compare ea ops es _ => (match ops, es with
      | [op, op2], [eb, ec] => mCmp o op && mCmp o2 op2 && !lastMarks [op, op2] [eb, ec] && mE N nm a sc ea && mE N nm b sc eb && mE N nm c sc ec
      | _, _ => false)
    | _ => false
  | .isN a ng, sc, e => match e with
    | .Compare ea ops es _ => (match ops, es with
      | [op], [.Constant .none _ _] => isIsNone ng op && mE N nm a sc ea
      | _, _ => false)
    | _ => false
  | .and xs, sc, e => match e with
    | .BoolOp op es _ => (match op with | .And => true | _ => false) && mEs N nm xs sc es
    | _ => false
  | .or xs, sc, e => match e with
    | .BoolOp op es _ => (match op with | .Or => true | _ => false) && mEs N nm xs sc es
    | _ => false
  | .not a, sc, e => match e with
    | .UnaryOp op ea _ => (match op with | .Not => true | _ => false) && mE N nm a sc ea
    | _ => false
  | .ite c a b, sc, e => match e with
    | .IfExp ec ea eb _ => tstB c && mE N nm c sc ec && mE N nm a sc ea && mE N nm b sc eb
    | _ => false
  | .ix a b, sc, e => match e with
    | .Subscript ea eb _ => pixB eb && mE N nm a sc ea && mE N nm b sc eb
    | _ => false
  | .sl a lo hi, sc, e => match e with
    | .Subscript ea eb _ => (match eb with
      | .Slice l u st _ => st.isNone && mE N nm a sc ea && (match l with | some e => mE N nm lo sc e && (match lo with | .lit .non => false | _ => true) | none => (match lo with | .lit .non => true | _ => false)) && (match u with | some e => mE N nm hi sc e && (match hi with | .lit .non => false | _ => true) | none => (match hi with | .lit .non => true | _ => false))
      | _ => false)
    | _ => false
  | .call f xs, sc, e => match e with
    | .Call fn es kws _ => (match fn with
      | .Name x _ => decide (nm.fns[f]? = some x) && glB sc x && kws.isEmpty && mEs N nm xs sc es
      | _ => false)
    | _ => false
  | .blt b xs, sc, e => match e with
    | .Call fn es kws _ => (match fn with
      | .Name x _ => decide (x = bltName b) && glB sc x && kws.isEmpty && !es.isEmpty && mEs N nm xs sc es
      | _ => false)
    | _ => false
  | .mth m o xs, sc, e => match e with
    | .Call fn es kws cp => (match fn with
      | .Attribute eo mm ap => decide (mm = mthName m) && mthB m && kws.isEmpty && decide (es.length = 1) && (ap.endLine == cp.line) && recvB eo && mE N nm o sc eo && mEs N nm xs sc es
      | _ => false)
    | _ => false
  | .fld ks a f, sc, e => match e with
    | .Attribute eo m _ => decide (m = f) && recvB eo && (ks.all fun k => nm.hasF k f) && mE N nm a sc eo
    | _ => false
  | .mcall k m f o xs, sc, e => match e with
    | .Call fn es kws cp => (match fn with
      | .Attribute eo mm ap => decide (mm = m) && recvB eo && kws.isEmpty && nm.hasM k m f && (ap.endLine == cp.line) && decide (es.length < 29) && mE N nm o sc eo && mEs N nm xs sc es
      | _ => false)
    | _ => false
  | .mk f xs, sc, e => match e with
    | .Call fn es kws _ => (match fn with
      | .Name x _ => glB sc x && kws.isEmpty && nm.hasI x f && mEs N nm xs sc es
      | _ => false)
    | _ => false
  | .disp ks xs, sc, e => match e with
    | .Dict keys es _ => keysB ks keys && !ks.isEmpty && decide (ks.length ≤ 15) && decide (keys.length = es.length) && mEs N nm xs sc es
    | _ => false
  | .dcomp kx vx p k args own, sc, e => match e with
    | .DictComp ek ev gs scope _ => (match gs with
      | [⟨tg, iter, ifs, 0⟩] => ifs.isEmpty && blkC N sc scope (own.map fun i => (N.getD i "", i)) && mP N scope p tg && (ptV p).all (fun i => own.contains i) && own.all (fun i => decide (i < N.length)) && itShp sc k tg iter &&
          mEs N nm args sc (itArgs k iter) && mE N nm kx scope ek && mE N nm vx scope ev
      | _ => false)
    | _ => false
  | .isi a t, sc, e => match e with
    | .Call fn es kws _ => (match fn, es with
      | .Name x _, [ea, .Name y _] => decide (x = ("isinstance" : Str)) && glB sc x && decide (y = tyStr t) && glB sc y && kws.isEmpty && nst ea && mE N nm a sc ea
      | _, _ => false)
    | _ => false
  | .bor a, sc, e => mE N nm a sc e
  | .look a, sc, e => mE N nm a sc e
  | .rpop a, sc, e => match e with
    | .Call fn es kws cp => (match fn with
      | .Attribute o m ap => kws.isEmpty && es.isEmpty && (ap.endLine == cp.line) && decide (m = ("pop" : Str)) && nameE o && mE N nm a sc o
      | _ => false)
    | _ => false
  | .rsl a, sc, e => match e with
    | .Subscript ea eb _ => (match eb with
      | .Slice none none (some (.UnaryOp .USub (.Constant (.int 1) _ _) _)) _ => mE N nm a sc ea
      | _ => false)
    | _ => false
  | .kget k a, sc, e => match e with
    | .Subscript ed ek _ => (match ed with
      | .Name x _ => decide (nm.dcts[k]? = some x) && glB sc x && pixD ek && mE N nm a sc ek
      | _ => false)
    | _ => false
  | .ch4 o1 o2 o3 o4 a b g d x, sc, e => match e with
    | .Compare ea ops es _ => (match ops, es with
      | [p1, p2, p3, p4], [eb, eg, ed, ex] => mCmp o1 p1 && mCmp o2 p2 && mCmp o3 p3 && mCmp o4 p4 && !lastMarks [p1, p2, p3, p4] [eb, eg, ed, ex] && mE N nm a sc ea && mE N nm b sc eb && mE N nm g sc eg && mE N nm d sc ed && mE N nm x sc ex
      | _, _ => false)
    | _ => false
  | .mxd a d, sc, e => match e with
    | .Call fn es kws _ => (match fn, es, kws with
      | .Name x _, [ea], [⟨some y, ed, _⟩] => decide (x = ("max" : Str)) && glB sc x && decide (y = ("default" : Str)) && nst ea && nst ed && mE N nm a sc ea && mE N nm d sc ed
      | _, _, _ => false)
    | _ => false
  | .newD _, sc, e => match e with
    | .Dict ks es _ => ks.isEmpty && es.isEmpty
    | _ => false
  | .rapp a x, sc, e => match e with
    | .Call fn es kws cp => (match fn with
      | .Attribute o m ap => (match es with
        | [ex] => kws.isEmpty && (ap.endLine == cp.line) && decide (m = ("append" : Str)) && nameE o && nst ex && mE N nm a sc o && mE N nm x sc ex
        | _ => false)
      | _ => false)
    | _ => false
  | .lrng xs, sc, e => match e with
    | .Call fn es kws _ => (match fn, es with
      | .Name x _, [.Call (.Name y _) es2 kws2 _] => decide (x = ("list" : Str)) && glB sc x && kws.isEmpty && decide (y = ("range" : Str)) && glB sc y && kws2.isEmpty && decide (xs.length = 1 ∨ xs.length = 2) && mEs N nm xs sc es2
      | _, _ => false)
    | _ => false
  | .dget d k o, sc, e => match e with
    | .Call (.Attribute ed m ap) es kws cp => decide (m = ("get" : Str)) && recvB ed && kws.isEmpty && (ap.endLine == cp.line) && mE N nm d sc ed && (match o, es with
      | none, [ek] => nst ek && mE N nm k sc ek
      | some f, [ek, ef] => nst ek && mE N nm k sc ek && nst ef && mE N nm f sc ef
      | _, _ => false)
    | _ => false
  | .dix d k, sc, e => match e with
    | .Subscript ed ek _ => pixD ek && mE N nm d sc ed && mE N nm k sc ek
    | _ => false
  | .din k d ng, sc, e => match e with
    | .Compare ek ops es _ => (match ops, es with
      | [op], [ed] => mCmp (if ng then .notin else .isin) op && !behindInMarks op ed && mE N nm k sc ek && mE N nm d sc ed
      | _, _ => false)
    | _ => false
  | .comp2 elt p k args conds own p2 k2 args2 conds2 own2, sc, e => match c2Of e with
    | some q => c2B N sc p k conds own p2 k2 conds2 own2 q && mEs N nm args sc (itArgs k q.iter) && mEs N nm args2 q.scope (itArgs k2 q.iter2) && mEs N nm conds q.scope q.ifs && mEs N nm conds2 q.scope q.ifs2 && mE N nm elt q.scope q.ee
    | none => false
  | .comp elt p k args conds own, sc, e => match e with
    | .ListComp ee gs scope _ => (match gs with
      | [⟨tg, iter, ifs, 0⟩] => blkC N sc scope (own.map fun i => (N.getD i "", i)) && mP N scope p tg && (ptV p).all (fun i => own.contains i) && own.all (fun i => decide (i < N.length)) &&
          decide (conds.length ≤ 1) && tstBs conds && mEs N nm conds scope ifs && mE N nm elt scope ee &&
          (match k with
            | .seq => (match args with | [a] => mE N nm a sc iter && (match iter with | .Set _ _ _ => false | .SetComp _ _ _ _ => false | .List _ _ => false | .Tuple _ _ _ => false | _ => true) | _ => false)
            | .keys => (match args with
              | [a] => (match a with
                | .var j => mVar N sc j iter
                | _ => false)
              | _ => false)
            | _ => (match iter with
              | .Call fn es kws _ => (match fn with
                | .Name x _ => glB sc x && kws.isEmpty && mEs N nm args sc es && itB k x es.length tg
                | _ => false)
              | _ => false))
      | _ => false)
    | _ => false
def mEs (N : List Str) (nm : Nms) : List Ex → Scope → List Expr → Bool
  | [], _, es => es.isEmpty
  | x :: xs, sc, es => match es with
    | e :: es => nst e && mE N nm x sc e && mEs N nm xs sc es
    | [] => false
end
mutual
/-- n: the error's name -/
def mH (nm : Nms) (sc : Scope) (n : Option Str) : Hx → Expr → Bool
  | .lit d, e => match e with
    | .Constant c _ _ => litB d c
    | _ => false
  | .tup hs, e => match e with
    | .Tuple es _ _ => mHs nm sc n hs es && decide (hs.length ≤ 1000)
    | _ => false
  | .isi c, e => match e with
    | .Call fn es kws _ => (match fn, es with
      | .Name x _, [.Name z _, .Name y _] => decide (x = ("isinstance" : Str)) && glB sc x && decide (n = some z) && visB sc z && decide (nm.excs[c]? = some y) && glB sc y && kws.isEmpty
      | _, _ => false)
    | _ => false
  | .isv, e => match e with
    | .Call fn es kws _ => (match fn, es with
      | .Name x _, [.Name z _, .Name y _] => decide (x = ("isinstance" : Str)) && glB sc x && decide (n = some z) && visB sc z && decide (y = ("ValueError" : Str)) && glB sc y && kws.isEmpty
      | _, _ => false)
    | _ => false
  | .and hs, e => match e with
    | .BoolOp op es _ => (match op with | .And => true | _ => false) && mHs nm sc n hs es
    | _ => false
  | .or hs, e => match e with
    | .BoolOp op es _ => (match op with | .Or => true | _ => false) && mHs nm sc n hs es
    | _ => false
  | .not h, e => match e with
    | .UnaryOp op ea _ => (match op with | .Not => true | _ => false) && mH nm sc n h ea
    | _ => false
def mHs (nm : Nms) (sc : Scope) (n : Option Str) : List Hx → List Expr → Bool
  | [], es => es.isEmpty
  | h :: hs, es => match es with
    | e :: es => nst e && mH nm sc n h e && mHs nm sc n hs es
    | [] => false
end
/-- one class for a clause -/
def mHd1 (N : List Str) (nm : Nms) (sc : Scope) (h : Hd) : List ExceptHandler → Bool
  | .ExceptHandler (some (.Name x _)) o ss _ :: _ => decide (nm.excs[h.c]? = some x) && glB sc x && (match o, h.i with
        | none, none => true
        | some n, some i => decide (N[i]? = some n) && decide (sc.names.lookup n = some .local)
        | _, _ => false) && (match ss with
        | [.Return (some e) _] => mH nm sc o h.b e
        | _ => false)
  | _ => false
/-- two classes for a clause -/
def mHd2 (nm : Nms) (sc : Scope) (h h2 : Hd) : List ExceptHandler → Bool
  | .ExceptHandler (some (.Tuple [.Name x _, .Name x2 _] _ _)) none ss _ :: _ => decide (nm.excs[h.c]? = some x) && glB sc x && decide (nm.excs[h2.c]? = some x2) && glB sc x2 && decide (h.i = none) && decide (h2.i = none) && (match ss with
        | [.Return (some e) _] => mH nm sc none h.b e && mH nm sc none h2.b e
        | _ => false)
  | _ => false
def mHd (N : List Str) (nm : Nms) (sc : Scope) : List Hd → List ExceptHandler → Bool
  | [], l => l.isEmpty
  | [h], l => mHd1 N nm sc h l && l.tail.isEmpty
  | h :: h2 :: hs, l => (mHd1 N nm sc h l && mHd N nm sc (h2 :: hs) l.tail) || (mHd2 nm sc h h2 l && mHd N nm sc hs l.tail)
def mO (N : List Str) (nm : Nms) (x : Ex) (sc : Scope) (o : Option Expr) : Bool :=
  match o with
  | some e => mE N nm x sc e && (match x with | .lit .non => false | _ => true)
  | none => (match x with | .lit .non => true | _ => false)
end VL

/-! V4: expressions are served by the evaluator -/
namespace VL
open PySem PySem.Spec PyProof.Rows L2

/-! ### what a def promises, what stands around it -/
def spF (K : PySem.W.Frag) (cl : Nat → Value) (P : Prog) (n f : Nat) : Sp := fun vs H Q E => ∃ ι F M ds, FSub F H ∧ MemRep K ι F M H ∧ Reps K ι F vs ds ∧
  Res K cl (fun c d _ H' => E c d H') ι F [] H (callN P n f ds M) fun d _ ι' F' H' => ∀ v T, DRep K ι' F' H' d.1 v d.2 T → New ι' F' H H' T → Q v H'
/-- a class's __init__: the new instance holds its fields -/
def spI (K : PySem.W.Frag) (cl : Nat → Value) (P : Prog) (n f : Nat) (C : Addr) : Sp := fun vs H Q E => ∃ p dx H0 vs', vs = .ref p :: vs' ∧ H = upd (upd H0 dx (.own p)) p (.ins C dx []) ∧ H0 p = none ∧ H0 dx = none ∧ dx ≠ p ∧
  ∃ ι F M ds, FSub F H0 ∧ MemRep K ι F M H0 ∧ Reps K ι F vs' ds ∧
    Res K cl (fun c d _ H' => E c d H') ι F [] H0 (callN P n f ds M) fun d _ ι' F' H' => d.1 = .z → Rep K ι' F' (.ref p) d.2 → Q .non H'
structure Fx (P : Prog) (nm : Nms) (cl : Nat → Value) (n : Nat) (prog : Program) (w : World) (K : PySem.W.Frag) (mg : Str → Option Value) (base : Heap) : Prop where
  fns : ∀ (f : Nat) x, nm.fns[f]? = some x → ∃ a fd ps, mg x = some (.ref a) ∧ PySem.W.keepIn K (.ref a) = true ∧ Binds K fd ps [] ∧ FnOk prog w K mg base (L2.CX prog w) (2 * n) a fd ps (spF K cl P n f)
  consts : ∀ (k : Nat) x d, nm.consts[k]? = some x → P.consts[k]? = some d → ∃ u v, mg x = some u ∧ RelV v u ∧ Rep K [] (fun _ => none) v d
  blt : ∀ x ∈ bltNames, mg x = none
  excs : ∀ (k : Nat) x, nm.excs[k]? = some x → ∃ C, cl k = .ref C ∧ mg x = some (.ref C) ∧ PySem.W.keepIn K (.ref C) = true ∧
    PySem.W.excIn K C [.type "ValueError", .type "Exception", .type "BaseException", .type "object"] "ValueError.__new__" = true ∧
    PySem.W.subIn K (.ref C) (.type "BaseException") = some true ∧ PySem.W.typeIn K (.ref C) = some (.type "type")
  subs : ∀ (k c : Nat) b, P.sub k c = some b → ∃ D C, cl k = .ref D ∧ cl c = .ref C ∧ L2.ExcC K D ∧ PySem.W.exmOne K (.ref D) (.ref C) = some b ∧ PySem.W.kitOne K (.ref D) (.ref C) = some b ∧
    PySem.W.kitOne K (.ref D) (.type "ValueError") = some true
  cls : ∀ cd ∈ nm.cls, mg cd.name = some (.ref (He.ga K cd.name)) ∧ Cls K (He.ga K cd.name) ∧ (∀ f ∈ cd.flds, NoAttr K (He.ga K cd.name) f) ∧
    (∀ f, cd.ini = some f → ∃ a fd ps, Mk K (He.ga K cd.name) a ∧ Binds K fd ps [] ∧ FnOk prog w K mg base (L2.CX prog w) (2 * n) a fd ps (spI K cl P n f (He.ga K cd.name))) ∧
    ∀ q ∈ cd.meths, ∃ a fd ps, Meth K (He.ga K cd.name) q.1 a ∧ Binds K fd ps [] ∧ FnOk prog w K mg base (L2.CX prog w) (2 * n) a fd ps (spF K cl P n q.2)
  dcts : ∀ (k : Nat) x, nm.dcts[k]? = some x → ∃ a kvs, P.dcts[k]? = some kvs ∧ mg x = some (.ref a) ∧ ∀ z d, kvs.lookup z = some d → ∃ v, KDct K w a z v ∧ Rep K [] (fun _ => none) v d
structure XW (P : Prog) (nm : Nms) (cl : Nat → Value) (n : Nat) (X : Cx) (sc : Scope) (W : WXX) : Prop where
  tk : Takes X W
  calm : X.calm = true
  nd : X.N.Nodup
  room : Room (2 * n + 1) X.A
  names : ∀ x k, sc.names.lookup x = some k → k ≠ .free → X.env.scope.names.lookup x = some k
  free : ∀ x, sc.names.lookup x = some .free → X.env.scope.names.lookup x = some .cell ∨ X.env.scope.names.lookup x = some .free
  fnc : ∀ x, sc.names.lookup x = some .cell → X.fn x = true
  fx : Fx P nm cl n X.prog X.w X.K X.mg X.base
section
variable {P : Prog} {nm : Nms} {cl : Nat → Value} {n : Nat} {X : Cx} {sc : Scope} {W : WXX}
theorem XW.hu (w : XW P nm cl n X sc W) : X.A.units + 64 < cLine := w.room.units
theorem okN_d {x : Str} (h : okN x = true) : (x == ("__debug__" : Str)) = false ∧ (x == ("__classdict__" : Str)) = false ∧ x ≠ "__name__" := by
  unfold okN at h
  simp only [Bool.and_eq_true, Bool.not_eq_true', decide_eq_false_iff_not] at h
  exact ⟨h.1.1, h.1.2, h.2⟩
theorem XW.gl (w : XW P nm cl n X sc W) {x : Str} (h : glB sc x = true) : Gl X x ∧ okN x = true := by
  unfold glB at h
  simp only [Bool.and_eq_true, decide_eq_true_eq] at h
  exact ⟨w.names x _ h.2 (by decide), h.1⟩
theorem XW.vis (w : XW P nm cl n X sc W) {x : Str} (h : visB sc x = true) : Vis X.env.scope x ∧ okN x = true := by
  unfold visB at h
  simp only [Bool.and_eq_true, Bool.or_eq_true, decide_eq_true_eq] at h
  refine ⟨?_, h.1⟩
  rcases h.2 with (h | h) | h
  · exact .inl (w.names x _ h (by decide))
  · exact .inr (.inl (w.names x _ h (by decide)))
  · rcases w.free x h with z | z
    · exact .inr (.inl z)
    · exact .inr (.inr z)
theorem XW.loc (w : XW P nm cl n X sc W) {x : Str} (h : locB sc x = true) : Loc X.env.scope x ∧ (X.fn x = true ∨ X.env.scope.names.lookup x = some .local) := by
  unfold locB at h
  simp only [Bool.or_eq_true, decide_eq_true_eq] at h
  rcases h with h | h
  · exact ⟨.inl (w.names x _ h (by decide)), .inr (w.names x _ h (by decide))⟩
  · exact ⟨.inr (w.names x _ h (by decide)), .inl (w.fnc x h)⟩
theorem s_of {α : Type} {ι : List Addr} {F : Hp} {σ : L2.St} {H : Hp} {K : PySem.W.Frag} {o : Option α} {M : Mem} {Pd : α → Mem → List Addr → Hp → Hp → Prop} (h : Res K cl W ι F σ H (R.of o M) Pd) (f : FSub F H) (m : MemRep K ι F M H) :
    ∃ d, o = some d ∧ (∀ ι' F' H', Stp ι F H ι' F' H' → FSub F' H' → MemRep K ι' F' M H' → Pd d M ι' F' H') := by
  cases o with
  | none => exact h.elim
  | some d => exact ⟨d, rfl, h⟩
theorem s_toR {e : Expr} {re : Sl → Mem → R D} (h : PE X e (tE X.K cl W re)) : PE X e (tRd X.K cl W re) := PE.weak h fun σ H Q ⟨ι, F, ρ, M, r, z⟩ =>
  ⟨ι, F, ρ, M, r, z.imp fun d M1 ι1 F1 H1 s1 f1 m1 q v hv => q v (.inl hv)⟩
/-- an operation of two -/
theorem s_op {f : D → D → Option D} {a b : Expr} {ra rb : Sl → Mem → R D} {e : Expr}
    (h : ∀ ta tb, PE X a ta → PE X b tb → PE X e (tOp (rOp X.K f) ta tb)) (ha : PE X a (tRd X.K cl W ra)) (hb : PE X b (tRd X.K cl W rb)) :
    PE X e (tE X.K cl W fun ρ M => (ra ρ M).bind fun x M1 => (rb ρ M1).bind fun y M2 => R.of (f x y) M2) := by
  refine PE.weak (h _ _ ha hb) fun σ H Q q => ?_
  obtain ⟨ι, F, ρ, M, r, q⟩ := q
  refine ⟨ι, F, ρ, M, r, q.bind.imp fun x M1 ι1 F1 H1 s1 f1 m1 q1 v hv => ?_⟩
  refine ⟨ι1, F1, ρ, M1, r.step s1 f1 m1, q1.bind.imp fun y M2 ι2 F2 H2 s2 f2 m2 q2 w hw => ?_⟩
  obtain ⟨d, e, q3⟩ := s_of q2 f2 m2
  exact ⟨ι2, F2, M2, x, y, d, f2, m2, s2.repR hv, hw, e, fun F' H' v s f m r => q3 _ _ _ s f m v r⟩
theorem star_ok {e : Expr} {es : List Expr} {env : Env} (h : nst e = true) : starEach (e :: es) env = (false, eval e env) :: starEach es env := by
  cases e <;> first | rfl | cases h
theorem star_any {P : Prog} {nm : Nms} {N : List Str} {sc : Scope} {env : Env} {pos : Pos} : ∀ {xs : List Ex} {es : List Expr}, mEs N nm xs sc es = true → (backTo pos (starEach es env)).any (·.1) = false ∧ (starEach es env).any (·.1) = false
  | [], [], _ => ⟨by rfl, by rfl⟩
  | [], _ :: _, h => by simp [mEs] at h
  | _ :: _, [], h => by simp [mEs] at h
  | x :: xs, e :: es, h => by
    simp only [mEs, Bool.and_eq_true] at h
    have ih := star_any (P := P) (pos := pos) (env := env) h.2
    rw [star_ok h.1.1]
    refine ⟨?_, by simpa using ih.2⟩
    have e1 : (backTo pos ((false, eval e env) :: starEach es env)).any (·.1) = (((false, eval e env) :: starEach es env)).any (·.1) := by
      unfold backTo
      rw [List.any_map]
      rfl
    rw [e1]; simpa using ih.2
theorem s_pa_nil : PA X [] (tA X.K cl W fun ρ M => .ok [] M) := by
  refine PA.weak pa_nil fun σ H Q h => ?_
  obtain ⟨ι, F, ρ, M, r, h⟩ := h
  exact Res.of_ok h r.sub r.mem [] .nil
theorem s_pa_cons {e : Expr} {es : List Expr} {c : Cfg} {re : Sl → Mem → R D} {rs : Sl → Mem → R (List D)} (hn : nst e = true) (he : PE X e (tE X.K cl W re)) (hs : PA X es (tA X.K cl W rs)) :
    PA X (e :: es) (tA X.K cl W fun ρ M => (re ρ M).bind fun d M1 => (rs ρ M1).bind fun ds M2 => .ok (d :: ds) M2) := by
  refine PA.weak (pa_cons he hs (star_ok hn)) fun σ H Q h => ?_
  obtain ⟨ι, F, ρ, M, r, q⟩ := h
  refine ⟨ι, F, ρ, M, r, q.bind.imp fun d M1 ι1 F1 H1 s1 f1 m1 q1 v hv => ?_⟩
  refine ⟨ι1, F1, ρ, M1, r.step s1 f1 m1, q1.bind.imp fun ds M2 ι2 F2 H2 s2 f2 m2 q2 vs hvs => ?_⟩
  exact Res.of_ok q2 f2 m2 (v :: vs) (.cons (s2.rep hv) hvs)
theorem s_par_nil : PA X [] (tAR X.K cl W fun ρ M => .ok [] M) := by
  refine PA.weak pa_nil fun σ H Q h => ?_
  obtain ⟨ι, F, ρ, M, r, h⟩ := h
  exact Res.of_ok h r.sub r.mem [] .nil
theorem s_par_cons {e : Expr} {es : List Expr} {c : Cfg} {re : Sl → Mem → R D} {rs : Sl → Mem → R (List D)} (hn : nst e = true) (he : PE X e (tRd X.K cl W re)) (hs : PA X es (tAR X.K cl W rs)) :
    PA X (e :: es) (tAR X.K cl W fun ρ M => (re ρ M).bind fun d M1 => (rs ρ M1).bind fun ds M2 => .ok (d :: ds) M2) := by
  refine PA.weak (pa_cons he hs (star_ok hn)) fun σ H Q h => ?_
  obtain ⟨ι, F, ρ, M, r, q⟩ := h
  refine ⟨ι, F, ρ, M, r, q.bind.imp fun d M1 ι1 F1 H1 s1 f1 m1 q1 v hv => ?_⟩
  refine ⟨ι1, F1, ρ, M1, r.step s1 f1 m1, q1.bind.imp fun ds M2 ι2 F2 H2 s2 f2 m2 q2 vs hvs => ?_⟩
  exact Res.of_ok q2 f2 m2 (v :: vs) (.cons (s2.repR hv) hvs)
theorem s_lit {d : D} {k : Const} {j pos} {c : Cfg} (h : litB d k = true) : PE X (.Constant k j pos) (tE X.K cl W (evE c (.lit d))) := by
  have fin : ∀ {v : V} {σ : L2.St} {H : Hp} {Q : VK}, (∀ ι F, Rep X.K ι F v d) → tE X.K cl W (evE c (.lit d)) σ H Q → Q v H := fun hv ⟨ι, F, ρ, M, r, q⟩ => by
    simp only [evE] at q
    exact Res.of_ok q r.sub r.mem _ (hv _ _)
  unfold litB at h
  split at h
  · exact PE.weak pe_non fun σ H Q q => fin (fun _ _ => .non) q
  · rename_i a b
    have e : a = b := by simpa using h
    subst e
    exact PE.weak pe_bl fun σ H Q q => fin (fun _ _ => .bl _) q
  · have e := of_decide_eq_true h
    subst e
    exact PE.weak pe_int fun σ H Q q => fin (fun _ _ => .int _) q
  · have e := of_decide_eq_true h
    subst e
    exact PE.weak pe_str fun σ H Q q => fin (fun _ _ => .str _) q
  · cases h
theorem s_var (w : XW P nm cl n X sc W) {i : Nat} {x : Str} {pos : Pos} (h1 : X.N[i]? = some x) (h2 : visB sc x = true) : PE X (.Name x pos) (tVar i) := by
  obtain ⟨v, o⟩ := w.vis h2
  obtain ⟨a, b, _⟩ := okN_d o
  exact pe_var h1 v a b
theorem s_varE {c : Cfg} {i : Nat} {e : Expr} (h : PE X e (tVar i)) : PE X e (tE X.K cl W (evE c (.var i))) := by
  refine PE.weak h fun σ H Q q => ?_
  obtain ⟨ι, F, ρ, M, r, q⟩ := q
  simp only [evE] at q
  split at q
  · rename_i d e
    obtain ⟨v, e1, hr⟩ := r.fz i d e
    exact ⟨v, e1, Res.of_ok q r.sub r.mem v hr⟩
  · exact q.elim
theorem s_glob (w : XW P nm cl n X sc W) {k : Nat} {x : Str} {pos : Pos} (h1 : nm.consts[k]? = some x) (h2 : glB sc x = true) : PE X (.Name x pos) (tE X.K cl W (evE (cfgN P n) (.glob k))) := by
  obtain ⟨g, o⟩ := w.gl h2
  obtain ⟨a, b, _⟩ := okN_d o
  cases e : P.consts[k]? with
  | none =>
    refine ⟨fun pins s σ H Q I q => ?_⟩
    obtain ⟨ι, F, ρ, M, r, q⟩ := q
    simp only [evE, cfgN, e] at q
    exact q.elim
  | some d =>
    obtain ⟨u, v, e1, r1, r2⟩ := w.fx.consts k x d h1 e
    refine PE.weak (pe_glob g e1 r1 a) fun σ H Q q => ?_
    obtain ⟨ι, F, ρ, M, r, q⟩ := q
    simp only [evE, cfgN, e, R.of_some] at q
    exact Res.of_ok q r.sub r.mem v (r2.mono (fun n a h => by simp at h) (fun a u h => by cases h))
theorem small1000' {n : Nat} (h : n ≤ 1000) : n ≤ sizeLine := by rw [sizeLine_eq]; omega
theorem evEs_len {c : Cfg} {ρ : Sl} : ∀ {xs : List Ex} {M M' : Mem} {ds : List D}, evEs c xs ρ M = .ok ds M' → ds.length = xs.length
  | [], M, M', ds, h => by simp only [evEs] at h; cases h; rfl
  | x :: xs, M, M', ds, h => by
    simp only [evEs] at h
    cases e1 : evE c x ρ M with
    | ok d M1 =>
      rw [e1, R.bind_ok] at h
      cases e2 : evEs c xs ρ M1 with
      | ok r M2 => rw [e2, R.bind_ok] at h; cases h; simp [evEs_len e2]
      | ex _ _ => rw [e2] at h; cases h
      | st => rw [e2] at h; cases h
    | ex _ _ => rw [e1] at h; cases h
    | st => rw [e1] at h; cases h
theorem Res.imp' {α : Type} {K : PySem.W.Frag} {ι : List Addr} {F H : Hp} {σ : L2.St} {r : R α} {Pd Pd' : α → Mem → List Addr → Hp → Hp → Prop} (h : Res K cl W ι F σ H r Pd)
    (q : ∀ d M', r = .ok d M' → ∀ ι' F' H', Stp ι F H ι' F' H' → FSub F' H' → MemRep K ι' F' M' H' → Pd d M' ι' F' H' → Pd' d M' ι' F' H') : Res K cl W ι F σ H r Pd' := by
  cases r with
  | ok d M1 => intro ι1 F1 H1 s1 f1 m1; exact q _ _ rfl _ _ _ s1 f1 m1 (h ι1 F1 H1 s1 f1 m1)
  | ex c M1 => exact h
  | st => exact h
theorem s_tup {xs : List Ex} {es : List Expr} {x1 : Nat} {pos : Pos} {c : Cfg} (h : PA X es (tA X.K cl W (evEs c xs))) (hl : xs.length ≤ 1000) : PE X (.Tuple es x1 pos) (tE X.K cl W (evE c (.tup xs))) := by
  refine PE.weak (pe_tup h) fun σ H Q q => ?_
  obtain ⟨ι, F, ρ, M, r, q⟩ := q
  simp only [evE] at q
  refine ⟨ι, F, ρ, M, r, q.bind.imp' fun ds M1 el ι1 F1 H1 s1 f1 m1 q1 vs hvs => ⟨?_, fun p hp => ?_⟩⟩
  · rw [hvs.length, evEs_len el]; exact small1000' hl
  · obtain ⟨s2, f2, m2⟩ := new_ok (o := .tup vs) f1 m1 hp
    exact q1 _ _ _ s2 f2 m2 _ (rep_new_tup f1 hp hvs)
theorem s_lst {xs : List Ex} {es : List Expr} {pos : Pos} {c : Cfg} (h : PA X es (tA X.K cl W (evEs c xs))) (hl : xs.length ≤ 1000) : PE X (.List es pos) (tE X.K cl W (evE c (.lst xs))) := by
  refine PE.weak (pe_lst h) fun σ H Q q => ?_
  obtain ⟨ι, F, ρ, M, r, q⟩ := q
  simp only [evE] at q
  refine ⟨ι, F, ρ, M, r, q.bind.imp' fun ds M1 el ι1 F1 H1 s1 f1 m1 q1 vs hvs => ⟨?_, fun p hp => ?_⟩⟩
  · rw [hvs.length, evEs_len el]; exact small1000' hl
  · obtain ⟨s2, f2, m2⟩ := new_ok (o := .lst vs) f1 m1 hp
    exact q1 _ _ _ s2 f2 m2 _ (rep_new_lst f1 hp hvs)
theorem s_neg {a : Expr} {x : Ex} {pos : Pos} {c : Cfg} (h : PE X a (tE X.K cl W (evE c x))) : PE X (.UnaryOp .USub a pos) (tE X.K cl W (evE c (.neg x))) := by
  refine PE.weak (pe_un un_neg h) fun σ H Q q => ?_
  obtain ⟨ι, F, ρ, M, r, q⟩ := q
  simp only [evE] at q
  refine ⟨ι, F, ρ, M, r, q.bind.imp fun d M1 ι1 F1 H1 s1 f1 m1 q1 v hv => ?_⟩
  split at q1
  · exact ⟨_, hv.getInt, Res.of_ok q1 f1 m1 _ (.int _)⟩
  · exact q1.elim
theorem isN_imp {x : Ex} {c : Cfg} {ng : Bool} {σ : L2.St} {H : Hp} {Q : VK} (z : tE X.K cl W (evE c (.isN x ng)) σ H Q) : (fun σ H Q => tE X.K cl W (evE c x) σ H fun y H1 => Q (.bl (if ng = true then !decide (y = V.non) else decide (y = V.non))) H1 : TE) σ H Q := by
  have nn : ∀ {ι : List Addr} {F : Hp} {v : V} {d : D}, Rep X.K ι F v d → decide (v = .non) = (match d with | .non => true | _ => false) := fun {ι F v d} h => by
    cases h <;> rfl
  obtain ⟨ι, F, ρ, M, r, q⟩ := z
  simp only [evE] at q
  refine ⟨ι, F, ρ, M, r, q.bind.imp fun d M1 ι1 F1 H1 s1 f1 m1 q1 v hv => ?_⟩
  show Q (V.bl (if ng = true then !decide (v = V.non) else decide (v = V.non))) H1
  rw [nn hv]
  have q2 := Res.of_ok q1 f1 m1
  cases ng <;> cases d <;> exact q2 _ (.bl _)
theorem s_isN {a : Expr} {x : Ex} {pos pos' : Pos} {j : Nat} {c : Cfg} {op : CmpOp} {ng : Bool} (ho : isIsNone ng op = true) (h : PE X a (tE X.K cl W (evE c x))) : PE X (.Compare a [op] [.Constant .none j pos'] pos) (tE X.K cl W (evE c (.isN x ng))) := by
  cases op <;> try (cases ho; done)
  · cases ng <;> try (cases ho; done)
    exact PE.weak (pe_cmp (pc_isN h)) fun σ H Q z => isN_imp z
  · cases ng <;> try (cases ho; done)
    exact PE.weak (pe_cmp (pc_notN h)) fun σ H Q z => isN_imp z
theorem s_tisN {a : Expr} {x : Ex} {pos pos' : Pos} {j : Nat} {c : Cfg} {op : CmpOp} {ng : Bool} (ho : isIsNone ng op = true) (h : PE X a (tE X.K cl W (evE c x))) :
    ∃ t, PT X (.Compare a [op] [.Constant .none j pos'] pos) (tTest t) ∧ ∀ σ H Q, tE X.K cl W (evE c (.isN x ng)) σ H Q → t σ H Q := by
  cases op <;> try (cases ho; done)
  · cases ng <;> try (cases ho; done)
    exact ⟨_, pt_cmp (pc_isN h), fun σ H Q z => isN_imp z⟩
  · cases ng <;> try (cases ho; done)
    exact ⟨_, pt_cmp (pc_notN h), fun σ H Q z => isN_imp z⟩
theorem Res.later {α : Type} {K : PySem.W.Frag} {ι ι1 : List Addr} {F H F1 H1 : Hp} {σ : L2.St} {r : R α} {Pd : α → Mem → List Addr → Hp → Hp → Prop} (h : Res K cl W ι F σ H r Pd) (s : Stp ι F H ι1 F1 H1) : Res K cl W ι1 F1 σ H1 r Pd := by
  cases r with
  | ok d M1 => intro ι2 F2 H2 s2 f2 m2; exact h _ _ _ (s.trans s2) f2 m2
  | ex c M1 => intro ι2 F2 H2 s2 f2 m2; exact h _ _ _ (s.trans s2) f2 m2
  | st => exact h
/-- truth -/
theorem tru_of {ι : List Addr} {F H : Hp} {K : PySem.W.Frag} {v : V} {d : D} {b : Bool} (f : FSub F H) (h : RepR K ι F H v d) (e : truth d = some b) : TruV K v H b := by
  cases d with
  | non => rw [h.non]; simp only [truth, Option.some.injEq] at e; exact e.symm
  | bl x => rw [h.bl]; simp only [truth, Option.some.injEq] at e; exact e.symm
  | int x => rw [h.int]; simp only [truth, Option.some.injEq] at e; exact e.symm
  | str x =>
    rw [h.str]
    simp only [truth] at e
    split at e
    · rename_i hl; simp only [Option.some.injEq] at e; exact ⟨hl, e.symm⟩
    · cases e
  | tup ds =>
    simp only [truth, Option.some.injEq] at e
    obtain ⟨p, vs, rfl, a1, _, r1⟩ := h.tup f
    refine .inr (.inl ⟨vs, a1, ?_⟩)
    rw [← e]; cases r1 <;> rfl
  | lst ds =>
    simp only [truth, Option.some.injEq] at e
    obtain ⟨p, vs, rfl, a1, r1⟩ := h.lst f
    refine .inl ⟨vs, a1, ?_⟩
    rw [← e]; cases r1 <;> rfl
  | ktup _ => cases e
  | dic _ => simp [truth] at e
  | ins _ _ => simp [truth] at e
  | ref _ => simp [truth] at e
theorem s_not {a : Expr} {pos : Pos} {ra : Sl → Mem → R D} (h : PE X a (tRd X.K cl W ra)) :
    PE X (.UnaryOp .Not a pos) (tE X.K cl W fun ρ M => (ra ρ M).bind fun x M1 => (R.of (truth x) M1).bind fun b M2 => .ok (.bl (!b)) M2) := by
  refine PE.weak (pe_notT h) fun σ H Q q => ?_
  obtain ⟨ι, F, ρ, M, r, q⟩ := q
  refine ⟨ι, F, ρ, M, r, q.bind.imp fun d M1 ι1 F1 H1 s1 f1 m1 q1 v hv => ?_⟩
  cases e : truth d with
  | none => rw [e] at q1; exact q1.elim
  | some b =>
    rw [e] at q1
    exact ⟨b, tru_of f1 hv e, Res.of_ok q1 f1 m1 _ (.bl _)⟩
theorem s_ite {q a b : Expr} {pos : Pos} {ra rb : Sl → Mem → R D} {rt : Sl → Mem → R Bool} (hq : PT X q (tT X.K cl W rt)) (ha : PE X a (tE X.K cl W ra)) (hb : PE X b (tE X.K cl W rb)) :
    PE X (.IfExp q a b pos) (tE X.K cl W fun ρ M => (rt ρ M).bind fun t M2 => if t = true then ra ρ M2 else rb ρ M2) := by
  refine PE.weak (pe_ifExp hq ha hb) fun σ H Q z => ?_
  obtain ⟨ι, F, ρ, M, r, z⟩ := z
  refine ⟨ι, F, ρ, M, r, z.bind.imp fun t M1 ι1 F1 H1 s1 f1 m1 q1 => ?_⟩
  cases t with
  | true => exact ⟨ι1, F1, ρ, M1, r.step s1 f1 m1, q1⟩
  | false => exact ⟨ι1, F1, ρ, M1, r.step s1 f1 m1, q1⟩
theorem chain_imp {o o2 : COp} {ra rb rd : Sl → Mem → R D} {σ : L2.St} {H : Hp} {Q : VK}
    (z : tE X.K cl W (fun ρ M => (ra ρ M).bind fun x M1 => (rb ρ M1).bind fun y M2 => (R.of (cmpD o x y) M2).bind fun t M3 => match t with
      | .bl true => (rd ρ M3).bind fun z M4 => R.of (cmpD o2 y z) M4
      | .bl false => .ok (.bl false) M3
      | _ => .st) σ H Q) : tChain (rOp X.K (cmpD o)) (rOp X.K (cmpD o2)) (tE X.K cl W ra) (tE X.K cl W rb) (tE X.K cl W rd) σ H Q := by
  obtain ⟨ι, F, ρ, M, r, z⟩ := z
  refine ⟨ι, F, ρ, M, r, z.bind.imp fun x M1 ι1 F1 H1 s1 f1 m1 q1 v hv => ?_⟩
  refine ⟨ι1, F1, ρ, M1, r.step s1 f1 m1, q1.bind.imp fun y M2 ι2 F2 H2 s2 f2 m2 q2 u hu => ?_⟩
  cases e : cmpD o x y with
  | none => rw [e] at q2; exact q2.elim
  | some t =>
    rw [e, R.of_some, R.bind_ok] at q2
    refine ⟨ι2, F2, M2, x, y, t, f2, m2, .inl (s2.rep hv), .inl hu, e, fun F3 H3 k s3 f3 m3 hk => ?_⟩
    split at q2
    · cases hk
      refine ⟨true, rfl, ?_⟩
      rw [if_pos rfl]
      refine ⟨ι2, F3, ρ, M2, ((r.step s1 f1 m1).step s2 f2 m2).step s3 f3 m3, (q2.later s3).bind.imp fun z M4 ι4 F4 H4 s4 f4 m4 q4 u' hu' => ?_⟩
      obtain ⟨d', e', q5⟩ := s_of q4 f4 m4
      exact ⟨ι4, F4, M4, y, z, d', f4, m4, .inl (s4.rep (s3.rep hu)), .inl hu', e', fun F' H' v s f m r => q5 _ _ _ s f m v r⟩
    · cases hk
      exact ⟨false, rfl, q2 _ _ _ s3 f3 m3 _ (.bl _)⟩
    · exact q2.elim
theorem s_chain {o o2 : COp} {a b d : Expr} {pos : Pos} {ra rb rd : Sl → Mem → R D} (w : XW P nm cl n X sc W) (hm : lastMarks [pyCmp o, pyCmp o2] [b, d] = false)
    (ha : PE X a (tE X.K cl W ra)) (hb : PE X b (tE X.K cl W rb)) (hd : PE X d (tE X.K cl W rd)) :
    PE X (.Compare a [pyCmp o, pyCmp o2] [b, d] pos) (tE X.K cl W fun ρ M => (ra ρ M).bind fun x M1 => (rb ρ M1).bind fun y M2 => (R.of (cmpD o x y) M2).bind fun t M3 => match t with
      | .bl true => (rd ρ M3).bind fun z M4 => R.of (cmpD o2 y z) M4
      | .bl false => .ok (.bl false) M3
      | _ => .st) := PE.weak (pe_chain (op_cmp w.hu o) (op_cmp w.hu o2) ha hb hd hm) fun σ H Q z => chain_imp z
/-- and, or: values -/
theorem s_one {op : BoolOp} {a : Expr} {x : Ex} {pos : Pos} {c : Cfg} (h : PE X a (tE X.K cl W (evE c x))) : PE X (.BoolOp op [a] pos) (tE X.K cl W (evE c x)) := pe_one h
theorem s_and {a b : Expr} {rest : List Expr} {pos : Pos} {ra rr : Sl → Mem → R D} (ha : PE X a (tE X.K cl W ra)) (hb : PE X (.BoolOp .And (b :: rest) pos) (tE X.K cl W rr)) :
    PE X (.BoolOp .And (a :: b :: rest) pos) (tE X.K cl W fun ρ M => (ra ρ M).bind fun d M1 => (R.of (truth d) M1).bind fun t M2 => if t = true then rr ρ M2 else .ok d M2) := by
  refine PE.weak (pe_andT ha hb) fun σ H Q z => ?_
  obtain ⟨ι, F, ρ, M, r, z⟩ := z
  refine ⟨ι, F, ρ, M, r, z.bind.imp fun d M1 ι1 F1 H1 s1 f1 m1 q1 v hv => ?_⟩
  cases e : truth d with
  | none => rw [e] at q1; exact q1.elim
  | some b =>
    rw [e, R.of_some, R.bind_ok] at q1
    refine ⟨b, tru_of f1 (.inl hv) e, ?_⟩
    cases b with
    | true => rw [if_pos rfl] at q1 ⊢; exact ⟨ι1, F1, ρ, M1, r.step s1 f1 m1, q1⟩
    | false => rw [if_neg (by decide)] at q1 ⊢; exact Res.of_ok q1 f1 m1 v hv
theorem s_or {a b : Expr} {rest : List Expr} {pos : Pos} {ra rr : Sl → Mem → R D} (ha : PE X a (tE X.K cl W ra)) (hb : PE X (.BoolOp .Or (b :: rest) pos) (tE X.K cl W rr)) :
    PE X (.BoolOp .Or (a :: b :: rest) pos) (tE X.K cl W fun ρ M => (ra ρ M).bind fun d M1 => (R.of (truth d) M1).bind fun t M2 => if t = true then .ok d M2 else rr ρ M2) := by
  refine PE.weak (pe_orT ha hb) fun σ H Q z => ?_
  obtain ⟨ι, F, ρ, M, r, z⟩ := z
  refine ⟨ι, F, ρ, M, r, z.bind.imp fun d M1 ι1 F1 H1 s1 f1 m1 q1 v hv => ?_⟩
  cases e : truth d with
  | none => rw [e] at q1; exact q1.elim
  | some b =>
    rw [e, R.of_some, R.bind_ok] at q1
    refine ⟨b, tru_of f1 (.inl hv) e, ?_⟩
    cases b with
    | true => rw [if_pos rfl] at q1 ⊢; exact Res.of_ok q1 f1 m1 v hv
    | false => rw [if_neg (by decide)] at q1 ⊢; exact ⟨ι1, F1, ρ, M1, r.step s1 f1 m1, q1⟩
/-- subscripts -/
theorem pix_ok {b : Expr} (h : pixB b = true) : PlainIx b := by
  cases b <;> first | (intro _ _; rfl) | cases h
theorem s_ix {a b : Expr} {pos : Pos} {ra rb : Sl → Mem → R D} (hp : pixB b = true) (ha : PE X a (tRd X.K cl W ra)) (hb : PE X b (tE X.K cl W rb)) :
    PE X (.Subscript a b pos) (tE X.K cl W fun ρ M => (ra ρ M).bind fun x M1 => (rb ρ M1).bind fun y M2 => R.of (ixD x y) M2) := by
  exact s_op (fun ta tb h1 h2 => pe_ix ix_V h1 h2 (pix_ok hp)) ha (s_toR hb)
/-- a slice -/
def tPt (K : PySem.W.Frag) (cl : Nat → Value) (W : WXX) (x : Ex) (re : Sl → Mem → R D) : TO := fun σ H Q => ∃ ι F ρ M, SR K ι F ρ M σ H ∧ Res K cl W ι F σ H (re ρ M) fun d _ ι' F' H' => ∃ o, partX x d = some o ∧ Q o H'
theorem s_po_none {c : Cfg} : PO X none (tPt X.K cl W (.lit .non) (evE c (.lit .non))) := by
  refine ⟨fun pins s σ H Q I z => po_none.run pins s σ H Q I ?_⟩
  obtain ⟨ι, F, ρ, M, r, z⟩ := z
  simp only [evE] at z
  obtain ⟨o, e, q⟩ := Res.of_ok z r.sub r.mem
  cases e
  exact q
theorem s_po_some {e : Expr} {x : Ex} {re : Sl → Mem → R D} (hx : ∀ d, partX x d = (partD d).map some) (h : PE X e (tE X.K cl W re)) : PO X (some e) (tPt X.K cl W x re) := by
  refine ⟨fun pins s σ H Q I z => (po_some h).run pins s σ H Q I ?_⟩
  obtain ⟨ι, F, ρ, M, r, z⟩ := z
  refine ⟨ι, F, ρ, M, r, z.imp fun d M1 ι1 F1 H1 s1 f1 m1 q v hv => ?_⟩
  obtain ⟨o, e, q⟩ := q
  rw [hx] at e
  unfold partD at e
  split at e
  · cases e
    exact ⟨_, hv.getInt, q⟩
  · cases e
theorem s_sl {e : Expr} {lo hi : Option Expr} {p2 pos : Pos} {xl xh : Ex} {ra rl rh : Sl → Mem → R D} (he : PE X e (tRd X.K cl W ra)) (hl : PO X lo (tPt X.K cl W xl rl)) (hh : PO X hi (tPt X.K cl W xh rh)) :
    PE X (.Subscript e (.Slice lo hi none p2) pos) (tE X.K cl W fun ρ M => (ra ρ M).bind fun x M1 => (rl ρ M1).bind fun y M2 => (R.of (partX xl y) M2).bind fun l M3 => (rh ρ M3).bind fun z M4 => (R.of (partX xh z) M4).bind fun u M5 => R.of (slD x l u) M5) := by
  refine PE.weak (pe_slice sl_V he hl hh) fun σ H Q z => ?_
  obtain ⟨ι, F, ρ, M, r, z⟩ := z
  refine ⟨ι, F, ρ, M, r, z.bind.imp fun x M1 ι1 F1 H1 s1 f1 m1 q1 v hv => ?_⟩
  have r1 := r.step s1 f1 m1
  refine ⟨ι1, F1, ρ, M1, r1, q1.bind.imp fun y M2 ι2 F2 H2 s2 f2 m2 q2 => ?_⟩
  have r2 := r1.step s2 f2 m2
  cases ey : partX xl y with
  | none => rw [ey] at q2; exact q2.elim
  | some l =>
    rw [ey, R.of_some, R.bind_ok] at q2
    refine ⟨l, rfl, ι2, F2, ρ, M2, r2, q2.bind.imp fun z M3 ι3 F3 H3 s3 f3 m3 q3 => ?_⟩
    cases ez : partX xh z with
    | none => rw [ez] at q3; exact q3.elim
    | some u =>
      rw [ez, R.of_some, R.bind_ok] at q3
      obtain ⟨d, e, q4⟩ := s_of q3 f3 m3
      exact ⟨u, rfl, ι3, F3, M3, x, d, f3, m3, s3.repR (s2.repR hv), e, fun F' H' v s f m r => q4 _ _ _ s f m v r⟩
/-! ### calls -/
def tNilE : TE := fun _ _ _ => False
theorem callN_len {f : Nat} {ds : List D} {M : Mem} (h : callN P n f ds M ≠ .st) : ∃ Fd, P.fns[f]? = some Fd ∧ ds.length = Fd.np := by
  cases n with
  | zero => exact absurd rfl h
  | succ n =>
    unfold callN at h
    split at h
    · rename_i Fd e
      split at h
      · rename_i hl; exact ⟨Fd, e, hl⟩
      · exact absurd rfl h
    · exact absurd rfl h
theorem New.early {ι ι1 : List Addr} {F F1 F2 H H1 H2 : Hp} {ι2 : List Addr} {T : Addr → Prop} (s : Stp ι F H ι1 F1 H1) (h : New ι2 F2 H1 H2 T) : New ι2 F2 H H2 T :=
  ⟨fun a ha => let ⟨h1, h2, h3, h4⟩ := h.at_ a ha; ⟨h1, h2, by
    by_cases hh : H a = none
    · exact hh
    · exact absurd h3 (s.live a hh), h4⟩⟩
/-- what is one's own is settled -/
theorem tO_E {K : PySem.W.Frag} {re : Sl → Mem → R (Md × D)} {σ : L2.St} {H : Hp} {Q : VK} (z : tE K cl W (fun ρ M => (re ρ M).bind fun x M1 => .ok x.2 M1) σ H Q) : tO K cl W re σ H Q := by
  obtain ⟨ι, F, ρ, M, r, z⟩ := z
  refine ⟨ι, F, ρ, M, r, ?_⟩
  cases e : re ρ M with
  | st => dsimp only at z; rw [e] at z; exact z
  | ex c M1 => dsimp only at z; rw [e] at z; exact z
  | ok d M1 =>
    dsimp only at z
    rw [e, R.bind_ok] at z
    intro ι1 F1 H1 s1 f1 m1 v T hv hn
    obtain ⟨F2, s2, f2, m2, g1, g2⟩ := s1.settle f1 m1 hn
    exact z ι1 F2 H1 s2 f2 m2 v (hv.settle g1 fun a u h e _ => g2 a u h e)
theorem s_callO (w : XW P nm cl n X sc W) {f : Nat} {x : Str} {p pos : Pos} {es : List Expr} {xs : List Ex} (h1 : nm.fns[f]? = some x) (h2 : glB sc x = true) (hm : mEs X.N nm xs sc es = true)
    (ha : PA X es (tA X.K cl W (evEs (cfgN P n) xs))) : PE X (.Call (.Name x p) es [] pos) (tO X.K cl W fun ρ M => (evEs (cfgN P n) xs ρ M).bind fun ds M1 => callN P n f ds M1) := by
  obtain ⟨g, o⟩ := w.gl h2
  obtain ⟨a1, b1, _⟩ := okN_d o
  obtain ⟨a, fd, ps, e1, hk, hb, F⟩ := w.fx.fns f x h1
  have key : ∀ {ι : List Addr} {F : Hp} {ρ : Sl} {M1 : Mem} {ds : List D} {σ : L2.St} {H : Hp} {Q : VK} {vs : List V}, SR X.K ι F ρ M1 σ H → Reps X.K ι F vs ds →
      Res X.K cl W ι F σ H (callN P n f ds M1) (fun d _ ι' F' H' => ∀ v T, DRep X.K ι' F' H' d.1 v d.2 T → New ι' F' H H' T → Q v H') → spF X.K cl P n f vs H Q (WE W σ) := fun {ι F ρ M1 ds σ H Q vs} r hv q => by
    refine ⟨ι, F, M1, ds, r.sub, r.mem, hv, ?_⟩
    cases e : callN P n f ds M1 with
    | ok d M2 => rw [e] at q; exact q
    | ex c M2 => rw [e] at q; exact q
    | st => rw [e] at q; exact q
  cases es with
  | nil =>
    cases xs with
    | cons _ _ => simp [mEs] at hm
    | nil =>
      refine ⟨fun pins s σ H Q I z => ?_⟩
      obtain ⟨ι, F', ρ, M, r, z⟩ := z
      simp only [evEs, R.bind_ok] at z
      refine wpAny_Call_Name_kw (ld_glob I g e1 ?_ a1)
      exact PySem.W.callWith_K0 I.kIn hk (run_fnS (us := []) F (w.room.mono (by omega)) hb (passAt w.tk σ) I .nil (key r .nil z))
  | cons e es =>
    have hn : nst e = true := by
      cases xs with
      | nil => simp [mEs] at hm
      | cons x xs => simp only [mEs, Bool.and_eq_true] at hm; exact hm.1.1
    have hs : (backTo pos (starEach es X.env)).any (·.1) = false := by
      cases xs with
      | nil => simp [mEs] at hm
      | cons x xs => simp only [mEs, Bool.and_eq_true] at hm; exact (star_any (P := P) hm.2).1
    refine PE.weak (pe_callS (E := WE W) F (w.room.mono (by omega)) g e1 hk hb (fun σ => passAt w.tk σ) ha a1 (star_ok hn) hs) fun σ H Q z => ?_
    obtain ⟨ι, F', ρ, M, r, z⟩ := z
    refine ⟨ι, F', ρ, M, r, z.bind.imp fun ds M1 ι1 F1 H1 s1 f1 m1 q1 vs hv => ?_⟩
    exact key (r.step s1 f1 m1) hv (q1.imp fun d M2 ι2 F2 H2 s2 f2 m2 q2 v T hd hn => q2 v T hd (hn.early s1))
theorem s_call (w : XW P nm cl n X sc W) {f : Nat} {x : Str} {p pos : Pos} {es : List Expr} {xs : List Ex} (h1 : nm.fns[f]? = some x) (h2 : glB sc x = true) (hm : mEs X.N nm xs sc es = true)
    (ha : PA X es (tA X.K cl W (evEs (cfgN P n) xs))) : PE X (.Call (.Name x p) es [] pos) (tE X.K cl W (evE (cfgN P n) (.call f xs))) :=
  PE.weak (s_callO w h1 h2 hm ha) fun σ H Q z => tO_E (by
    obtain ⟨ι, F, ρ, M, r, z⟩ := z
    refine ⟨ι, F, ρ, M, r, ?_⟩
    simp only [evE] at z
    have e : ∀ (A : VL.R (List D)) (g : List D → Mem → VL.R (Md × D)), ((A.bind g).bind fun x M1 => (VL.R.ok x.2 M1 : VL.R D)) = A.bind fun ds M1 => (g ds M1).bind fun x M1 => .ok x.2 M1 := fun A g => by cases A <;> rfl
    dsimp only
    rw [e]
    exact z)
theorem boot_blt (b : Blt) : bootBuiltins (bltName b) = some (pyBlt b) := by
  cases b <;> decide +kernel
theorem blt_mem (b : Blt) : bltName b ∈ bltNames := by
  cases b <;> decide +kernel
theorem s_blt (w : XW P nm cl n X sc W) {b : Blt} {x : Str} {p pos : Pos} {es : List Expr} {c : Cfg} {xs : List Ex} (h1 : x = bltName b) (h2 : glB sc x = true) (hm : mEs X.N nm xs sc es = true) (hne : es.isEmpty = false)
    (ha : PA X es (tAR X.K cl W (evRs c xs))) : PE X (.Call (.Name x p) es [] pos) (tE X.K cl W (evE c (.blt b xs))) := by
  obtain ⟨g, o⟩ := w.gl h2
  obtain ⟨a1, b1, c1⟩ := okN_d o
  have hmg : X.mg x = none := w.fx.blt x (by rw [h1]; exact blt_mem b)
  have hv : bootBuiltins x = some (pyBlt b) := by rw [h1]; exact boot_blt b
  cases es with
  | nil => cases hne
  | cons e es =>
    have hn : nst e = true := by
      cases xs with
      | nil => simp [mEs] at hm
      | cons x xs => simp only [mEs, Bool.and_eq_true] at hm; exact hm.1.1
    have hs : (backTo pos (starEach es X.env)).any (·.1) = false := by
      cases xs with
      | nil => simp [mEs] at hm
      | cons x xs => simp only [mEs, Bool.and_eq_true] at hm; exact (star_any (P := P) hm.2).1
    have main : ∀ {t : TE}, PE X (.Call (.Name x p) (e :: es) [] pos) (tCB (rCl X.K (bltD b)) (tAR X.K cl W (evRs c xs))) → PE X (.Call (.Name x p) (e :: es) [] pos) (tE X.K cl W (evE c (.blt b xs))) := fun {t} h => by
      refine PE.weak h fun σ H Q z => ?_
      obtain ⟨ι, F', ρ, M, r, z⟩ := z
      simp only [evE] at z
      refine ⟨ι, F', ρ, M, r, z.bind.imp fun ds M1 ι1 F1 H1 s1 f1 m1 q1 vs hv => ?_⟩
      obtain ⟨d, e, q2⟩ := s_of q1 f1 m1
      exact ⟨ι1, F1, M1, ds, d, f1, m1, hv, e, fun F' H' v s f m r => q2 _ _ _ s f m v r⟩
    have hc := cl_blt (X := X) w.calm b
    cases b <;> first
      | exact main (t := tNilE) (pe_callB hc g hmg hv ha c1 a1 (star_ok hn) hs)
      | exact main (t := tNilE) (pe_callTy hc g hmg hv ha c1 a1 (star_ok hn) hs)
/-! ### isinstance -/
theorem boot_ty (t : Ty) : bootBuiltins (tyStr t) = some (.type (tyName t)) := by cases t <;> decide +kernel
theorem boot_isi : bootBuiltins "isinstance" = some (.builtin "isinstance") := by decide +kernel
theorem ty_mem (t : Ty) : tyStr t ∈ bltNames := by cases t <;> decide +kernel
theorem isi_kit {t : Ty} {d : D} {b : Bool} (h : isiD t d = some b) : kitB (tyD d) (tyName t) = some b := by
  cases t <;> cases d <;> simp only [isiD, Option.some.injEq, reduceCtorEq] at h <;> (subst h; simp only [tyD, tyName]; decide +kernel)
theorem s_isi (w : XW P nm cl n X sc W) {t : Ty} {x y : Str} {p p' pos : Pos} {ea : Expr} {ra : Sl → Mem → R D} (h1 : x = "isinstance") (h2 : glB sc x = true) (h3 : y = tyStr t) (h4 : glB sc y = true) (hn : nst ea = true)
    (ha : PE X ea (tRd X.K cl W ra)) : PE X (.Call (.Name x p) [ea, .Name y p'] [] pos) (tE X.K cl W fun ρ M => (ra ρ M).bind fun x M1 => (R.of (isiD t x) M1).bind fun b M2 => .ok (.bl b) M2) := by
  obtain ⟨g, o⟩ := w.gl h2
  obtain ⟨a1, b1, c1⟩ := okN_d o
  obtain ⟨g', o'⟩ := w.gl h4
  obtain ⟨a2, b2, c2⟩ := okN_d o'
  have hy : PE X (.Name y p') (tC (.ty (tyName t))) := pe_bltn g' (w.fx.blt y (by rw [h3]; exact ty_mem t)) (by rw [h3]; exact boot_ty t) rfl c2 a2
  have hst : starEach [Expr.Name y p'] X.env = (false, eval (.Name y p') X.env) :: starEach [] X.env := rfl
  refine PE.weak (pe_callB call_isi g (w.fx.blt x (by rw [h1]; decide +kernel)) (by rw [h1]; exact boot_isi) (pa_cons ha (pa_cons hy pa_nil hst) (star_ok hn)) c1 a1 (star_ok hn) (by rw [hst]; rfl)) fun σ H Q z => ?_
  obtain ⟨ι, F', ρ, M, r, z⟩ := z
  refine ⟨ι, F', ρ, M, r, z.bind.imp fun d M1 ι1 F1 H1 s1 f1 m1 q1 v hv => ?_⟩
  cases e : isiD t d with
  | none => rw [e] at q1; exact q1.elim
  | some b =>
    rw [e, R.of_some, R.bind_ok] at q1
    have q2 := Res.of_ok q1 f1 m1
    refine ⟨v, .ty (tyName t), .type (tyD d), .type (tyName t), b, rfl, .ty _, hv.ty f1 (fun c fs z => by rw [z] at e; cases t <;> cases e) (fun n z => by rw [z] at e; cases t <;> cases e) (fun k n z => by rw [z] at e; cases t <;> cases e) (fun n z => by rw [z] at e; cases t <;> cases e), kit_ty (isi_kit e), q2 _ (.bl b)⟩

/-! ### tests -/
theorem R.bind_assoc {α β γ : Type} (r : R α) (f : α → Mem → R β) (g : β → Mem → R γ) : (r.bind f).bind g = r.bind fun a M => (f a M).bind g := by cases r <;> rfl
theorem s_tplain {e : Expr} {ra : Sl → Mem → R D} (he : PE X e (tRd X.K cl W ra)) (hp : ∀ whole, isTrue e X.env whole = (do let v ← whole; standAt e.pos; holding [v] (truthy v))) :
    PT X e (tT X.K cl W fun ρ M => (ra ρ M).bind fun d M1 => R.of (truth d) M1) := by
  refine PT.weak (pt_truth he hp) fun σ H Q z => ?_
  obtain ⟨ι, F, ρ, M, r, z⟩ := z
  refine ⟨ι, F, ρ, M, r, z.bind.imp fun d M1 ι1 F1 H1 s1 f1 m1 q1 v hv => ?_⟩
  obtain ⟨b, e, q2⟩ := s_of q1 f1 m1
  exact ⟨b, tru_of f1 hv e, q2 _ _ _ Stp.refl f1 m1⟩
theorem cmpD_bl {o : COp} {a b d : D} (h : cmpD o a b = some d) : ∃ t, d = .bl t := by
  cases o <;> simp only [cmpD] at h
  · simp only [Option.map_eq_some_iff] at h; obtain ⟨t, _, rfl⟩ := h; exact ⟨_, rfl⟩
  · simp only [Option.map_eq_some_iff] at h; obtain ⟨t, _, rfl⟩ := h; exact ⟨_, rfl⟩
  · split at h
    · cases h; exact ⟨_, rfl⟩
    · cases h
  · split at h
    · cases h; exact ⟨_, rfl⟩
    · cases h
  · split at h
    · cases h; exact ⟨_, rfl⟩
    · cases h
  · split at h
    · cases h; exact ⟨_, rfl⟩
    · cases h
  · split at h
    · simp only [Option.map_eq_some_iff] at h; obtain ⟨t, _, rfl⟩ := h; exact ⟨_, rfl⟩
    · simp only [Option.map_eq_some_iff] at h; obtain ⟨t, _, rfl⟩ := h; exact ⟨_, rfl⟩
    · simp only [Option.map_eq_some_iff] at h; obtain ⟨t, _, rfl⟩ := h; exact ⟨_, rfl⟩
    · cases h
  · split at h
    · simp only [Option.map_eq_some_iff] at h; obtain ⟨t, _, rfl⟩ := h; exact ⟨_, rfl⟩
    · simp only [Option.map_eq_some_iff] at h; obtain ⟨t, _, rfl⟩ := h; exact ⟨_, rfl⟩
    · simp only [Option.map_eq_some_iff] at h; obtain ⟨t, _, rfl⟩ := h; exact ⟨_, rfl⟩
    · cases h
  · split at h
    · cases h; exact ⟨_, rfl⟩
    · cases h
  · split at h
    · cases h; exact ⟨_, rfl⟩
    · cases h
theorem s_tcmp (w : XW P nm cl n X sc W) {o : COp} {a b : Expr} {pos : Pos} {ra rb : Sl → Mem → R D} (hm : behindInMarks (pyCmp o) b = false) (ha : PE X a (tRd X.K cl W ra)) (hb : PE X b (tRd X.K cl W rb)) :
    PT X (.Compare a [pyCmp o] [b] pos) (tT X.K cl W fun ρ M => ((ra ρ M).bind fun x M1 => (rb ρ M1).bind fun y M2 => R.of (cmpD o x y) M2).bind fun d M3 => R.of (truth d) M3) := by
  refine PT.weak (pt_cmpR (op_cmp w.hu o) ha hb hm) fun σ H Q z => ?_
  obtain ⟨ι, F, ρ, M, r, z⟩ := z
  simp only [R.bind_assoc] at z
  refine ⟨ι, F, ρ, M, r, z.bind.imp fun x M1 ι1 F1 H1 s1 f1 m1 q1 v hv => ?_⟩
  refine ⟨ι1, F1, ρ, M1, r.step s1 f1 m1, q1.bind.imp fun y M2 ι2 F2 H2 s2 f2 m2 q2 u hu => ?_⟩
  cases e : cmpD o x y with
  | none => rw [e] at q2; exact q2.elim
  | some d =>
    rw [e, R.of_some, R.bind_ok] at q2
    obtain ⟨t, rfl⟩ := cmpD_bl e
    refine ⟨ι2, F2, M2, x, y, _, f2, m2, s2.repR hv, hu, e, fun F' H' v s f m hr => ?_⟩
    cases hr
    exact ⟨t, rfl, q2 _ _ _ s f m⟩
theorem s_tval {e : Expr} {ra : Sl → Mem → R D} {t : TE} (h : PT X e (tTest t)) (hq : ∀ σ H Q, tE X.K cl W ra σ H Q → t σ H Q) (hb : ∀ ρ M d M', ra ρ M = .ok d M' → ∃ b, d = .bl b) :
    PT X e (tT X.K cl W fun ρ M => (ra ρ M).bind fun d M1 => R.of (truth d) M1) := by
  refine PT.weak h fun σ H Q z => hq σ H _ ?_
  obtain ⟨ι, F, ρ, M, r, z⟩ := z
  refine ⟨ι, F, ρ, M, r, z.bind.imp' fun d M1 el ι1 F1 H1 s1 f1 m1 q1 v hv => ?_⟩
  obtain ⟨b, rfl⟩ := hb _ _ _ _ el
  cases hv
  exact ⟨b, rfl, Res.of_ok q1 f1 m1⟩
theorem s_tnot {a : Expr} {pos : Pos} {rt : Sl → Mem → R Bool} (h : PT X a (tT X.K cl W rt)) : PT X (.UnaryOp .Not a pos) (tT X.K cl W fun ρ M => (rt ρ M).bind fun b M1 => .ok (!b) M1) := by
  refine PT.weak (pt_not h) fun σ H Q z => ?_
  obtain ⟨ι, F, ρ, M, r, z⟩ := z
  exact ⟨ι, F, ρ, M, r, z.bind.imp fun b M1 ι1 F1 H1 s1 f1 m1 q1 => Res.of_ok q1 f1 m1⟩
theorem PW.weak {X : Cx} {e : Expr} {t t' : TT} (h : PW X e t) (q : ∀ σ H Q, t' σ H Q → t σ H Q) : PW X e t' := ⟨fun wh pins s σ H Q I z => h.run wh pins s σ H Q I (q σ H Q z)⟩
theorem s_wand {a b : Expr} {rest : List Expr} {pos : Pos} {ra rr : Sl → Mem → R Bool} (ha : PT X a (tT X.K cl W ra)) (hb : PW X (.BoolOp .And (b :: rest) pos) (tT X.K cl W rr)) :
    PW X (.BoolOp .And (a :: b :: rest) pos) (tT X.K cl W fun ρ M => (ra ρ M).bind fun t M1 => if t = true then rr ρ M1 else .ok false M1) := by
  refine PW.weak (pw_and ha hb) fun σ H Q z => ?_
  obtain ⟨ι, F, ρ, M, r, z⟩ := z
  refine ⟨ι, F, ρ, M, r, z.bind.imp fun t M1 ι1 F1 H1 s1 f1 m1 q1 => ?_⟩
  cases t with
  | true => exact ⟨ι1, F1, ρ, M1, r.step s1 f1 m1, q1⟩
  | false => exact Res.of_ok q1 f1 m1
theorem s_wor {a b : Expr} {rest : List Expr} {pos : Pos} {ra rr : Sl → Mem → R Bool} (ha : PT X a (tT X.K cl W ra)) (hb : PW X (.BoolOp .Or (b :: rest) pos) (tT X.K cl W rr)) :
    PW X (.BoolOp .Or (a :: b :: rest) pos) (tT X.K cl W fun ρ M => (ra ρ M).bind fun t M1 => if t = true then .ok true M1 else rr ρ M1) := by
  refine PW.weak (pw_or ha hb) fun σ H Q z => ?_
  obtain ⟨ι, F, ρ, M, r, z⟩ := z
  refine ⟨ι, F, ρ, M, r, z.bind.imp fun t M1 ι1 F1 H1 s1 f1 m1 q1 => ?_⟩
  cases t with
  | false => exact ⟨ι1, F1, ρ, M1, r.step s1 f1 m1, q1⟩
  | true => exact Res.of_ok q1 f1 m1
end
end VL

/-! V5: targets, walks, comprehensions; all expressions -/
namespace VL
open PySem PySem.Spec PyProof.Rows L2
section
variable {K : PySem.W.Frag} {ι ι' : List Addr} {F F' H H' : Hp} {ρ ρ' : Sl} {M M' : Mem} {σ σ' : L2.St} {cl : Nat → Value} {W : WXX}
/-- a slot is set -/
theorem SRO.set_ {O : Addr → Prop} {i : Nat} {x : SV} {o : Option V} (r : SRO K ι F O ρ M σ H) (hx : ∀ m d, x ≠ .ow m d) (h : ∀ d, x = .fz d → ∃ v, o = some v ∧ Rep K ι F v d) : SRO K ι F O (ρ.set i x) M (σ.set i o) H := by
  refine ⟨r.sub, r.mem, by simp [r.len], fun j d' hj => ?_, r.own, ?_⟩
  · rw [List.getElem?_set] at hj ⊢
    by_cases e : i = j
    · subst e
      rw [if_pos rfl] at hj ⊢
      rw [← r.len]
      split at hj
      · rename_i hl
        rw [if_pos hl]
        cases hj
        obtain ⟨v, e1, q⟩ := h _ rfl
        exact ⟨v, by rw [e1], q⟩
      · cases hj
    · rw [if_neg e] at hj ⊢; exact r.fz j d' hj
  · obtain ⟨S, h1, h2, h3⟩ := r.ow
    refine ⟨S, fun j m d hj => ?_, h2, h3⟩
    have ne : i ≠ j := fun e => by
      subst e; rw [List.getElem?_set, if_pos rfl] at hj
      split at hj
      · cases hj; exact hx _ _ rfl
      · cases hj
    rw [List.getElem?_set_ne ne] at hj ⊢
    exact h1 j m d hj
theorem SRO.setFz {O : Addr → Prop} {i : Nat} {d : D} {v : V} (r : SRO K ι F O ρ M σ H) (hv : Rep K ι F v d) : SRO K ι F O (ρ.set i (.fz d)) M (σ.set i (some v)) H :=
  r.set_ (fun _ _ e => by cases e) fun d' e => by cases e; exact ⟨v, rfl, hv⟩
theorem SRO.setUn {O : Addr → Prop} {i : Nat} {o : Option V} (r : SRO K ι F O ρ M σ H) : SRO K ι F O (ρ.set i .un) M (σ.set i o) H := r.set_ (fun _ _ e => by cases e) fun d' e => by cases e
theorem SRO.wipe {O : Addr → Prop} (r : SRO K ι F O ρ M σ H) : ∀ vs : List Nat, SRO K ι F O (killS ρ vs) M (L2.wipe σ vs) H
  | [] => r
  | v :: vs => by
    show SRO K ι F O ((killS ρ vs).set v .un) M ((L2.wipe σ vs).set v none) H
    exact (r.wipe vs).setUn
theorem SRO.killed {O : Addr → Prop} (r : SRO K ι F O ρ M σ H) : ∀ vs : List Nat, SRO K ι F O (killS ρ vs) M σ H
  | [] => r
  | v :: vs => by
    have h := (r.killed vs).setUn (i := v) (o := (σ[v]?).getD none)
    show SRO K ι F O ((killS ρ vs).set v .un) M σ H
    have e : σ.set v ((σ[v]?).getD none) = σ := by
      apply List.ext_getElem?
      intro j
      rw [List.getElem?_set]
      split
      · rename_i e; subst e
        split
        · rename_i hl; rw [List.getElem?_eq_getElem hl]; rfl
        · rename_i hl; rw [List.getElem?_eq_none (Nat.le_of_not_lt hl)]
      · rfl
    rw [e] at h
    exact h
theorem SR.wipe (r : SR K ι F ρ M σ H) (vs : List Nat) : SR K ι F (killS ρ vs) M (L2.wipe σ vs) H := let ⟨O, r⟩ := r; ⟨O, r.wipe vs⟩
/-- slots that a pattern leaves -/
def Out (p : List Nat) (σ σ' : L2.St) : Prop := σ'.length = σ.length ∧ ∀ i, i ∉ p → σ'[i]? = σ[i]?
theorem Out.refl {p : List Nat} : Out p σ σ := ⟨rfl, fun _ _ => rfl⟩
theorem Out.trans {p q : List Nat} {σ1 : L2.St} (a : Out p σ σ1) (b : Out q σ1 σ') : Out (p ++ q) σ σ' :=
  ⟨b.1.trans a.1, fun i h => by rw [List.mem_append, not_or] at h; exact (b.2 i h.2).trans (a.2 i h.1)⟩
theorem wipe_get (vs : List Nat) (σ : L2.St) (i : Nat) : (L2.wipe σ vs)[i]? = if i ∈ vs then (if i < σ.length then some none else none) else σ[i]? := by
  induction vs with
  | nil => simp [L2.wipe]
  | cons v vs ih =>
    show ((L2.wipe σ vs).set v none)[i]? = _
    rw [List.getElem?_set, L2.wipe_length, ih]
    by_cases e : v = i
    · subst e; simp
    · rw [if_neg e]
      have : (i ∈ v :: vs) ↔ i ∈ vs := by simp [Ne.symm e]
      simp only [this]
theorem Out.wipe {p vs : List Nat} (h : Out p (L2.wipe σ vs) σ') (hs : ∀ i ∈ p, i ∈ vs) : L2.wipe σ' vs = L2.wipe σ vs := by
  apply List.ext_getElem?
  intro i
  have hl : σ'.length = σ.length := h.1.trans (L2.wipe_length σ vs)
  rw [wipe_get, wipe_get, hl]
  by_cases e : i ∈ vs
  · rw [if_pos e, if_pos e]
  · rw [if_neg e, if_neg e, h.2 i (fun z => e (hs i z)), wipe_get, if_neg e]
/-- a target's reading -/
def tG (K : PySem.W.Frag) (p : Pt) : TG := fun v σ H Q => ∃ ι F O ρ M d ρ', SRO K ι F O ρ M σ H ∧ Rep K ι F v d ∧ bindP p d ρ = some ρ' ∧ ∀ σ', SRO K ι F O ρ' M σ' H → Out (ptV p) σ σ' → Q σ' H
def tGs (K : PySem.W.Frag) (ps : List Pt) : TGs := fun vs σ H Q => ∃ ι F O ρ M ds ρ', SRO K ι F O ρ M σ H ∧ Reps K ι F vs ds ∧ ds.length = ps.length ∧ bindPs ps ds ρ = some ρ' ∧ ∀ σ', SRO K ι F O ρ' M σ' H → Out (ptVs ps) σ σ' → Q σ' H
theorem PG.weak {X : Cx} {e : Expr} {t t' : TG} (h : PG X e t) (q : ∀ v σ H Q, t' v σ H Q → t v σ H Q) : PG X e t' := ⟨fun pins s σ H v u Q I r z => h.run pins s σ H v u Q I r (q v σ H Q z)⟩
theorem PGs.weak {X : Cx} {e : List Expr} {t t' : TGs} (h : PGs X e t) (q : ∀ v σ H Q, t' v σ H Q → t v σ H Q) : PGs X e t' := ⟨fun pins s σ H v u Q I r z => h.run pins s σ H v u Q I r (q v σ H Q z)⟩
theorem assign_each {e : Expr} {es : List Expr} {env : Env} (h : nst e = true) : (assignEach (e :: es) env).map (·.2) = assign e env :: (assignEach es env).map (·.2) := by
  cases e <;> first | rfl | cases h
section
variable {P : Prog} {nm : Nms} {n : Nat} {X : Cx} {sc : Scope}
theorem mPs_len {N : List Str} : ∀ {ps : List Pt} {es : List Expr}, mPs N sc ps es = true → ps.length = es.length
  | [], [], _ => rfl
  | [], _ :: _, h => by simp [mPs] at h
  | _ :: _, [], h => by simp [mPs] at h
  | p :: ps, e :: es, h => by
    simp only [mPs, Bool.and_eq_true] at h
    simp [mPs_len h.2]
theorem assign_none {e : Expr} {es : List Expr} {env : Env} (h : nst e = true) : assignEach (e :: es) env = (false, assign e env) :: assignEach es env := by
  cases e <;> first | rfl | cases h
theorem assign_plain {N : List Str} {env : Env} : ∀ {ps : List Pt} {es : List Expr}, mPs N sc ps es = true → (assignEach es env).length = es.length ∧ (assignEach es env).findIdx? (·.1) = none
  | [], [], _ => ⟨rfl, rfl⟩
  | [], _ :: _, h => by simp [mPs] at h
  | _ :: _, [], h => by simp [mPs] at h
  | p :: ps, e :: es, h => by
    simp only [mPs, Bool.and_eq_true] at h
    have ih := assign_plain (env := env) h.2
    rw [assign_none h.1.1]
    refine ⟨by simp [ih.1], ?_⟩
    rw [List.findIdx?_cons]
    simp [ih.2]
mutual
theorem s_pat (w : XW P nm cl n X sc W) : ∀ {p : Pt} {e : Expr}, mP X.N sc p e = true → PG X e (tG X.K p)
  | .v i, e, h => by
    simp only [mP] at h
    split at h
    · simp only [Bool.and_eq_true, decide_eq_true_eq] at h
      obtain ⟨l, f⟩ := w.loc h.2
      refine PG.weak (pg_name w.nd h.1 l f) fun v σ H Q z => ?_
      obtain ⟨ι, F, O, ρ, M, d, ρ', r, hv, e, q⟩ := z
      simp only [bindP, Option.some.injEq] at e
      subst e
      refine q _ (r.setFz hv) ⟨by simp, fun j hj => ?_⟩
      have : i ≠ j := fun e => hj (by simp [ptV, e])
      rw [List.getElem?_set_ne this]
    · cases h
  | .t ps, e, h => by
    simp only [mP] at h
    split at h
    · refine PG.weak (pg_tup w.calm (s_pats w h) (assign_plain h).1 (assign_plain h).2) fun v σ H Q z => ?_
      obtain ⟨ι, F, O, ρ, M, d, ρ', r, hv, e, q⟩ := z
      simp only [bindP] at e
      split at e
      · rename_i ds
        split at e
        · rename_i hl
          cases hv with
          | tup a rs =>
            refine ⟨_, _, rfl, .inl (.inl (r.sub.tup a)), ?_, ι, F, O, ρ, M, ds, ρ', r, rs, hl, e, q⟩
            rw [rs.length, hl]
            exact mPs_len h
        · cases e
      · cases e
    · cases h
theorem s_pats (w : XW P nm cl n X sc W) : ∀ {ps : List Pt} {es : List Expr}, mPs X.N sc ps es = true → PGs X es (tGs X.K ps)
  | [], es, h => by
    simp only [mPs, List.isEmpty_iff] at h
    subst h
    refine PGs.weak pgs_nil fun v σ H Q z => ?_
    obtain ⟨ι, F, O, ρ, M, ds, ρ', r, hv, hl, e, q⟩ := z
    cases hv with
    | nil => simp only [bindPs, Option.some.injEq] at e; subst e; exact ⟨rfl, q σ r Out.refl⟩
    | cons _ _ => simp at hl
  | p :: ps, [], h => by simp [mPs] at h
  | p :: ps, e :: es, h => by
    simp only [mPs, Bool.and_eq_true] at h
    refine PGs.weak (pgs_cons (s_pat w h.1.2) (s_pats w h.2) (assign_each h.1.1)) fun v σ H Q z => ?_
    obtain ⟨ι, F, O, ρ, M, ds, ρ', r, hv, hl, e, q⟩ := z
    cases hv with
    | nil => simp at hl
    | cons h1 h2 =>
      simp only [bindPs] at e
      split at e
      · rename_i ρ1 e1
        refine ⟨_, _, rfl, ι, F, O, ρ, M, _, ρ1, r, h1, e1, fun σ1 r1 o1 => ?_⟩
        exact ⟨ι, F, O, ρ1, M, _, ρ', r1, h2, by simpa using hl, e, fun σ2 r2 o2 => q σ2 r2 (o1.trans o2)⟩
      · cases e
end
/-! ### walks -/
/-- what is settled stands as it stood -/
def Kp (F H0 H1 : Hp) : Prop := ∀ a u, F a ≠ none → H0 a = some u → H1 a = some u
theorem Stp.kp {K : PySem.W.Frag} {M : Mem} (s : Stp ι F H ι' F' H') (m : MemRep K ι F M H) : Kp F H H' := fun a u h e => s.keep a u e fun z => h (m.there z).2
theorem Kp.refl : Kp F H H := fun _ _ _ h => h
theorem Kp.trans {G0 G1 G2 : Hp} (h : Kp F G0 G1) (h2 : Kp F' G1 G2) (hF : ∀ a u, F a = some u → F' a = some u) : Kp F G0 G2 := fun a u n e => h2 a u (by
  cases q : F a with
  | none => exact absurd q n
  | some w => rw [hF a w q]; exact fun z => by cases z) (h a u n e)
structure Wk (K : PySem.W.Frag) (J : It) (ι : List Addr) (F H0 : Hp) (ds : List D) : Prop where
  go : ∀ i F1 H1, (∀ a u, F a = some u → F1 a = some u) → FSub F1 H1 → Kp F H0 H1 → i < ds.length → J.go i H1
  yld : ∀ i ι1 F1 H1 M1 x H2, (∀ (n : Nat) a, ι[n]? = some a → ι1[n]? = some a) → (∀ a u, F a = some u → F1 a = some u) → FSub F1 H1 → Kp F H0 H1 → MemRep K ι1 F1 M1 H1 → J.yld i H1 x H2 → i < ds.length →
    ∃ d F2, ds[i]? = some d ∧ Stp ι1 F1 H1 ι1 F2 H2 ∧ FSub F2 H2 ∧ MemRep K ι1 F2 M1 H2 ∧ Rep K ι1 F2 x d
  stop : ∀ F1 H1, (∀ a u, F a = some u → F1 a = some u) → FSub F1 H1 → Kp F H0 H1 → J.stop ds.length H1
def tI (K : PySem.W.Frag) (cl : Nat → Value) (W : WXX) (r : Sl → Mem → R (List D)) : TI := fun σ H R => ∃ ι F ρ M, SR K ι F ρ M σ H ∧ Res K cl W ι F σ H (r ρ M) fun ds _ ι' F' H' => ∀ J, Wk K J ι' F' H' ds → ds.length ≤ sizeLine → R J H'
theorem PI.weak {X : Cx} {tg e : Expr} {t t' : TI} (h : PI X tg e t) (q : ∀ σ H Q, t' σ H Q → t σ H Q) : PI X tg e t' := ⟨fun pins s σ H Q I z => h.run pins s σ H Q I (q σ H Q z)⟩
theorem PI.or {X : Cx} {tg e : Expr} {t t' : TI} (h : PI X tg e t) (h' : PI X tg e t') : PI X tg e (fun σ H R => t σ H R ∨ t' σ H R) :=
  ⟨fun pins s σ H Q I z => z.elim (fun z => h.run pins s σ H Q I z) fun z => h'.run pins s σ H Q I z⟩
def Sized (K : PySem.W.Frag) (H : Hp) : Prop := (∀ a xs, SqL K H a xs → xs.length ≤ sizeLine) ∧ ∀ a xs, SqT K H a xs → xs.length ≤ sizeLine
theorem PI.sized {X : Cx} {tg e : Expr} {t : TI} (h : PI X tg e t) (mono : ∀ σ H R R', (∀ J H, R J H → R' J H) → t σ H R → t σ H R') : PI X tg e (fun σ H R => t σ H fun J H1 => Sized X.K H1 → R J H1) := by
  refine ⟨fun pins s σ H R I z => ?_⟩
  refine thn (h.run pins s σ H _ I z) fun v s1 h1 => thn h1 fun itv s2 ⟨it, fp, tn, J, H', e, I2, T, t0, f, q⟩ => ?_
  exact ⟨it, fp, tn, J, H', e, I2, T, t0, f, q ⟨fun a xs h => let ⟨_, _, _, z⟩ := I2.list h; z, fun a xs h => let ⟨_, _, _, z⟩ := I2.tuple h; z⟩⟩
theorem wk_list {H0 : Hp} {vs : List V} {ds : List D} {a : Addr} (h : SqL K F a vs) (r : Reps K ι F vs ds) : Wk K (Itl K a) ι F H0 ds := by
  refine ⟨fun i F1 H1 hF f _ hi => ?_, fun i ι1 F1 H1 M1 x H2 hι hF f _ m y hi => ?_, fun F1 H1 hF f _ => ?_⟩
  · have hi' : i < vs.length := by rw [r.length]; exact hi
    exact ⟨vs, vs[i], f.sqL (SqL.mono hF h), List.getElem?_eq_getElem hi'⟩
  · obtain ⟨rfl, y⟩ := y
    have hi' : i < vs.length := by rw [r.length]; exact hi
    have e := y vs (f.sqL (SqL.mono hF h))
    obtain ⟨d, e1, r1⟩ := r.getV e
    exact ⟨d, F1, e1, Stp.refl, f, m, r1.mono hι hF⟩
  · exact ⟨vs, f.sqL (SqL.mono hF h), by rw [r.length]; exact Nat.le_refl _⟩
theorem wk_tup {H0 : Hp} {vs : List V} {ds : List D} {a : Addr} (h : SqT K F a vs) (r : Reps K ι F vs ds) : Wk K (Itt K a) ι F H0 ds := by
  refine ⟨fun i F1 H1 hF f _ hi => ?_, fun i ι1 F1 H1 M1 x H2 hι hF f _ m y hi => ?_, fun F1 H1 hF f _ => ?_⟩
  · have hi' : i < vs.length := by rw [r.length]; exact hi
    exact ⟨vs, vs[i], f.sqT (SqT.mono hF h), List.getElem?_eq_getElem hi'⟩
  · obtain ⟨rfl, y⟩ := y
    have hi' : i < vs.length := by rw [r.length]; exact hi
    have e := y vs (f.sqT (SqT.mono hF h))
    obtain ⟨d, e1, r1⟩ := r.getV e
    exact ⟨d, F1, e1, Stp.refl, f, m, r1.mono hι hF⟩
  · exact ⟨vs, f.sqT (SqT.mono hF h), by rw [r.length]; exact Nat.le_refl _⟩
theorem wk_revL {H0 : Hp} {vs : List V} {ds : List D} {a : Addr} (h : SqL K F a vs) (r : Reps K ι F vs ds) : Wk K (L2.Itv K a vs.length) ι F H0 ds.reverse := by
  refine ⟨fun i F1 H1 hF f _ hi => ?_, fun i ι1 F1 H1 M1 x H2 hι hF f _ m y hi => ?_, fun F1 H1 hF f _ => ?_⟩
  · have hi' : i < vs.length := by rw [r.length]; simpa using hi
    exact ⟨hi', vs, vs[vs.length - 1 - i], f.sqL (SqL.mono hF h), List.getElem?_eq_getElem (by omega)⟩
  · obtain ⟨rfl, y⟩ := y
    have hi' : i < vs.length := by rw [r.length]; simpa using hi
    have e := y vs (f.sqL (SqL.mono hF h))
    obtain ⟨d, e1, r1⟩ := r.getV e
    refine ⟨d, F1, ?_, Stp.refl, f, m, r1.mono hι hF⟩
    rw [List.getElem?_reverse (by rw [← r.length]; exact hi'), ← r.length]
    exact e1
  · show vs.length ≤ _
    rw [r.length]; simp
theorem wk_revT {H0 : Hp} {vs : List V} {ds : List D} {a : Addr} (h : SqT K F a vs) (r : Reps K ι F vs ds) : Wk K (RT.ItvT K a vs.length) ι F H0 ds.reverse := by
  refine ⟨fun i F1 H1 hF f _ hi => ?_, fun i ι1 F1 H1 M1 x H2 hι hF f _ m y hi => ?_, fun F1 H1 hF f _ => ?_⟩
  · have hi' : i < vs.length := by rw [r.length]; simpa using hi
    exact ⟨hi', vs, vs[vs.length - 1 - i], f.sqT (SqT.mono hF h), List.getElem?_eq_getElem (by omega)⟩
  · obtain ⟨rfl, y⟩ := y
    have hi' : i < vs.length := by rw [r.length]; simpa using hi
    have e := y vs (f.sqT (SqT.mono hF h))
    obtain ⟨d, e1, r1⟩ := r.getV e
    refine ⟨d, F1, ?_, Stp.refl, f, m, r1.mono hι hF⟩
    rw [List.getElem?_reverse (by rw [← r.length]; exact hi'), ← r.length]
    exact e1
  · show vs.length ≤ _
    rw [r.length]; simp
theorem wk_rng {H0 : Hp} {lo : Int} {n : Nat} {b : Int} (h : (b - lo).toNat = n) : Wk K (Itr lo n) ι F H0 (rngD lo b) := by
  have hl : (rngD lo b).length = n := by simp [rngD, h]
  refine ⟨fun i F1 H1 hF f _ hi => by rw [hl] at hi; exact hi, fun i ι1 F1 H1 M1 x H2 hι hF f _ m y hi => ?_, fun F1 H1 hF f _ => by rw [hl]; exact Nat.le_refl _⟩
  obtain ⟨rfl, rfl⟩ := y
  rw [hl] at hi
  refine ⟨.int (lo + (i : Nat)), F1, ?_, Stp.refl, f, m, .int _⟩
  unfold rngD
  rw [List.getElem?_map, List.getElem?_range (by omega)]
  rfl
theorem rngD_length (a b : Int) : (rngD a b).length = (b - a).toNat := by simp [rngD]
theorem iter_boot : bootBuiltins "reversed" = some (.type "reversed") := by decide +kernel
variable {c : Cfg}
theorem s_iseq {tg e : Expr} {re : Sl → Mem → R D} (he : PE X e (tE X.K cl W re)) :
    PI X tg e (tI X.K cl W fun ρ M => (re ρ M).bind fun d M1 => R.of (itD .seq [d]) M1) := by
  have mono : ∀ (k : Hp → Addr → Prop) (j : Addr → It), ∀ σ H (R R' : It → Hp → Prop), (∀ J H, R J H → R' J H) → (tE X.K cl W re σ H fun x H1 => ∃ a, x = .ref a ∧ k H1 a ∧ R (j a) H1) → tE X.K cl W re σ H fun x H1 => ∃ a, x = .ref a ∧ k H1 a ∧ R' (j a) H1 := fun k j σ H R R' im z => by
    obtain ⟨ι, F, ρ, M, r, z⟩ := z
    exact ⟨ι, F, ρ, M, r, z.imp fun d M1 ι1 F1 H1 s1 f1 m1 q v hv => let ⟨a, e, x, y⟩ := q v hv; ⟨a, e, x, im _ _ y⟩⟩
  have h1 := PI.sized (pi_list (tg := tg) he) (mono (fun H1 a => ∃ xs, SqL X.K H1 a xs) (Itl X.K))
  have h2 := PI.sized (pi_tup (tg := tg) he) (mono (fun H1 a => ∃ xs, SqT X.K H1 a xs) (Itt X.K))
  refine PI.weak (PI.or h1 h2) fun σ H R z => ?_
  obtain ⟨ι, F, ρ, M, r, z⟩ := z
  have z := z.bind
  cases e : re ρ M with
  | st => rw [e] at z; exact z.elim
  | ex c' M' => rw [e] at z; exact .inl ⟨ι, F, ρ, M, r, by rw [e]; exact z⟩
  | ok d M1 =>
    rw [e] at z
    have hd : (∃ ds, d = .lst ds) ∨ (∃ ds, d = .tup ds) ∨ (∃ ds, d = .ktup ds) ∨ itD .seq [d] = none := by
      cases d <;> first | exact .inl ⟨_, rfl⟩ | exact .inr (.inl ⟨_, rfl⟩) | exact .inr (.inr (.inl ⟨_, rfl⟩)) | exact .inr (.inr (.inr rfl))
    rcases hd with ⟨ds, rfl⟩ | ⟨ds, rfl⟩ | ⟨ds, rfl⟩ | hd
    · refine .inl ⟨ι, F, ρ, M, r, ?_⟩
      rw [e]
      intro ι1 F1 H1 s1 f1 m1 v hv
      have q : Res X.K cl W ι1 F1 σ H1 (VL.R.ok ds M1) _ := z ι1 F1 H1 s1 f1 m1
      have q := Res.of_ok q f1 m1
      cases hv with
      | lst a1 r1 =>
        refine ⟨_, rfl, ⟨_, f1.sqL a1⟩, fun sz => q _ (wk_list a1 r1) ?_⟩
        rw [← r1.length]; exact sz.1 _ _ (f1.sqL a1)
    · refine .inr ⟨ι, F, ρ, M, r, ?_⟩
      rw [e]
      intro ι1 F1 H1 s1 f1 m1 v hv
      have q : Res X.K cl W ι1 F1 σ H1 (VL.R.ok ds M1) _ := z ι1 F1 H1 s1 f1 m1
      have q := Res.of_ok q f1 m1
      cases hv with
      | tup a1 r1 =>
        have a2 : SqT X.K F1 _ _ := .inl (.inl a1)
        refine ⟨_, rfl, ⟨_, f1.sqT a2⟩, fun sz => q _ (wk_tup a2 r1) ?_⟩
        rw [← r1.length]; exact sz.2 _ _ (f1.sqT a2)
    · refine .inr ⟨ι, F, ρ, M, r, ?_⟩
      rw [e]
      intro ι1 F1 H1 s1 f1 m1 v hv
      have q : Res X.K cl W ι1 F1 σ H1 (VL.R.ok ds M1) _ := z ι1 F1 H1 s1 f1 m1
      have q := Res.of_ok q f1 m1
      cases hv with
      | ktup a1 _ r1 =>
        refine ⟨_, rfl, ⟨_, f1.sqT a1⟩, fun sz => q _ (wk_tup a1 r1) ?_⟩
        rw [← r1.length]; exact sz.2 _ _ (f1.sqT a1)
    · refine .inl ⟨ι, F, ρ, M, r, ?_⟩
      rw [e]
      intro ι1 F1 H1 s1 f1 m1 v hv
      have q : Res X.K cl W ι1 F1 σ H1 (VL.R.of (itD .seq [d]) M1) _ := z ι1 F1 H1 s1 f1 m1
      rw [hd] at q
      exact q.elim
theorem s_irev (w : XW P nm cl n X sc W) {tg e : Expr} {x : Str} {p pos : Pos} {re : Sl → Mem → R D} (h1 : x = "reversed") (h2 : glB sc x = true) (hn : nst e = true) (he : PE X e (tE X.K cl W re)) :
    PI X tg (.Call (.Name x p) [e] [] pos) (tI X.K cl W fun ρ M => (re ρ M).bind fun d M1 => R.of (itD .rev [d]) M1) := by
  obtain ⟨g, o⟩ := w.gl h2
  subst h1
  have hm : X.mg "reversed" = none := w.fx.blt _ (by decide +kernel)
  have hp := RT.pi_revA (X := X) (tg := tg) (p := p) (pos := pos) g hm he (star_ok hn)
  have hz := PI.sized hp fun σ H R R' im z => by
    obtain ⟨ι, F, ρ, M, r, z⟩ := z
    refine ⟨ι, F, ρ, M, r, z.imp fun d M1 ι1 F1 H1 s1 f1 m1 q v hv => ?_⟩
    obtain ⟨a, xs, e, q⟩ := q v hv
    exact ⟨a, xs, e, q.elim (fun q => .inl ⟨q.1, im _ _ q.2⟩) fun q => .inr ⟨q.1, im _ _ q.2⟩⟩
  refine PI.weak hz fun σ H R z => ?_
  obtain ⟨ι, F, ρ, M, r, z⟩ := z
  refine ⟨ι, F, ρ, M, r, z.bind.imp fun d M1 ι1 F1 H1 s1 f1 m1 q v hv => ?_⟩
  cases hv with
  | lst a1 r1 =>
    have q : Res X.K cl W ι1 F1 σ H1 (VL.R.ok _ M1) _ := q
    have q := Res.of_ok q f1 m1
    refine ⟨_, _, rfl, .inl ⟨f1.sqL a1, fun sz => q _ (wk_revL a1 r1) ?_⟩⟩
    rw [List.length_reverse, ← r1.length]; exact sz.1 _ _ (f1.sqL a1)
  | tup a1 r1 =>
    have q : Res X.K cl W ι1 F1 σ H1 (VL.R.ok _ M1) _ := q
    have q := Res.of_ok q f1 m1
    have a2 : SqT X.K F1 _ _ := .inl (.inl a1)
    refine ⟨_, _, rfl, .inr ⟨f1.sqT a2, fun sz => q _ (wk_revT a2 r1) ?_⟩⟩
    rw [List.length_reverse, ← r1.length]; exact sz.2 _ _ (f1.sqT a2)
  | _ => exact q.elim
theorem starE_two {a b : Expr} {env : Env} (h1 : nst a = true) (h2 : nst b = true) : starEach [a, b] env = [(false, eval a env), (false, eval b env)] := by
  rw [star_ok h1, star_ok h2]; rfl
theorem starE_one {a : Expr} {env : Env} (h1 : nst a = true) : starEach [a] env = [(false, eval a env)] := by
  rw [star_ok h1]; rfl
theorem s_irng1 (w : XW P nm cl n X sc W) {tg e : Expr} {x : Str} {p pos : Pos} {re : Sl → Mem → R (List D)} (h1 : x = "range") (h2 : glB sc x = true) (hn : nst e = true) (he : PA X [e] (tA X.K cl W re)) :
    PI X tg (.Call (.Name x p) [e] [] pos) (tI X.K cl W fun ρ M => (re ρ M).bind fun ds M1 => R.of (itD .rng1 ds) M1) := by
  obtain ⟨g, o⟩ := w.gl h2
  subst h1
  have hm : X.mg "range" = none := w.fx.blt _ (by decide +kernel)
  refine PI.weak (pi_range1 g hm he (starE_one hn)) fun σ H R z => ?_
  obtain ⟨ι, F, ρ, M, r, z⟩ := z
  refine ⟨ι, F, ρ, M, r, z.bind.imp fun ds M1 ι1 F1 H1 s1 f1 m1 q vs hv => ?_⟩
  obtain ⟨its, e, q⟩ := s_of q f1 m1
  have q := q _ _ _ Stp.refl f1 m1
  unfold itD at e
  split at e <;> try (first | (cases e; done) | (rename_i hk; cases hk; done))
  rename_i i hk
  split at e
  · rename_i hb
    cases e
    cases hv with
    | cons h1 h2 =>
      cases h2
      rw [h1.getInt]
      refine ⟨i, rfl, hb.1, ?_, q _ (wk_rng (by simp)) ?_⟩
      · have := hb.2; rw [sizeLine_eq] at this; omega
      · rw [rngD_length]; have := hb.2; omega
  · cases e
theorem s_irng2 (w : XW P nm cl n X sc W) {tg e e2 : Expr} {x : Str} {p pos : Pos} {re : Sl → Mem → R (List D)} (h1 : x = "range") (h2 : glB sc x = true) (hn : nst e = true) (hn2 : nst e2 = true) (he : PA X [e, e2] (tA X.K cl W re)) :
    PI X tg (.Call (.Name x p) [e, e2] [] pos) (tI X.K cl W fun ρ M => (re ρ M).bind fun ds M1 => R.of (itD .rng2 ds) M1) := by
  obtain ⟨g, o⟩ := w.gl h2
  subst h1
  have hm : X.mg "range" = none := w.fx.blt _ (by decide +kernel)
  refine PI.weak (pi_range2 g hm he (starE_two hn hn2) (starE_one hn2)) fun σ H R z => ?_
  obtain ⟨ι, F, ρ, M, r, z⟩ := z
  refine ⟨ι, F, ρ, M, r, z.bind.imp fun ds M1 ι1 F1 H1 s1 f1 m1 q vs hv => ?_⟩
  obtain ⟨its, e, q⟩ := s_of q f1 m1
  have q := q _ _ _ Stp.refl f1 m1
  unfold itD at e
  split at e <;> try (first | (cases e; done) | (rename_i hk; cases hk; done))
  rename_i i j hk
  split at e
  · rename_i hb
    cases e
    obtain ⟨b1, b2, b3, b4, b5⟩ := hb
    cases hv with
    | cons h1 h2 =>
      cases h2 with
      | cons h2 h3 =>
        cases h3
        rw [h1.getInt, h2.getInt]
        refine ⟨i, j, rfl, ⟨by omega, by omega, by omega, by omega⟩, q _ (wk_rng rfl) ?_⟩
        rw [rngD_length]; omega
  · cases e
/-! ### zip, range with a step -/
theorem wk_zip {H0 : Hp} {xs ys : List V} {as bs : List D} {a b : Addr} (h : SqL K F a xs) (r : Reps K ι F xs as) (h' : SqL K F b ys) (r' : Reps K ι F ys bs) : Wk K (Itz K a b) ι F H0 ((as.zip bs).map fun p => D.tup [p.1, p.2]) := by
  have hl : ((as.zip bs).map fun p => D.tup [p.1, p.2]).length = min xs.length ys.length := by rw [List.length_map, List.length_zip, r.length, r'.length]
  refine ⟨fun i F1 H1 hF f _ hi => ?_, fun i ι1 F1 H1 M1 x H2 hι hF f _ m y hi => ?_, fun F1 H1 hF f _ => ?_⟩
  · rw [hl] at hi
    have h1 : i < xs.length := by omega
    have h2 : i < ys.length := by omega
    exact ⟨xs, ys, xs[i], ys[i], f.sqL (SqL.mono hF h), f.sqL (SqL.mono hF h'), List.getElem?_eq_getElem h1, List.getElem?_eq_getElem h2⟩
  · obtain ⟨T, u, v, rfl, hT, rfl, y1, y2⟩ := y
    have e1 := y1 xs (f.sqL (SqL.mono hF h))
    have e2 := y2 ys (f.sqL (SqL.mono hF h'))
    obtain ⟨d1, g1, q1⟩ := r.getV e1
    obtain ⟨d2, g2, q2⟩ := r'.getV e2
    obtain ⟨s1, f1, m1⟩ := new_ok (o := .tup [u, v]) f m hT
    refine ⟨.tup [d1, d2], _, ?_, s1, f1, m1, rep_new_tup f hT (.cons (q1.mono hι hF) (.cons (q2.mono hι hF) .nil))⟩
    rw [List.getElem?_map, (List.getElem?_zip_eq_some (z := (d1, d2))).mpr ⟨g1, g2⟩]; rfl
  · refine ⟨xs, ys, f.sqL (SqL.mono hF h), f.sqL (SqL.mono hF h'), ?_⟩
    rw [hl]; omega
theorem wk_rngC {H0 : Hp} {lo hi c : Int} {k : Nat} (h : ((hi - lo + c - 1) / c).toNat = k) : Wk K (Itc lo c k) ι F H0 (rngC lo hi c) := by
  have hl : (rngC lo hi c).length = k := by simp [rngC, h]
  refine ⟨fun i F1 H1 hF f _ hi => by rw [hl] at hi; exact hi, fun i ι1 F1 H1 M1 x H2 hι hF f _ m y hi => ?_, fun F1 H1 hF f _ => by rw [hl]; exact Nat.le_refl _⟩
  obtain ⟨rfl, rfl⟩ := y
  rw [hl] at hi
  refine ⟨.int (lo + (i : Nat) * c), F1, ?_, Stp.refl, f, m, .int _⟩
  unfold rngC
  rw [List.getElem?_map, List.getElem?_range (by omega)]
  rfl
theorem starE_three {a b c : Expr} {env : Env} (h1 : nst a = true) (h2 : nst b = true) (h3 : nst c = true) : starEach [a, b, c] env = [(false, eval a env), (false, eval b env), (false, eval c env)] := by
  rw [star_ok h1, star_ok h2, star_ok h3]; rfl
theorem s_irng3 (w : XW P nm cl n X sc W) {tg e e2 e3 : Expr} {x : Str} {p pos : Pos} {re : Sl → Mem → R (List D)} (h1 : x = "range") (h2 : glB sc x = true) (hn : nst e = true) (hn2 : nst e2 = true) (hn3 : nst e3 = true) (he : PA X [e, e2, e3] (tA X.K cl W re)) :
    PI X tg (.Call (.Name x p) [e, e2, e3] [] pos) (tI X.K cl W fun ρ M => (re ρ M).bind fun ds M1 => R.of (itD .rng3 ds) M1) := by
  obtain ⟨g, o⟩ := w.gl h2
  subst h1
  have hm : X.mg "range" = none := w.fx.blt _ (by decide +kernel)
  refine PI.weak (pi_range3 g hm he (by rw [starE_three hn hn2 hn3, starE_two hn2 hn3]) (by rw [starE_two hn2 hn3]; rfl)) fun σ H R z => ?_
  obtain ⟨ι, F, ρ, M, r, z⟩ := z
  refine ⟨ι, F, ρ, M, r, z.bind.imp fun ds M1 ι1 F1 H1 s1 f1 m1 q vs hv => ?_⟩
  obtain ⟨its, e, q⟩ := s_of q f1 m1
  have q := q _ _ _ Stp.refl f1 m1
  unfold itD at e
  split at e <;> try (first | (cases e; done) | (rename_i hk; cases hk; done))
  rename_i i j c hk
  split at e
  · rename_i hb
    cases e
    obtain ⟨b1, b2, b3, b4, b5, b6, b7⟩ := hb
    cases hv with
    | cons h1 h2 =>
      cases h2 with
      | cons h2 h3 =>
        cases h3 with
        | cons h3 h4 =>
          cases h4
          rw [h1.getInt, h2.getInt, h3.getInt]
          have e0 : ((j - i + c - 1) / c).toNat ≤ sizeLine := by
            by_cases hle : j - i ≤ 0
            · have : (j - i + c - 1) / c < 1 := Int.ediv_lt_of_lt_mul b5 (by omega)
              omega
            · have : (j - i + c - 1) / c ≤ j - i := by
                have : (j - i + c - 1) / c < (j - i) + 1 := Int.ediv_lt_of_lt_mul b5 (by
                  have : (j - i + 1) * c = (j - i) * c + c := by rw [Int.add_mul, Int.one_mul]
                  have h2 : (j - i) * 1 ≤ (j - i) * c := Int.mul_le_mul_of_nonneg_left (by omega) (by omega)
                  omega)
                omega
              omega
          have e1 : Builtin.Range.rangeSize i j c = (((j - i + c - 1) / c).toNat : Int) := by
            unfold Builtin.Range.rangeSize
            rw [if_pos (by omega)]
            split
            · have e : j - i + c - 1 = (j - i - 1) + 1 * c := by omega
              rw [e, Int.add_mul_ediv_right _ _ (by omega)]
              have : 0 ≤ (j - i - 1) / c := Int.ediv_nonneg (by omega) (by omega)
              omega
            · have : (j - i + c - 1) / c < 1 := Int.ediv_lt_of_lt_mul b5 (by omega)
              omega
          refine ⟨i, j, c, _, rfl, ⟨by omega, by omega, ?_, e1⟩, q _ (wk_rngC rfl) ?_⟩
          · unfold Builtin.Range.small
            rw [e1]
            simp only [Builtin.Range.rangeFitsLong, Bool.and_eq_true, Bool.or_eq_true, decide_eq_true_eq, beq_iff_eq]
            rw [sizeLine_eq] at e0
            refine ⟨by omega, .inr ?_⟩
            rw [if_pos (by omega)]
            simp only [Bool.and_eq_true, decide_eq_true_eq]
            omega
          · simp only [rngC, List.length_map, List.length_range]; exact e0
  · cases e
theorem s_izip (w : XW P nm cl n X sc W) {e e2 : Expr} {elts : List Expr} {kk : Nat} {tpos : Pos} {x : Str} {p pos : Pos} {re : Sl → Mem → R (List D)} (h1 : x = "zip") (h2 : glB sc x = true) (hn : nst e = true) (hn2 : nst e2 = true) (he : PA X [e, e2] (tA X.K cl W re)) :
    PI X (.Tuple elts kk tpos) (.Call (.Name x p) [e, e2] [] pos) (tI X.K cl W fun ρ M => (re ρ M).bind fun ds M1 => R.of (itD .zip ds) M1) := by
  obtain ⟨g, o⟩ := w.gl h2
  subst h1
  have hm : X.mg "zip" = none := w.fx.blt _ (by decide +kernel)
  have hz := PI.sized (pi_zip (elts := elts) (kk := kk) (tpos := tpos) (p := p) (pos := pos) g hm he (by rw [starE_two hn hn2, starE_one hn2]) (by rw [starE_one hn2]; rfl)) fun σ H R R' im z => by
    obtain ⟨ι, F, ρ, M, r, z⟩ := z
    refine ⟨ι, F, ρ, M, r, z.imp fun d M1 ι1 F1 H1 s1 f1 m1 q v hv => ?_⟩
    obtain ⟨a, b, xs, ys, e, q1, q2, q⟩ := q v hv
    exact ⟨a, b, xs, ys, e, q1, q2, im _ _ q⟩
  refine PI.weak hz fun σ H R z => ?_
  obtain ⟨ι, F, ρ, M, r, z⟩ := z
  refine ⟨ι, F, ρ, M, r, z.bind.imp fun ds M1 ι1 F1 H1 s1 f1 m1 q vs hv => ?_⟩
  obtain ⟨its, e, q⟩ := s_of q f1 m1
  have q := q _ _ _ Stp.refl f1 m1
  unfold itD at e
  split at e <;> try (first | (cases e; done) | (rename_i hk; cases hk; done))
  cases e
  cases hv with
  | cons h1 h2 =>
    cases h2 with
    | cons h2 h3 =>
      cases h3
      cases h1 with
      | lst a1 r1 =>
        cases h2 with
        | lst a2 r2 =>
          refine ⟨_, _, _, _, rfl, f1.sqL a1, f1.sqL a2, fun sz => q _ (wk_zip a1 r1 a2 r2) ?_⟩
          rw [List.length_map, List.length_zip, ← r1.length]
          exact Nat.le_trans (Nat.min_le_left _ _) (sz.1 _ _ (f1.sqL a1))
theorem tupE_ok {tg : Expr} (h : tupE tg = true) : ∃ elts kk tpos, tg = .Tuple elts kk tpos := by
  cases tg <;> first | (cases h; done) | exact ⟨_, _, _, rfl⟩
/-! ### enumerate -/
theorem wk_enum {H0 : Hp} {xs : List V} {as : List D} {a : Addr} (h : SqL K F a xs) (r : Reps K ι F xs as) : Wk K (Ite K a) ι F H0 (as.zipIdx.map fun p => D.tup [.int (p.2 : Nat), p.1]) := by
  have hl : (as.zipIdx.map fun p => D.tup [.int (p.2 : Nat), p.1]).length = xs.length := by rw [List.length_map, List.length_zipIdx, r.length]
  refine ⟨fun i F1 H1 hF f _ hi => ?_, fun i ι1 F1 H1 M1 x H2 hι hF f _ m y hi => ?_, fun F1 H1 hF f _ => ?_⟩
  · rw [hl] at hi
    exact ⟨xs, xs[i], f.sqL (SqL.mono hF h), List.getElem?_eq_getElem hi⟩
  · obtain ⟨T, u, rfl, hT, rfl, y1⟩ := y
    obtain ⟨d1, g1, q1⟩ := r.getV (y1 xs (f.sqL (SqL.mono hF h)))
    obtain ⟨s1, f1, m1⟩ := new_ok (o := .tup [.int (i : Nat), u]) f m hT
    refine ⟨.tup [.int (i : Nat), d1], _, ?_, s1, f1, m1, rep_new_tup f hT (.cons (.int _) (.cons (q1.mono hι hF) .nil))⟩
    rw [List.getElem?_map, List.getElem?_zipIdx, g1]
    simp
  · exact ⟨xs, f.sqL (SqL.mono hF h), by rw [hl]; exact Nat.le_refl _⟩
theorem s_ienum (w : XW P nm cl n X sc W) {e : Expr} {elts : List Expr} {kk : Nat} {tpos : Pos} {x : Str} {p pos : Pos} {re : Sl → Mem → R (List D)} (h1 : x = "enumerate") (h2 : glB sc x = true) (hn : nst e = true) (he : PA X [e] (tA X.K cl W re)) :
    PI X (.Tuple elts kk tpos) (.Call (.Name x p) [e] [] pos) (tI X.K cl W fun ρ M => (re ρ M).bind fun ds M1 => R.of (itD .enum ds) M1) := by
  obtain ⟨g, o⟩ := w.gl h2
  subst h1
  have hm : X.mg "enumerate" = none := w.fx.blt _ (by decide +kernel)
  have hz := PI.sized (pi_enum (elts := elts) (kk := kk) (tpos := tpos) (p := p) (pos := pos) g hm he (by rw [starE_one hn])) fun σ H R R' im z => by
    obtain ⟨ι, F, ρ, M, r, z⟩ := z
    refine ⟨ι, F, ρ, M, r, z.imp fun d M1 ι1 F1 H1 s1 f1 m1 q v hv => ?_⟩
    obtain ⟨a, xs, e, q1, q⟩ := q v hv
    exact ⟨a, xs, e, q1, im _ _ q⟩
  refine PI.weak hz fun σ H R z => ?_
  obtain ⟨ι, F, ρ, M, r, z⟩ := z
  refine ⟨ι, F, ρ, M, r, z.bind.imp fun ds M1 ι1 F1 H1 s1 f1 m1 q vs hv => ?_⟩
  obtain ⟨its, e, q⟩ := s_of q f1 m1
  have q := q _ _ _ Stp.refl f1 m1
  unfold itD at e
  split at e <;> try (first | (cases e; done) | (rename_i hk; cases hk; done))
  cases e
  cases hv with
  | cons h1 h2 =>
    cases h2
    cases h1 with
    | lst a1 r1 =>
      refine ⟨_, _, rfl, f1.sqL a1, fun sz => q _ (wk_enum a1 r1) ?_⟩
      rw [List.length_map, List.length_zipIdx, ← r1.length]
      exact sz.1 _ _ (f1.sqL a1)
/-- all walks that a name makes -/
theorem walk_call (w : XW P nm cl n X sc W) {k : ItK} {args : List Ex} {tg : Expr} {x : Str} {es : List Expr} {p pos : Pos} (hg : glB sc x = true) (hb : itB k x es.length tg = true) (hm : mEs X.N nm args sc es = true)
    (hp : PA X es (tA X.K cl W (evEs (cfgN P n) args))) (ha : ∀ a, args = [a] → ∀ e, mE X.N nm a sc e = true → PE X e (tE X.K cl W (evE (cfgN P n) a))) :
    ∃ ri, PI X tg (.Call (.Name x p) es [] pos) (tI X.K cl W ri) ∧ ∀ ρ M, ri ρ M = (evEs (cfgN P n) args ρ M).bind fun ds M1 => R.of (itD k ds) M1 := by
  have n1 : ∀ {e : Expr} {es1 : List Expr} {as : List Ex}, mEs X.N nm as sc (e :: es1) = true → nst e = true ∧ ∃ a as', as = a :: as' ∧ mE X.N nm a sc e = true ∧ mEs X.N nm as' sc es1 = true := fun {e es1 as} h => by
    cases as with
    | nil => simp [mEs] at h
    | cons a as => simp only [mEs, Bool.and_eq_true] at h; exact ⟨h.1.1, a, as, rfl, h.1.2, h.2⟩
  have n0 : ∀ {as : List Ex}, mEs X.N nm as sc [] = true → as = [] := fun {as} h => by
    cases as with
    | nil => rfl
    | cons a as => simp [mEs] at h
  cases k with
  | seq => cases hb
  | enum =>
    simp only [itB, Bool.and_eq_true, decide_eq_true_eq] at hb
    obtain ⟨elts, kk, tpos, rfl⟩ := tupE_ok hb.2
    match es, hb, hm, hp with
    | [e1], hb, hm, hp => exact ⟨_, s_ienum w hb.1.1 hg (n1 hm).1 hp, fun ρ M => rfl⟩
    | [], hb, _, _ => exact absurd hb.1.2 (by simp)
    | _ :: _ :: _, hb, _, _ => exact absurd hb.1.2 (by simp)
  | keys => cases hb
  | rng1 =>
    simp only [itB, Bool.and_eq_true, decide_eq_true_eq] at hb
    match es, hb, hm, hp with
    | [e1], hb, hm, hp => exact ⟨_, s_irng1 w hb.1 hg (n1 hm).1 hp, fun ρ M => rfl⟩
    | [], hb, _, _ => exact absurd hb.2 (by simp)
    | _ :: _ :: _, hb, _, _ => exact absurd hb.2 (by simp)
  | rng2 =>
    simp only [itB, Bool.and_eq_true, decide_eq_true_eq] at hb
    match es, hb, hm, hp with
    | [e1, e2], hb, hm, hp =>
      obtain ⟨k1, a, as, rfl, k2, k3⟩ := n1 hm
      exact ⟨_, s_irng2 w hb.1 hg k1 (n1 k3).1 hp, fun ρ M => rfl⟩
    | [], hb, _, _ => exact absurd hb.2 (by simp)
    | [_], hb, _, _ => exact absurd hb.2 (by simp)
    | _ :: _ :: _ :: _, hb, _, _ => exact absurd hb.2 (by simp)
  | rng3 =>
    simp only [itB, Bool.and_eq_true, decide_eq_true_eq] at hb
    match es, hb, hm, hp with
    | [e1, e2, e3], hb, hm, hp =>
      obtain ⟨k1, a, as, rfl, k2, k3⟩ := n1 hm
      obtain ⟨k4, a2, as2, rfl, k5, k6⟩ := n1 k3
      exact ⟨_, s_irng3 w hb.1 hg k1 k4 (n1 k6).1 hp, fun ρ M => rfl⟩
    | [], hb, _, _ => exact absurd hb.2 (by simp)
    | [_], hb, _, _ => exact absurd hb.2 (by simp)
    | [_, _], hb, _, _ => exact absurd hb.2 (by simp)
    | _ :: _ :: _ :: _ :: _, hb, _, _ => exact absurd hb.2 (by simp)
  | zip =>
    simp only [itB, Bool.and_eq_true, decide_eq_true_eq] at hb
    obtain ⟨elts, kk, tpos, rfl⟩ := tupE_ok hb.2
    match es, hb, hm, hp with
    | [e1, e2], hb, hm, hp =>
      obtain ⟨k1, a, as, rfl, k2, k3⟩ := n1 hm
      exact ⟨_, s_izip w hb.1.1 hg k1 (n1 k3).1 hp, fun ρ M => rfl⟩
    | [], hb, _, _ => exact absurd hb.1.2 (by simp)
    | [_], hb, _, _ => exact absurd hb.1.2 (by simp)
    | _ :: _ :: _ :: _, hb, _, _ => exact absurd hb.1.2 (by simp)
  | rev =>
    simp only [itB, Bool.and_eq_true, decide_eq_true_eq] at hb
    match es, hb, hm, hp with
    | [e1], hb, hm, hp =>
      obtain ⟨k1, a, as, rfl, k2, k3⟩ := n1 hm
      have := n0 k3
      subst this
      refine ⟨_, s_irev w hb.1 hg k1 (ha a rfl e1 k2), fun ρ M => ?_⟩
      simp only [evEs, R.bind_assoc, R.bind_ok]
    | [], hb, _, _ => exact absurd hb.2 (by simp)
    | _ :: _ :: _, hb, _, _ => exact absurd hb.2 (by simp)
/-! ### a walk over a dict that is locked -/
theorem repK_fstT : ∀ {kvs : List (List Key × V)} {kds : List (D × D)}, RepK K ι F (kvs.map fun p => (tkeyD p.1, p.2)) kds → kds.map (·.1) = kvs.map fun p => tkeyD p.1
  | [], _, h => by cases h; rfl
  | p :: kvs, _, h => by
    cases h with
    | cons h1 h2 => simp only [List.map_cons, repK_fstT h2]
theorem some_ne {a : Addr} {u : HO} (h : F a = some u) : F a ≠ none := by rw [h]; exact fun z => by cases z
theorem wk_keysK {H0 : Hp} {d : Addr} {o : Obj} {kvs : List (Key × V)} {kds : List (D × D)} (h : F d = some (.dK kvs)) (r : RepK K ι F (kvs.map fun p => (keyD p.1, p.2)) kds) (hl : H0 d = some (.frz o (.dK kvs))) : Wk K (Itk d o kvs) ι F H0 (kds.map (·.1)) := by
  have rr := repK_keys r
  have len : (kds.map (·.1)).length = kvs.length := by rw [← rr.length, List.length_map]
  refine ⟨fun i F1 H1 hF f k hi => ⟨k d _ (some_ne h) hl, by rw [← len]; exact hi⟩, fun i ι1 F1 H1 M1 x H2 hι hF f k m y hi => ?_, fun F1 H1 hF f k => ⟨k d _ (some_ne h) hl, by rw [len]; exact Nat.le_refl _⟩⟩
  obtain ⟨rfl, q, v, e, rfl⟩ := y
  obtain ⟨e1, e2, r1⟩ := rr.getV (i := i) (v := kV q) (by rw [List.getElem?_map, e]; rfl)
  exact ⟨e1, F1, e2, Stp.refl, f, m, r1.mono hι hF⟩
theorem wk_keysT {H0 : Hp} {d : Addr} {o : Obj} {kvs : List (List Key × V)} {kds : List (D × D)} (h : F d = some (.dT kvs)) (r : RepK K ι F (kvs.map fun p => (tkeyD p.1, p.2)) kds) (hl : H0 d = some (.frz o (.dT kvs))) : Wk K (Itkt d o kvs) ι F H0 (kds.map (·.1)) := by
  have rr := repK_fstT r
  have len : (kds.map (·.1)).length = kvs.length := by rw [rr, List.length_map]
  refine ⟨fun i F1 H1 hF f k hi => ⟨k d _ (some_ne h) hl, by rw [← len]; exact hi⟩, fun i ι1 F1 H1 M1 x H2 hι hF f k m y hi => ?_, fun F1 H1 hF f k => ⟨k d _ (some_ne h) hl, by rw [len]; exact Nat.le_refl _⟩⟩
  obtain ⟨rfl, q, v, a, e, rfl, ha⟩ := y
  obtain ⟨F2, s2, f2, m2, e2⟩ := tup_in f m ha
  exact ⟨tkeyD q, F2, by rw [rr, List.getElem?_map, e]; rfl, s2, f2, m2, .tup e2 (keyVs_rep q)⟩
def SizedD (H : Hp) : Prop := (∀ a o kvs, H a = some (.frz o (.dK kvs)) → kvs.length ≤ sizeLine) ∧ ∀ a o kvs, H a = some (.frz o (.dT kvs)) → kvs.length ≤ sizeLine
theorem PI.sizedD {X : Cx} {tg e : Expr} {t : TI} (h : PI X tg e t) : PI X tg e (fun σ H R => t σ H fun J H1 => SizedD H1 → R J H1) := by
  refine ⟨fun pins s σ H R I z => ?_⟩
  refine thn (h.run pins s σ H _ I z) fun v s1 h1 => thn h1 fun itv s2 ⟨it, fp, tn, J, H', e, I2, T, t0, f, q⟩ => ?_
  exact ⟨it, fp, tn, J, H', e, I2, T, t0, f, q ⟨fun a o xs h => let ⟨_, z, _⟩ := I2.hok a _ h; z, fun a o xs h => let ⟨_, z, _⟩ := I2.hok a _ h; z⟩⟩
/-- the dict of slot i is locked -/
def LkK (i : Nat) (σ : L2.St) (F H : Hp) (ρ : Sl) : Prop := ∃ t kds d o u, ρ[i]? = some (.fz (.dic t kds)) ∧ σ[i]? = some (some (.ref d)) ∧ F d = some u ∧ H d = some (.frz o u)
def tIk (K : PySem.W.Frag) (i : Nat) : TI := fun σ H R => ∃ ι F ρ M t kds, SR K ι F ρ M σ H ∧ ρ[i]? = some (.fz (.dic t kds)) ∧ LkK i σ F H ρ ∧ ∀ J, Wk K J ι F H (kds.map (·.1)) → (kds.map (·.1)).length ≤ sizeLine → R J H
theorem s_ikeys (w : XW P nm cl n X sc W) {i : Nat} {tg e : Expr} (h : mVar X.N sc i e = true) : PI X tg e (tIk X.K i) := by
  unfold mVar at h
  split at h
  · simp only [Bool.and_eq_true, decide_eq_true_eq] at h
    refine PI.weak (PI.sizedD (pi_keys (s_var w h.1 h.2))) fun σ H R z => ?_
    obtain ⟨ι, F, ρ, M, t, kds, r, ei, ⟨t', kds', d, o, u, ei', es, eF, eH⟩, z⟩ := z
    rw [ei] at ei'; cases ei'
    obtain ⟨v, e1, rv⟩ := r.fz i _ ei
    rw [es] at e1; cases e1
    refine ⟨.ref d, es, d, o, rfl, ?_⟩
    cases rv with
    | dic at_ rk =>
      cases t with
      | false =>
        obtain ⟨kvs, e3, rfl⟩ := at_.k
        rw [eF] at e3; cases e3
        refine .inl ⟨kvs, eH, fun sz => z _ (wk_keysK eF rk eH) ?_⟩
        have := (repK_keys rk).length
        rw [← this, List.length_map]
        exact sz.1 _ _ _ eH
      | true =>
        obtain ⟨kvs, e3, rfl⟩ := at_.t
        rw [eF] at e3; cases e3
        refine .inr ⟨kvs, eH, fun sz => z _ (wk_keysT eF rk eH) ?_⟩
        rw [repK_fstT rk, List.length_map]
        exact sz.2 _ _ _ eH
  · cases h
/-! ### locking -/
theorem FSub.lock {d : Addr} {o : Obj} {u : HO} (f : FSub F H) (e : F d = some u) (hd : isDicO u = true) : FSub F (upd H d (.frz o u)) := fun a w h => by
  by_cases ea : a = d
  · subst ea; rw [e] at h; cases h; exact .inr ⟨hd, o, upd_same⟩
  · rw [upd_ne ea]; exact f a w h
theorem MemRep.ne {M : Mem} {a b : Addr} (m : MemRep K ι F M H) (h : a ∈ ι) (e : F b ≠ none) : a ≠ b := fun z => e (by rw [← z]; exact (m.there h).2)
theorem MemRep.at_upd {M : Mem} {d : Addr} {o : HO} (m : MemRep K ι F M H) (e : F d ≠ none) : MemRep K ι F M (upd H d o) :=
  ⟨m.len, m.nd, fun n a mo h1 h2 => let ⟨q1, q2⟩ := m.at_ n a mo h1 h2; ⟨q1, q2.mono (fun _ _ h => h) (fun _ _ h => h) fun u h => by rw [upd_ne (m.ne (List.mem_of_getElem? h1) e)]; exact h⟩⟩
theorem SRO.lock {O : Addr → Prop} {d : Addr} {o : Obj} {u : HO} (r : SRO K ι F O ρ M σ H) (e : F d = some u) (hd : isDicO u = true) : SRO K ι F O ρ M σ (upd H d (.frz o u)) := by
  have ne : ∀ a, O a → a ≠ d := fun a h z => by
    have := (r.own a h).1
    rw [z, e] at this; cases this
  obtain ⟨S, h1, h2, h3⟩ := r.ow
  exact ⟨r.sub.lock e hd, r.mem.at_upd (by rw [e]; exact fun z => by cases z), r.len, r.fz, fun a h => let ⟨q1, q2, q3⟩ := r.own a h; ⟨q1, q2, q3.upd (ne a h)⟩, S, fun i m dd h => let ⟨v, q1, q2⟩ := h1 i m dd h; ⟨v, q1, q2.mono (fun _ _ h => h) (fun _ _ h => h) fun a ha => ⟨ha, fun w hw => by rw [upd_ne (ne a (h2 i a ha))]; exact hw⟩⟩, h2, h3⟩
/-- .. and what was done under the lock is done without -/
theorem Stp.unlock {ι' : List Addr} {F' H' : Hp} {M : Mem} {d : Addr} {o : Obj} {u : HO} (m : MemRep K ι F M H) (e : F d = some u) (eH : H d = some u) (s : Stp ι F (upd H d (.frz o u)) ι' F' H') : H' d = some (.frz o u) ∧ Stp ι F H ι' F' (upd H' d u) := by
  have hι : d ∉ ι := fun z => by
    have := (m.there z).2
    rw [e] at this; cases this
  have nn : ∀ a, upd H d (.frz o u) a = none ↔ H a = none := fun a => by
    by_cases ea : a = d
    · subst ea; rw [upd_same, eH]; simp
    · rw [upd_ne ea]
  refine ⟨s.keep d _ upd_same hι, ?_, s.subF, fun a l n0 e0 => ?_, fun a w h n0 => ?_, fun a h => ?_⟩
  · obtain ⟨mm, e1, e2⟩ := s.pre
    exact ⟨mm, e1, fun a ha => (nn a).mp (e2 a ha)⟩
  · have ea : a ≠ d := fun z => by rw [z, e] at e0; cases e0
    exact s.newF a (l.upd ea) n0 e0
  · by_cases ea : a = d
    · subst ea; rw [eH] at h; cases h; exact upd_same
    · rw [upd_ne ea]; exact s.keep a w (by rw [upd_ne ea]; exact h) n0
  · by_cases ea : a = d
    · subst ea; rw [upd_same]; exact fun z => by cases z
    · rw [upd_ne ea]; exact s.live a fun z => h ((nn a).mp z)
theorem FSub.unlock {d : Addr} {u : HO} (f : FSub F H) (e : F d = some u) : FSub F (upd H d u) := fun a w h => by
  by_cases ea : a = d
  · subst ea; rw [e] at h; cases h; exact .inl upd_same
  · rw [upd_ne ea]; exact f a w h
theorem isDic_mut {u : HO} (h : isDicO u = true) : Mut (some u) := by
  cases u <;> first | (cases h; done) | trivial
/-! ### comprehensions -/
theorem out_upd {D : Addr} {o : HO} (f : FSub F H) (m : MemRep K ι F M H) (hF : F D = none) (hi : D ∉ ι) : FSub F (upd H D o) ∧ MemRep K ι F M (upd H D o) := by
  have ne : ∀ a u, F a = some u → a ≠ D := fun a u h => ne_of_none h hF
  refine ⟨fun a u h => by rw [upd_ne (ne a u h)]; exact f a u h, m.len, m.nd, fun k a mo h1 h2 => ?_⟩
  obtain ⟨q, r⟩ := m.at_ k a mo h1 h2
  have na : a ≠ D := fun e => hi (by rw [← e]; exact List.mem_of_getElem? h1)
  exact ⟨q, r.mono (fun _ _ h => h) (fun _ _ h => h) fun u h => by rw [upd_ne na]; exact h⟩
/-- what stands at a place of its own is left -/
theorem Stp.own {ι1 : List Addr} {F1 H1 : Hp} {D : Addr} {o : HO} (s : Stp ι F H ι1 F1 H1) (h : H D = some o) (hF : F D = none) (hi : D ∉ ι) (l : ldO o = true := by rfl) : H1 D = some o ∧ F1 D = none ∧ D ∉ ι1 :=
  ⟨s.keep D o h hi, s.newF D ⟨⟨o, h, l⟩⟩ hi hF, s.nin hi (by rw [h]; exact fun z => by cases z)⟩
theorem Stp.upd {ι1 : List Addr} {F1 H1 : Hp} {D : Addr} {o : HO} (s : Stp ι F H ι1 F1 H1) (hD : H D = none) : Stp ι F H ι1 F1 (L2.upd H1 D o) := by
  refine ⟨s.pre, s.subF, s.newF, fun a u h n => ?_, fun a h => ?_⟩
  · rw [upd_ne (ne_of_none h hD)]; exact s.keep a u h n
  · by_cases e : a = D
    · subst e; exact absurd hD h
    · rw [upd_ne e]; exact s.live a h
def compF (c : Cfg) (elt : Ex) (p : Pt) (conds : List Ex) (own : List Nat) (ρ : Sl) : D → Mem → R (Option D) := fun d M3 => match bindP p d (killS ρ own) with
  | some ρ' => (evAll c conds ρ' M3).bind fun b M4 => if b = true then (evE c elt ρ' M4).bind fun y M5 => .ok (some y) M5 else .ok none M4
  | none => .st
theorem compL_cons_ok {α : Type} {f : D → Mem → R (Option α)} {d : D} {ds : List D} {M M3 : Mem} {rs : List α} (h : compL f (d :: ds) M = .ok rs M3) : ∃ o M1 r, f d M = .ok o M1 ∧ compL f ds M1 = .ok r M3 ∧ rs = (match o with | some y => y :: r | none => r) := by
  simp only [compL] at h
  cases e1 : f d M with
  | ok o M1 =>
    rw [e1, R.bind_ok] at h
    cases e2 : compL f ds M1 with
    | ok r M2 => rw [e2, R.bind_ok] at h; cases h; exact ⟨o, M1, r, rfl, e2, rfl⟩
    | ex _ _ => rw [e2] at h; cases h
    | st => rw [e2] at h; cases h
  | ex _ _ => rw [e1] at h; cases h
  | st => rw [e1] at h; cases h
/-- all of a comprehension but its own syntax -/
structure CompAt (K : PySem.W.Frag) (c : Cfg) (f : D → Mem → R (Option D)) (items : List D) (rs : List D) (M3 : Mem) (ι2 : List Addr) (F2 H2 : Hp) (D : Addr) (i : Nat) (H : Hp) : Prop where
  ex : ∃ ι F Mi vs acc rest, Stp ι2 F2 H2 ι F H ∧ FSub F H ∧ MemRep K ι F Mi H ∧ H D = some (.lst vs) ∧ Reps K ι F vs acc ∧ F D = none ∧ D ∉ ι ∧ acc.length ≤ i ∧ compL f (items.drop i) Mi = .ok rest M3 ∧ acc ++ rest = rs
theorem comp_run {elt : Ex} {p : Pt} {conds : List Ex} {own : List Nat} {items rs : List D} {M3 : Mem} {ι2 : List Addr} {F2 H2 : Hp} {J : It} {D : Addr} {Q : VK} {Mz : Mem} {te : TE} {tt : TT}
    (r : SR K ι2 F2 ρ Mz σ H2) (wk : Wk K J ι2 F2 H2 items) (hl : items.length ≤ sizeLine) (hD : H2 D = none) (he : compL (compF c elt p conds own ρ) items Mz = .ok rs M3) (hp : ∀ i ∈ ptV p, i ∈ own)
    (hte : ∀ σ H Q, tE K cl (fun _ _ _ _ => False) (evE c elt) σ H Q → te σ H Q) (htt : ∀ σ H Q, tT K cl (fun _ _ _ _ => False) (evAll c conds) σ H Q → tt σ H Q)
    (q : ∀ ι' F' H', Stp ι2 F2 H2 ι' F' H' → FSub F' H' → MemRep K ι' F' M3 H' → OwRep K ι' F' H' D (.lst rs) → F' D = none → D ∉ ι' → H2 D = none → Q (.ref D) H') :
    ∃ W : Nat → Nat → Hp → Prop, (∃ m, W 0 m (upd H2 D (.lst []))) ∧ ∀ i m H, W i m H →
      (J.stop i H ∧ Q (.ref D) H) ∨ (J.go i H ∧ ∃ Nx : Hp → Prop, (∀ H', Nx H' → ∃ m', m' < m ∧ W (i + 1) m' H') ∧ ∀ x H', J.yld i H x H' → tG K p x (wipe σ own) H' fun σ2 H2 => wipe σ2 own = wipe σ own ∧ tt σ2 H2 fun b H3 =>
        if b = true then te σ2 H3 fun y H4 => ∃ acc, H4 D = some (.lst acc) ∧ acc.length < sizeLine ∧ Nx (upd H4 D (.lst (acc ++ [y]))) else Nx H3) := by
  have hF2 : F2 D = none := by
    cases e : F2 D with
    | none => rfl
    | some u => exact absurd hD (r.sub.isSome e)
  have hi2 : D ∉ ι2 := fun h => (r.mem.there h).1 hD
  refine ⟨fun i m H => m = items.length - i ∧ i ≤ items.length ∧ CompAt K c (compF c elt p conds own ρ) items rs M3 ι2 F2 H2 D i H, ⟨items.length, rfl, Nat.zero_le _, ?_⟩, ?_⟩
  · obtain ⟨a1, a2⟩ := out_upd (o := .lst []) r.sub r.mem hF2 hi2
    exact ⟨ι2, F2, Mz, [], [], rs, Stp.refl.upd hD, a1, a2, upd_same, .nil, hF2, hi2, Nat.le_refl _, by simpa using he, rfl⟩
  · rintro i m H ⟨rfl, hi, ⟨ι, F, Mi, vs, acc, rest, st, f, mr, hd, hv, hF, hn, ha, hc, er⟩⟩
    by_cases hlt : i < items.length
    · refine .inr ⟨wk.go i F H st.subF f (st.kp r.mem) hlt, fun H' => CompAt K c (compF c elt p conds own ρ) items rs M3 ι2 F2 H2 D (i + 1) H', fun H' h => ⟨items.length - (i + 1), by omega, rfl, by omega, h⟩, fun x H' y => ?_⟩
      obtain ⟨d, F', e1, s1, f1, m1, rx⟩ := wk.yld i ι F H Mi x H' st.ix st.subF f (st.kp r.mem) mr y hlt
      obtain ⟨d1, d2, d3⟩ := s1.own hd hF hn
      have edrop : items.drop i = d :: items.drop (i + 1) := by
        rw [List.drop_eq_getElem_cons hlt]
        rw [List.getElem?_eq_getElem hlt] at e1
        cases e1; rfl
      rw [edrop] at hc
      obtain ⟨o, M1, rr, c1, c2, c3⟩ := compL_cons_ok hc
      unfold compF at c1
      split at c1
      · rename_i ρ' eb
        obtain ⟨O, r1⟩ : SR K ι F' ρ Mi σ H' := (r.step st f mr).step s1 f1 m1
        refine ⟨ι, F', O, killS ρ own, Mi, d, ρ', r1.wipe own, rx, eb, fun σ' r2 out => ⟨out.wipe hp, htt _ _ _ ⟨ι, F', ρ', Mi, ⟨O, r2⟩, ?_⟩⟩⟩
        cases ec : evAll c conds ρ' Mi with
        | ok b M4 =>
          rw [ec, R.bind_ok] at c1
          intro ι4 F4 H4 s4 f4 m4
          obtain ⟨g1, g2, g3⟩ := s4.own d1 d2 d3
          cases b with
          | true =>
            rw [if_pos rfl] at c1 ⊢
            refine hte _ _ _ ⟨ι4, F4, ρ', M4, ⟨O, r2.step s4 f4 m4⟩, ?_⟩
            cases ee : evE c elt ρ' M4 with
            | ok y M5 =>
              rw [ee, R.bind_ok] at c1
              cases c1
              intro ι5 F5 H5 s5 f5 m5 v hv5
              obtain ⟨k1, k2, k3⟩ := s5.own g1 g2 g3
              have hvs : Reps K ι5 F5 vs acc := s5.reps (s4.reps (s1.reps hv))
              refine ⟨vs, k1, by rw [hvs.length]; omega, ?_⟩
              obtain ⟨a1, a2⟩ := out_upd (o := .lst (vs ++ [v])) f5 m5 k2 k3
              exact ⟨ι5, F5, M1, vs ++ [v], acc ++ [y], rr, (((st.trans s1).trans s4).trans s5).upd hD, a1, a2, upd_same, hvs.append (.cons hv5 .nil), k2, k3, by simp; omega, c2, by rw [← er, c3]; simp⟩
            | ex _ _ => rw [ee] at c1; cases c1
            | st => rw [ee] at c1; cases c1
          | false =>
            rw [if_neg (by decide)] at c1 ⊢
            cases c1
            exact ⟨ι4, F4, M1, vs, acc, rr, (st.trans s1).trans s4, f4, m4, g1, s4.reps (s1.reps hv), g2, g3, by omega, c2, by rw [← er, c3]⟩
        | ex _ _ => rw [ec] at c1; cases c1
        | st => rw [ec] at c1; cases c1
      · cases c1
    · have e : i = items.length := by omega
      subst e
      refine .inl ⟨wk.stop F H st.subF f (st.kp r.mem), ?_⟩
      rw [List.drop_length] at hc
      simp only [compL] at hc
      cases hc
      rw [List.append_nil] at er
      subst er
      exact q ι F H st f mr ⟨vs, hd, hv⟩ hF hn hD
end
end
end VL

/-! V6: all expressions -/
namespace VL
open PySem PySem.Spec PyProof.Rows L2
section
variable {P : Prog} {nm : Nms} {cl : Nat → Value} {n : Nat}
theorem lookup_relS_free {sc : Scope} : ∀ {names : List (Str × NameKind)} {x : Str}, names.lookup x = some .free →
    (names.map fun (n, k) => if (k == NameKind.free && sc.kind == .function && sc.names.lookup n == some .cell) then (n, NameKind.cell) else (n, k)).lookup x = some .cell ∨
    (names.map fun (n, k) => if (k == NameKind.free && sc.kind == .function && sc.names.lookup n == some .cell) then (n, NameKind.cell) else (n, k)).lookup x = some .free
  | [], _, h => by simp at h
  | (n, k₀) :: r, x, h => by
    have ih := @lookup_relS_free sc r x
    show List.lookup x ((if (k₀ == NameKind.free && sc.kind == .function && sc.names.lookup n == some .cell) = true then (n, NameKind.cell) else (n, k₀)) :: (r.map _)) = some .cell ∨ List.lookup x ((if (k₀ == NameKind.free && sc.kind == .function && sc.names.lookup n == some .cell) = true then (n, NameKind.cell) else (n, k₀)) :: (r.map _)) = some .free
    cases hx : x == n with
    | true =>
      simp only [List.lookup_cons, hx] at h
      cases h
      split
      · exact .inl (by simp only [List.lookup_cons, hx])
      · exact .inr (by simp only [List.lookup_cons, hx])
    | false =>
      simp only [List.lookup_cons, hx] at h
      split <;> (simp only [List.lookup_cons, hx]; exact ih h)
theorem XW.blk {X : Cx} {sc scope : Scope} {W : WXX} (w : XW P nm cl n X sc W) (s : Shared) (H : Hp) (C : Addr) (cs : List (Str × Addr)) (fp : List Addr) :
    XW P nm cl n (X.blk s H scope (compEnvC scope cs C X.env) fp) scope (fun _ _ _ _ => False) where
  tk := takes0
  calm := w.calm
  nd := w.nd
  room := w.room
  names := fun x k h hk => lookup_relS_keep hk h
  free := fun x h => lookup_relS_free h
  fnc := fun x h => by show (scope.names.lookup x == some .cell) = true; rw [h]; rfl
  fx := w.fx
theorem blk_ok {X : Cx} {sc scope : Scope} {W : WXX} {own : List (Str × Nat)} (w : XW P nm cl n X sc W) (h : blkC X.N sc scope own = true) : BlkOk X.N X.env.scope scope own := by
  have b := blkOk_by h
  refine ⟨b.kind, b.uniq, b.ix, fun y hy e => ?_, b.own⟩
  rcases b.free y hy e with z | z
  · exact .inl (w.names _ _ z (by decide))
  · exact w.free _ z
variable {W : WXX} {X : Cx} {sc : Scope}
def ttOf (K : PySem.W.Frag) (cl : Nat → Value) (W : WXX) (c : Cfg) : List Ex → TT
  | [] => tYes
  | x :: _ => tT K cl W (evT c x)
theorem s_pts {c : Cfg} {conds : List Ex} {ifs : List Expr} (hl : conds.length ≤ 1) (hi : conds.length = ifs.length) (h : ∀ x e, conds = [x] → ifs = [e] → PT X e (tT X.K cl W (evT c x))) : PTs X ifs (ttOf X.K cl W c conds) := by
  cases conds with
  | nil =>
    cases ifs with
    | cons _ _ => simp at hi
    | nil => exact pts_nil
  | cons x xs =>
    cases xs with
    | cons _ _ => simp at hl
    | nil =>
      cases ifs with
      | nil => simp at hi
      | cons e es =>
        cases es with
        | cons _ _ => simp at hi
        | nil => exact pts_one (h x e rfl rfl)
theorem tt_imp {K : PySem.W.Frag} {c : Cfg} {conds : List Ex} (hl : conds.length ≤ 1) (σ : L2.St) (H : Hp) (Q : Bool → Hp → Prop) (z : tT K cl W (evAll c conds) σ H Q) : ttOf K cl W c conds σ H Q := by
  cases conds with
  | nil =>
    obtain ⟨ι, F, ρ, M, r, z⟩ := z
    simp only [evAll] at z
    exact Res.of_ok z r.sub r.mem
  | cons x xs =>
    cases xs with
    | cons _ _ => simp at hl
    | nil =>
      obtain ⟨ι, F, ρ, M, r, z⟩ := z
      refine ⟨ι, F, ρ, M, r, ?_⟩
      simp only [evAll] at z
      unfold evT
      have key : Res K cl W ι F σ H ((evE c x ρ M).bind fun d M1 => VL.R.of (truth d) M1) fun b _ _ _ H' => Q b H' := by
        cases ee : evE c x ρ M with
        | ok d M1 =>
          rw [ee] at z
          rw [R.bind_ok] at z ⊢
          cases et : truth d with
          | none => rw [et] at z; exact z.elim
          | some t =>
            rw [et] at z
            cases t with
            | true => exact z
            | false => exact z
        | ex c' M1 => rw [ee] at z; exact z
        | st => rw [ee] at z; exact z.elim
      exact key
theorem set_ok {e : Expr} {env : Env} (h : ∀ a b c, e ≠ .Set a b c) : ∀ x, foldedSetIterable e env x = pure x := by
  intro x
  cases e <;> first | rfl | exact absurd rfl (h _ _ _)
/-- the two sides of an expression: as a value, as a test -/
def SE (P : Prog) (n : Nat) (cl : Nat → Value) (W : WXX) (X : Cx) (x : Ex) (e : Expr) : Prop :=
  PE X e (tE X.K cl W (evE (cfgN P n) x)) ∧ (tstB x = true → PT X e (tT X.K cl W (evT (cfgN P n) x)))
theorem SE.rd (w : XW P nm cl n X sc W) {x : Ex} {e : Expr} (h : PE X e (tE X.K cl W (evE (cfgN P n) x))) (hm : mE X.N nm x sc e = true) : PE X e (tRd X.K cl W fun ρ M => evE (cfgN P n) x ρ M) := s_toR h
theorem SE.plain (w : XW P nm cl n X sc W) {x : Ex} {e : Expr} (h : PE X e (tE X.K cl W (evE (cfgN P n) x))) (hm : mE X.N nm x sc e = true) (hp : ∀ whole, isTrue e X.env whole = (do let v ← whole; standAt e.pos; holding [v] (truthy v))) : SE P n cl W X x e :=
  ⟨h, fun _ => s_tplain (SE.rd w h hm) hp⟩
theorem evT_not {c : Cfg} {x : Ex} {ρ : Sl} {M : Mem} : evT c (.not x) ρ M = (evT c x ρ M).bind fun b M1 => .ok (!b) M1 := by
  unfold evT
  simp only [evE, R.bind_assoc]
  congr 1
theorem evT_other {c : Cfg} {x : Ex} {ρ : Sl} {M : Mem} (h : ∀ i, x ≠ .var i) : evT c x ρ M = (evE c x ρ M).bind fun d M1 => R.of (truth d) M1 := rfl
theorem PE.cong {e : Expr} {ra rb : Sl → Mem → VL.R D} (h : PE X e (tE X.K cl W ra)) (q : ∀ ρ M, rb ρ M = ra ρ M) : PE X e (tE X.K cl W rb) := by
  have : rb = ra := by funext ρ M; exact q ρ M
  rw [this]; exact h
theorem PT.cong {e : Expr} {ra rb : Sl → Mem → VL.R Bool} (h : PT X e (tT X.K cl W ra)) (q : ∀ ρ M, rb ρ M = ra ρ M) : PT X e (tT X.K cl W rb) := by
  have : rb = ra := by funext ρ M; exact q ρ M
  rw [this]; exact h
theorem PW.cong {e : Expr} {ra rb : Sl → Mem → VL.R Bool} (h : PW X e (tT X.K cl W ra)) (q : ∀ ρ M, rb ρ M = ra ρ M) : PW X e (tT X.K cl W rb) := by
  have : rb = ra := by funext ρ M; exact q ρ M
  rw [this]; exact h
theorem PA.cong {e : List Expr} {ra rb : Sl → Mem → VL.R (List D)} (h : PA X e (tA X.K cl W ra)) (q : ∀ ρ M, rb ρ M = ra ρ M) : PA X e (tA X.K cl W rb) := by
  have : rb = ra := by funext ρ M; exact q ρ M
  rw [this]; exact h
theorem PA.congR {e : List Expr} {ra rb : Sl → Mem → VL.R (List D)} (h : PA X e (tAR X.K cl W ra)) (q : ∀ ρ M, rb ρ M = ra ρ M) : PA X e (tAR X.K cl W rb) := by
  have : rb = ra := by funext ρ M; exact q ρ M
  rw [this]; exact h
theorem PI.cong {tg e : Expr} {ra rb : Sl → Mem → VL.R (List D)} (h : PI X tg e (tI X.K cl W ra)) (q : ∀ ρ M, rb ρ M = ra ρ M) : PI X tg e (tI X.K cl W rb) := by
  have : rb = ra := by funext ρ M; exact q ρ M
  rw [this]; exact h
theorem mEs_len {N : List Str} : ∀ {xs : List Ex} {es : List Expr}, mEs N nm xs sc es = true → xs.length = es.length
  | [], [], _ => rfl
  | [], _ :: _, h => by simp [mEs] at h
  | _ :: _, [], h => by simp [mEs] at h
  | x :: xs, e :: es, h => by
    simp only [mEs, Bool.and_eq_true] at h
    simp [mEs_len h.2]
/-- a new list or dict, not yet settled -/
def tL (K : PySem.W.Frag) (cl : Nat → Value) (W : WXX) (r : Sl → Mem → VL.R D) : TE := fun σ H Q => ∃ ι F ρ M, SR K ι F ρ M σ H ∧ Res K cl W ι F σ H (r ρ M) fun d _ ι' F' H' => ∀ p, OwRep K ι' F' H' p d → F' p = none → p ∉ ι' → H p = none → Q (.ref p) H'
theorem tL_of {K : PySem.W.Frag} {r : Sl → Mem → VL.R D} {σ : L2.St} {H : Hp} {Q : VK} (z : tE K cl W r σ H Q) : tL K cl W r σ H Q := by
  obtain ⟨ι, F, ρ, M, sr, z⟩ := z
  refine ⟨ι, F, ρ, M, sr, ?_⟩
  cases e : r ρ M with
  | st => rw [e] at z; exact z
  | ex c M' => rw [e] at z; exact z
  | ok d M' =>
    rw [e] at z
    intro ι' F' H' s f m p o hF hn hp
    obtain ⟨u, hu⟩ : ∃ u, H' p = some u := by
      cases e : H' p with
      | none => exact absurd e o.isSome
      | some u => exact ⟨u, rfl⟩
    have mono : ∀ b w, F' b = some w → upd F' p u b = some w := fun b w hb => by rw [upd_ne (ne_of_none hb hF)]; exact hb
    refine z ι' (upd F' p u) H' ⟨s.pre, fun a w h => mono _ _ (s.subF a w h), fun a h n e => ?_, s.keep, s.live⟩ (fun b w hb => ?_) ⟨m.len, m.nd, fun k b mo h1 h2 => ?_⟩ (.ref p) ?_
    · rw [upd_ne fun z => h.ne (by rw [z]; exact hp)]; exact s.newF a h n e
    · by_cases eb : b = p
      · subst eb; rw [upd_same] at hb; cases hb; exact .inl hu
      · rw [upd_ne eb] at hb; exact f b w hb
    · obtain ⟨q1, q2⟩ := m.at_ k b mo h1 h2
      have nb : b ≠ p := fun e => hn (by rw [← e]; exact List.mem_of_getElem? h1)
      exact ⟨by rw [upd_ne nb]; exact q1, q2.mono (fun _ _ h => h) mono fun _ h => h⟩
    · cases d with
      | lst ds =>
        obtain ⟨vs, z, rr⟩ := o
        rw [hu] at z; cases z
        exact .lst (.inl (.inl upd_same)) (rr.mono (fun _ _ h => h) mono)
      | dic t kds =>
        obtain ⟨l, z, rr⟩ := o
        refine .dic (l := l) ?_ (rr.mono (fun _ _ h => h) mono)
        cases t <;> (obtain ⟨k, z, e⟩ := z; rw [hu] at z; cases z; exact ⟨k, upd_same, e⟩)
      | _ => exact o.elim
def tLL (K : PySem.W.Frag) (cl : Nat → Value) (W : WXX) (Lk : L2.St → Hp → Hp → Sl → Prop) (r : Sl → Mem → VL.R D) : TE := fun σ H Q => ∃ ι F ρ M, SR K ι F ρ M σ H ∧ Lk σ F H ρ ∧ Res K cl W ι F σ H (r ρ M) fun d _ ι' F' H' => ∀ p, OwRep K ι' F' H' p d → F' p = none → p ∉ ι' → H p = none → Q (.ref p) H'
/-- a comprehension, its parts being served -/
theorem s_compPartsL (w : XW P nm cl n X sc W) {c : Cfg} {elt : Ex} {p : Pt} {conds : List Ex} {own : List Nat} {k : ItK} {args : List Ex} {ee tg iter : Expr} {ifs : List Expr} {scope : Scope} {wi : TI} (Lk : L2.St → Hp → Hp → Sl → Prop)
    (hb : blkC X.N sc scope (own.map fun i => (X.N.getD i "", i)) = true) (hp : mP X.N scope p tg = true) (hpo : (ptV p).all (fun i => own.contains i) = true) (hset : ∀ a b c, iter ≠ .Set a b c)
    (hi : PI X tg iter wi)
    (hwi : ∀ σ H R, (∃ ι F ρ M, SR X.K ι F ρ M σ H ∧ Lk σ F H ρ ∧ Res X.K cl W ι F σ H ((evEs c args ρ M).bind fun ds M1 => VL.R.of (itD k ds) M1) fun ds _ ι' F' H' => ∀ J, Wk X.K J ι' F' H' ds → ds.length ≤ sizeLine → R J H') → wi σ H R) (hcl : conds.length ≤ 1) (hcl2 : conds.length = ifs.length)
    (he : ∀ (X' : Cx), X'.N = X.N → X'.K = X.K → XW P nm cl n X' scope (fun _ _ _ _ => False) → PE X' ee (tE X'.K cl (fun _ _ _ _ => False) (evE c elt)))
    (hc : ∀ (X' : Cx), X'.N = X.N → X'.K = X.K → XW P nm cl n X' scope (fun _ _ _ _ => False) → ∀ x e, conds = [x] → ifs = [e] → PT X' e (tT X'.K cl (fun _ _ _ _ => False) (evT c x))) :
    ∃ t : TE, (∀ pos, PE X (.ListComp ee [⟨tg, iter, ifs, 0⟩] scope pos) t) ∧
      (∀ {i : Nat} {y : Str} {py pos spos : Pos}, X.N[i]? = some y → X.env.scope.names.lookup y = some .local → swapsWith (.ListComp ee [⟨tg, iter, ifs, 0⟩] scope pos) (some (.Name y py)) spos.line X.env = pure true → PS X (.Assign [.Name y py] (.ListComp ee [⟨tg, iter, ifs, 0⟩] scope pos) spos) (tAsg t (gName i))) ∧
      ∀ σ H Q, tLL X.K cl W Lk (evE c (.comp elt p k args conds own)) σ H Q → t σ H Q := by
  have eown : (own.map fun i => (X.N.getD i "", i)).map (·.2) = own := by rw [List.map_map]; exact List.map_id' own
  have hw := fun s H C cs fp => w.blk (scope := scope) s H C cs fp
  have hpts : ∀ (s : Shared) (H : Hp) (C : Addr) (cs : List (Str × Addr)) (fp : List Addr), PTs (X.blk s H scope (compEnvC scope cs C X.env) fp) ifs (ttOf X.K cl (fun _ _ _ _ => False) c conds) := fun s H C cs fp =>
    s_pts (X := X.blk s H scope (compEnvC scope cs C X.env) fp) (W := fun _ _ _ _ => False) hcl hcl2 (hc _ rfl rfl (hw s H C cs fp))
  refine ⟨tLc wi (tG X.K p) (ttOf X.K cl (fun _ _ _ _ => False) c conds) (tE X.K cl (fun _ _ _ _ => False) (evE c elt)) own, fun pos => ?_, fun {i y py pos spos} h1 h2 h3 => ?_, fun σ H Q z => ?_⟩
  · have base := pe_lc (X := X) (elt := ee) (tg := tg) (iter := iter) (ifs := ifs) (scope := scope) (pos := pos) (own := own.map fun i => (X.N.getD i "", i)) (g := tG X.K p) (tt := ttOf X.K cl (fun _ _ _ _ => False) c conds) (te := tE X.K cl (fun _ _ _ _ => False) (evE c elt)) w.calm w.nd hi (blk_ok w hb)
      (fun s H C cs fp => s_pat (hw s H C cs fp) hp) hpts (fun s H C cs fp => he _ rfl rfl (hw s H C cs fp)) (set_ok hset)
    rw [eown] at base
    exact base
  · have base := ps_setLc (X := X) (elt := ee) (tg := tg) (iter := iter) (ifs := ifs) (scope := scope) (pos := pos) (spos := spos) (own := own.map fun i => (X.N.getD i "", i)) (g := tG X.K p) (tt := ttOf X.K cl (fun _ _ _ _ => False) c conds) (te := tE X.K cl (fun _ _ _ _ => False) (evE c elt)) w.calm w.nd h1 h2 h3 hi (blk_ok w hb)
      (fun s H C cs fp => s_pat (hw s H C cs fp) hp) hpts (fun s H C cs fp => he _ rfl rfl (hw s H C cs fp)) (set_ok hset)
    rw [eown] at base
    exact base
  obtain ⟨ι, F, ρ, M, r, lk, z⟩ := z
  have z : Res X.K cl W ι F σ H (((evEs c args ρ M).bind fun ds M1 => R.of (itD k ds) M1).bind fun items M2 => ((compL (compF c elt p conds own ρ) items M2).nox).bind fun rs M3 => VL.R.ok (D.lst rs) M3) (fun d _ ι' F' H' => ∀ p, OwRep X.K ι' F' H' p d → F' p = none → p ∉ ι' → H p = none → Q (.ref p) H') := by
    rw [R.bind_assoc]
    simp only [evE] at z
    exact z
  refine hwi _ _ _ ⟨ι, F, ρ, M, r, lk, Res.imp (Res.bind z) fun items M2 ι2 F2 H2 s2 f2 m2 q J wk hl D hD => ?_⟩
  cases e : compL (compF c elt p conds own ρ) items M2 with
  | ok rs M3 =>
    rw [e] at q
    refine comp_run (r.step s2 f2 m2) wk hl hD e (fun i hi => by
      have := List.all_eq_true.mp hpo i hi
      simpa using this) (fun _ _ _ z => z) (tt_imp hcl) fun ι' F' H' s f m o hF hn _ => ?_
    refine q ι' F' H' s f m D o hF hn ?_
    by_cases hh : H D = none
    · exact hh
    · exact absurd hD (s2.live D hh)
  | ex _ _ => rw [e] at q; exact q.elim
  | st => rw [e] at q; exact q.elim
theorem s_compParts (w : XW P nm cl n X sc W) {c : Cfg} {elt : Ex} {p : Pt} {conds : List Ex} {own : List Nat} {k : ItK} {args : List Ex} {ee tg iter : Expr} {ifs : List Expr} {scope : Scope} {ri : Sl → Mem → VL.R (List D)}
    (hb : blkC X.N sc scope (own.map fun i => (X.N.getD i "", i)) = true) (hp : mP X.N scope p tg = true) (hpo : (ptV p).all (fun i => own.contains i) = true) (hset : ∀ a b c, iter ≠ .Set a b c)
    (hi : PI X tg iter (tI X.K cl W ri)) (hri : ∀ ρ M, ri ρ M = (evEs c args ρ M).bind fun ds M1 => R.of (itD k ds) M1) (hcl : conds.length ≤ 1) (hcl2 : conds.length = ifs.length)
    (he : ∀ (X' : Cx), X'.N = X.N → X'.K = X.K → XW P nm cl n X' scope (fun _ _ _ _ => False) → PE X' ee (tE X'.K cl (fun _ _ _ _ => False) (evE c elt)))
    (hc : ∀ (X' : Cx), X'.N = X.N → X'.K = X.K → XW P nm cl n X' scope (fun _ _ _ _ => False) → ∀ x e, conds = [x] → ifs = [e] → PT X' e (tT X'.K cl (fun _ _ _ _ => False) (evT c x))) :
    ∃ t : TE, (∀ pos, PE X (.ListComp ee [⟨tg, iter, ifs, 0⟩] scope pos) t) ∧
      (∀ {i : Nat} {y : Str} {py pos spos : Pos}, X.N[i]? = some y → X.env.scope.names.lookup y = some .local → swapsWith (.ListComp ee [⟨tg, iter, ifs, 0⟩] scope pos) (some (.Name y py)) spos.line X.env = pure true → PS X (.Assign [.Name y py] (.ListComp ee [⟨tg, iter, ifs, 0⟩] scope pos) spos) (tAsg t (gName i))) ∧
      ∀ σ H Q, tL X.K cl W (evE c (.comp elt p k args conds own)) σ H Q → t σ H Q := by
  obtain ⟨t, h1, h2, h3⟩ := s_compPartsL (cl := cl) (W := W) (c := c) (elt := elt) (args := args) (k := k) w (fun _ _ _ _ => True) hb hp hpo hset hi (fun σ H R ⟨ι, F, ρ, M, r, _, z⟩ => ⟨ι, F, ρ, M, r, by rw [hri]; exact z⟩) hcl hcl2 he hc
  exact ⟨t, h1, h2, fun σ H Q ⟨ι, F, ρ, M, r, z⟩ => h3 σ H Q ⟨ι, F, ρ, M, r, trivial, z⟩⟩
theorem PS.or {st : Stmt} {t t' : TS} (h : PS X st t) (h' : PS X st t') : PS X st (fun D σ H => t D σ H ∨ t' D σ H) :=
  ⟨fun pins s σ H Q I z => z.elim (fun z => h.run pins s σ H Q I z) fun z => h'.run pins s σ H Q I z⟩
theorem PE.or {e : Expr} {t t' : TE} (h : PE X e t) (h' : PE X e t') : PE X e (fun D σ H => t D σ H ∨ t' D σ H) :=
  ⟨fun pins s σ H Q I z => z.elim (fun z => h.run pins s σ H Q I z) fun z => h'.run pins s σ H Q I z⟩
/-- slot i's dict: locked already, or to be locked -/
theorem dic_lock {K : PySem.W.Frag} {ι : List Addr} {F H : Hp} {ρ : Sl} {M : Mem} {σ : L2.St} {i : Nat} {t : Bool} {kds : List (D × D)} (r : SR K ι F ρ M σ H) (e : ρ[i]? = some (.fz (.dic t kds))) :
    LkK i σ F H ρ ∨ ∃ d u, σ[i]? = some (some (.ref d)) ∧ F d = some u ∧ H d = some u ∧ isDicO u = true := by
  obtain ⟨v, e1, rv⟩ := r.fz i _ e
  cases rv with
  | dic at_ rk =>
    rename_i a l
    obtain ⟨u, hu, hd⟩ : ∃ u, F a = some u ∧ isDicO u = true := by
      cases t <;> (obtain ⟨k, z, _⟩ := at_; exact ⟨_, z, rfl⟩)
    rcases r.sub a u hu with z | ⟨_, o, z⟩
    · exact .inr ⟨a, u, e1, hu, z, hd⟩
    · exact .inl ⟨t, kds, a, o, u, e, e1, hu, z⟩
theorem OwRep.upd {K : PySem.W.Frag} {ι : List Addr} {F H : Hp} {a d : Addr} {o : HO} {x : D} (h : OwRep K ι F H a x) (n : a ≠ d) : OwRep K ι F (L2.upd H d o) a x := h.mono (fun _ _ h => h) (fun _ _ h => h) fun u e => by rw [upd_ne n]; exact e
theorem evE_compK {c : Cfg} {elt : Ex} {p : Pt} {conds : List Ex} {own : List Nat} {j : Nat} {ρ : Sl} {M : Mem} : evE c (.comp elt p .keys [.var j] conds own) ρ M = (match ρ[j]? with
    | some (.fz (.dic _ kds)) => ((compL (compF c elt p conds own ρ) (kds.map (·.1)) M).nox).bind fun r M3 => .ok (.lst r) M3
    | _ => .st) := by
  rw [evE]
  simp only [evEs, evE]
  cases h : ρ[j]? with
  | none => rfl
  | some s =>
    cases s with
    | un => rfl
    | ow _ _ => rfl
    | fz d => cases d <;> rfl
/-- a comprehension over a dict -/
theorem s_compK (w : XW P nm cl n X sc W) {c : Cfg} {elt : Ex} {p : Pt} {conds : List Ex} {own : List Nat} {j : Nat} {ee tg iter : Expr} {ifs : List Expr} {scope : Scope}
    (hb : blkC X.N sc scope (own.map fun i => (X.N.getD i "", i)) = true) (hp : mP X.N scope p tg = true) (hpo : (ptV p).all (fun i => own.contains i) = true)
    (hi : mVar X.N sc j iter = true) (hcl : conds.length ≤ 1) (hcl2 : conds.length = ifs.length)
    (he : ∀ (X' : Cx), X'.N = X.N → X'.K = X.K → XW P nm cl n X' scope (fun _ _ _ _ => False) → PE X' ee (tE X'.K cl (fun _ _ _ _ => False) (evE c elt)))
    (hc : ∀ (X' : Cx), X'.N = X.N → X'.K = X.K → XW P nm cl n X' scope (fun _ _ _ _ => False) → ∀ x e, conds = [x] → ifs = [e] → PT X' e (tT X'.K cl (fun _ _ _ _ => False) (evT c x))) :
    ∃ t : TE, (∀ pos, PE X (.ListComp ee [⟨tg, iter, ifs, 0⟩] scope pos) t) ∧
      (∀ {i : Nat} {y : Str} {py pos spos : Pos}, X.N[i]? = some y → X.env.scope.names.lookup y = some .local → swapsWith (.ListComp ee [⟨tg, iter, ifs, 0⟩] scope pos) (some (.Name y py)) spos.line X.env = pure true → PS X (.Assign [.Name y py] (.ListComp ee [⟨tg, iter, ifs, 0⟩] scope pos) spos) (tAsg t (gName i))) ∧
      ∀ σ H Q, tL X.K cl W (evE c (.comp elt p .keys [.var j] conds own)) σ H Q → t σ H Q := by
  have hwi : ∀ σ H (Rr : It → Hp → Prop), (∃ ι F ρ M, SR X.K ι F ρ M σ H ∧ LkK j σ F H ρ ∧ Res X.K cl W ι F σ H ((evEs c [.var j] ρ M).bind fun ds M1 => VL.R.of (itD .keys ds) M1) fun ds _ ι' F' H' => ∀ J, Wk X.K J ι' F' H' ds → ds.length ≤ sizeLine → Rr J H') → tIk X.K j σ H Rr := fun σ H Rr ⟨ι, F, ρ, M, r, lk, z⟩ => by
    obtain ⟨t, kds, d, o, u, e1, e2, e3, e4⟩ := id lk
    refine ⟨ι, F, ρ, M, t, kds, r, e1, lk, ?_⟩
    simp only [evEs, evE, e1, VL.R.bind_ok, itD] at z
    exact Res.of_ok z r.sub r.mem
  obtain ⟨t, h1, h2, h3⟩ := s_compPartsL (cl := cl) (W := W) (c := c) (elt := elt) (args := [.var j]) (k := .keys) w (LkK j) hb hp hpo (fun a b c e => by rw [e] at hi; cases hi) (s_ikeys w hi) hwi hcl hcl2 he hc
  refine ⟨fun σ H Q => t σ H Q ∨ tLockE t σ H Q, fun pos => PE.or (h1 pos) (pe_lock (h1 pos)), fun k1 k2 k3 => PS.weak (PS.or (h2 k1 k2 k3) (ps_lock (h2 k1 k2 k3))) fun D σ H z => z, fun σ H Q ⟨ι, F, ρ, M, r, z⟩ => ?_⟩
  have ev := evE_compK (c := c) (elt := elt) (p := p) (conds := conds) (own := own) (j := j) (ρ := ρ) (M := M)
  rw [ev] at z
  split at z
  · rename_i tt kds e1
    rw [e1] at ev
    dsimp only at ev
    cases e3 : compL (compF c elt p conds own ρ) (kds.map (·.1)) M with
    | st => rw [e3] at z; exact z.elim
    | ex _ _ => rw [e3] at z; exact z.elim
    | ok rs M3 =>
      rw [e3] at z ev
      have z : Res X.K cl W ι F σ H (VL.R.ok (D.lst rs) M3) _ := z
      have ev : _ = VL.R.ok (D.lst rs) M3 := ev
      rcases dic_lock r e1 with lk | ⟨d, u, g1, g2, g3, g4⟩
      · exact .inl (h3 _ _ _ ⟨ι, F, ρ, M, r, lk, by rw [ev]; exact z⟩)
      · refine .inr ⟨d, u, g3, isDic_mut g4, fun od => h3 _ _ _ ⟨ι, F, ρ, M, let ⟨O, r⟩ := r; ⟨O, r.lock g2 g4⟩, ⟨tt, kds, d, od, u, e1, g1, g2, upd_same⟩, ?_⟩⟩
        rw [ev]
        intro ι' F' H' s f m p0 o hF hn hp0
        obtain ⟨k1, k2⟩ := s.unlock r.mem g2 g3
        have fd := s.subF _ _ g2
        have np : p0 ≠ d := fun e => by rw [e, fd] at hF; cases hF
        refine ⟨k1, z ι' F' _ k2 (f.unlock fd) (m.at_upd (some_ne fd)) p0 (o.upd np) hF hn ?_⟩
        rw [upd_ne np] at hp0; exact hp0
  · exact z.elim
/-! ### comprehensions with two walks -/
def compO (c : Cfg) (elt : Ex) (p : Pt) (conds : List Ex) (own : List Nat) (p2 : Pt) (k2 : ItK) (args2 conds2 : List Ex) (own2 : List Nat) (ρ : Sl) : D → Mem → VL.R (Option (List D)) := fun d M3 => match bindP p d (killS ρ own) with
  | some ρ' => (evAll c conds ρ' M3).bind fun b M4 => if b = true then (evEs c args2 ρ' M4).bind fun ds2 M5 => (VL.R.of (itD k2 ds2) M5).bind fun items2 M6 =>
      (compL (compF c elt p2 conds2 own2 ρ') items2 M6).bind fun r M10 => .ok (some r) M10 else .ok none M4
  | none => .st
structure CompAt2 (K : PySem.W.Frag) (f : D → Mem → VL.R (Option (List D))) (items : List D) (rs : List D) (M3 : Mem) (ι2 : List Addr) (F2 H2 : Hp) (D : Addr) (i : Nat) (H : Hp) : Prop where
  ex : ∃ ι F Mi vs acc rest, Stp ι2 F2 H2 ι F H ∧ FSub F H ∧ MemRep K ι F Mi H ∧ H D = some (.lst vs) ∧ Reps K ι F vs acc ∧ F D = none ∧ D ∉ ι ∧ compL f (items.drop i) Mi = .ok rest M3 ∧ acc ++ rest.flatten = rs
/-- the inner walk -/
structure CompAtI (K : PySem.W.Frag) (f : D → Mem → VL.R (Option D)) (items : List D) (rs tail : List D) (M6 : Mem) (ι2 : List Addr) (F2 H2 : Hp) (D : Addr) (ι5 : List Addr) (F5 H5 : Hp) (O : Addr → Prop) (ρ : Sl) (σ : L2.St) (i : Nat) (H : Hp) : Prop where
  ex : ∃ ι F Mi vs acc rest, Stp ι2 F2 H2 ι F H ∧ (∀ (n : Nat) a, ι5[n]? = some a → ι[n]? = some a) ∧ (∀ a u, F5 a = some u → F a = some u) ∧ Kp F5 H5 H ∧ SRO K ι F O ρ Mi σ H ∧ H D = some (.lst vs) ∧ Reps K ι F vs acc ∧ F D = none ∧ D ∉ ι ∧ compL f (items.drop i) Mi = .ok rest M6 ∧ acc ++ (rest ++ tail) = rs
theorem SRO.updD {K : PySem.W.Frag} {ι : List Addr} {F H : Hp} {O : Addr → Prop} {ρ : Sl} {M : Mem} {σ : L2.St} {D : Addr} {o : HO} (r : SRO K ι F O ρ M σ H) (hF : F D = none) (hn : D ∉ ι) (hO : ¬ O D) : SRO K ι F O ρ M σ (L2.upd H D o) := by
  obtain ⟨z1, z2⟩ := out_upd (o := o) r.sub r.mem hF hn
  have ne : ∀ a, O a → a ≠ D := fun a h z => hO (by rw [← z]; exact h)
  obtain ⟨S, h1, h2, h3⟩ := r.ow
  exact ⟨z1, z2, r.len, r.fz, fun a h => let ⟨q1, q2, q3⟩ := r.own a h; ⟨q1, q2, q3.upd (ne a h)⟩, S, fun i m dd h => let ⟨v, q1, q2⟩ := h1 i m dd h; ⟨v, q1, q2.mono (fun _ _ h => h) (fun _ _ h => h) fun a ha => ⟨ha, fun w hw => by rw [upd_ne (ne a (h2 i a ha))]; exact hw⟩⟩, h2, h3⟩
theorem drop_at {α : Type} {l : List α} {i : Nat} {d : α} (h : l[i]? = some d) : l.drop i = d :: l.drop (i + 1) := by
  have hlt : i < l.length := (List.getElem?_eq_some_iff.mp h).1
  rw [List.drop_eq_getElem_cons hlt]
  rw [List.getElem?_eq_getElem hlt] at h
  cases h; rfl
theorem comp2_run {K : PySem.W.Frag} {c : Cfg} {ρ : Sl} {σ : L2.St} {elt : Ex} {p p2 : Pt} {k2 : ItK} {args2 conds conds2 : List Ex} {own own2 : List Nat} {items : List D} {rl : List (List D)} {M3 : Mem} {ι2 : List Addr} {F2 H2 : Hp} {J : It} {D : Addr} {Q : VK} {Mz : Mem} {te : TE} {tt tt1 : TT} {wi1 : TI}
    (r : SR K ι2 F2 ρ Mz σ H2) (wk : Wk K J ι2 F2 H2 items) (hD : H2 D = none) (he : compL (compO c elt p conds own p2 k2 args2 conds2 own2 ρ) items Mz = .ok rl M3) (hl : rl.flatten.length ≤ sizeLine) (hp : ∀ i ∈ ptV p, i ∈ own) (hp2 : ∀ i ∈ ptV p2, i ∈ own2)
    (hwi : ∀ σ H Rr, tI K cl (fun _ _ _ _ => False) (fun ρ M => (evEs c args2 ρ M).bind fun ds M1 => VL.R.of (itD k2 ds) M1) σ H Rr → wi1 σ H Rr)
    (hte : ∀ σ H Q, tE K cl (fun _ _ _ _ => False) (evE c elt) σ H Q → te σ H Q) (htt : ∀ σ H Q, tT K cl (fun _ _ _ _ => False) (evAll c conds) σ H Q → tt σ H Q) (htt1 : ∀ σ H Q, tT K cl (fun _ _ _ _ => False) (evAll c conds2) σ H Q → tt1 σ H Q)
    (q : ∀ ι' F' H', Stp ι2 F2 H2 ι' F' H' → FSub F' H' → MemRep K ι' F' M3 H' → OwRep K ι' F' H' D (.lst rl.flatten) → F' D = none → D ∉ ι' → Q (.ref D) H') :
    ∃ W : Nat → Nat → Hp → Prop, (∃ m, W 0 m (upd H2 D (.lst []))) ∧ ∀ i m H, W i m H →
      (J.stop i H ∧ Q (.ref D) H) ∨ (J.go i H ∧ ∃ Nx : Hp → Prop, (∀ H', Nx H' → ∃ m', m' < m ∧ W (i + 1) m' H') ∧ ∀ x H', J.yld i H x H' → tG K p x (wipe σ own) H' fun σ2 H2 => wipe σ2 own = wipe σ own ∧ tt σ2 H2 fun b H3 =>
        if b = true then wi1 σ2 H3 fun J1 H4 => ∃ W1 : Nat → Nat → Hp → Prop, (∃ m, W1 0 m H4) ∧ ∀ j k H, W1 j k H →
          (J1.stop j H ∧ Nx H) ∨ (J1.go j H ∧ ∃ Nx1 : Hp → Prop, (∀ H', Nx1 H' → ∃ k', k' < k ∧ W1 (j + 1) k' H') ∧ ∀ x H', J1.yld j H x H' → tG K p2 x (wipe σ2 own2) H' fun σ3 H5 => wipe σ3 own2 = wipe σ2 own2 ∧ tt1 σ3 H5 fun b H6 =>
            if b = true then te σ3 H6 fun y H7 => ∃ acc, H7 D = some (.lst acc) ∧ acc.length < sizeLine ∧ Nx1 (upd H7 D (.lst (acc ++ [y]))) else Nx1 H6)
        else Nx H3) := by
  have hF2 : F2 D = none := by
    cases e : F2 D with
    | none => rfl
    | some u => exact absurd hD (r.sub.isSome e)
  have hi2 : D ∉ ι2 := fun h => (r.mem.there h).1 hD
  generalize hfo : compO c elt p conds own p2 k2 args2 conds2 own2 ρ = fo at he
  refine ⟨fun i m H => m = items.length - i ∧ i ≤ items.length ∧ CompAt2 K fo items rl.flatten M3 ι2 F2 H2 D i H, ⟨items.length, rfl, Nat.zero_le _, ?_⟩, ?_⟩
  · obtain ⟨a1, a2⟩ := out_upd (o := .lst []) r.sub r.mem hF2 hi2
    exact ⟨ι2, F2, Mz, [], [], rl, Stp.refl.upd hD, a1, a2, upd_same, .nil, hF2, hi2, by simpa using he, rfl⟩
  · rintro i m H ⟨rfl, hi, ⟨ι, F, Mi, vs, acc, rest, st, f, mr, hd, hv, hF, hn, hc, er⟩⟩
    by_cases hlt : i < items.length
    · refine .inr ⟨wk.go i F H st.subF f (st.kp r.mem) hlt, fun H' => CompAt2 K fo items rl.flatten M3 ι2 F2 H2 D (i + 1) H', fun H' h => ⟨items.length - (i + 1), by omega, rfl, by omega, h⟩, fun x H' y => ?_⟩
      obtain ⟨d, F', e1, s1, f1, m1, rx⟩ := wk.yld i ι F H Mi x H' st.ix st.subF f (st.kp r.mem) mr y hlt
      obtain ⟨d1, d2, d3⟩ := s1.own hd hF hn
      rw [drop_at e1] at hc
      obtain ⟨o, M1, rr, c1, c2, c3⟩ := compL_cons_ok hc
      rw [← hfo] at c1
      unfold compO at c1
      split at c1
      · rename_i ρ' eb
        obtain ⟨O, r0⟩ := r
        have hOD : ¬ O D := fun z => (r0.own D z).2.2.ne hD
        have r1 : SRO K ι F' O ρ Mi σ H' := (r0.step st f mr).step s1 f1 m1
        have r : SR K ι2 F2 ρ Mz σ H2 := ⟨O, r0⟩
        refine ⟨ι, F', O, killS ρ own, Mi, d, ρ', r1.wipe own, rx, eb, fun σ' r2 out => ⟨out.wipe hp, htt _ _ _ ⟨ι, F', ρ', Mi, ⟨O, r2⟩, ?_⟩⟩⟩
        cases ec : evAll c conds ρ' Mi with
        | ex _ _ => rw [ec] at c1; cases c1
        | st => rw [ec] at c1; cases c1
        | ok b M4 =>
          rw [ec, R.bind_ok] at c1
          intro ι4 F4 H4 s4 f4 m4
          obtain ⟨g1, g2, g3⟩ := s4.own d1 d2 d3
          cases b with
          | false =>
            rw [if_neg (by decide)] at c1 ⊢
            cases c1
            exact ⟨ι4, F4, M1, vs, acc, rr, (st.trans s1).trans s4, f4, m4, g1, s4.reps (s1.reps hv), g2, g3, c2, by rw [← er, c3]⟩
          | true =>
            rw [if_pos rfl] at c1 ⊢
            refine hwi _ _ _ ⟨ι4, F4, ρ', M4, ⟨O, r2.step s4 f4 m4⟩, ?_⟩
            dsimp only
            cases ea : evEs c args2 ρ' M4 with
            | ex _ _ => rw [ea] at c1; cases c1
            | st => rw [ea] at c1; cases c1
            | ok ds2 M5 =>
              rw [ea, R.bind_ok] at c1
              rw [R.bind_ok]
              cases ei : itD k2 ds2 with
              | none => rw [ei] at c1; cases c1
              | some items2 =>
                rw [ei] at c1
                rw [VL.R.of_some, R.bind_ok] at c1
                cases e2 : compL (compF c elt p2 conds2 own2 ρ') items2 M5 with
                | ex _ _ => rw [e2] at c1; cases c1
                | st => rw [e2] at c1; cases c1
                | ok r2' M10 =>
                  rw [e2, R.bind_ok] at c1
                  cases c1
                  intro ι5 F5 H5 s5 f5 m5 J1 wk1 hl1
                  have k5 := s5.own g1 g2 g3
                  have s15 := ((st.trans s1).trans s4).trans s5
                  have hv5 : Reps K ι5 F5 vs acc := s5.reps (s4.reps (s1.reps hv))
                  have r5 : SRO K ι5 F5 O ρ' M5 σ' H5 := (r2.step s4 f4 m4).step s5 f5 m5
                  refine ⟨fun j k H => k = items2.length - j ∧ j ≤ items2.length ∧ CompAtI K (compF c elt p2 conds2 own2 ρ') items2 rl.flatten rr.flatten M1 ι2 F2 H2 D ι5 F5 H5 O ρ' σ' j H, ⟨items2.length, rfl, Nat.zero_le _, ι5, F5, M5, vs, acc, r2', s15, fun _ _ h => h, fun _ _ h => h, Kp.refl, r5, k5.1, hv5, k5.2.1, k5.2.2, by simpa using e2, ?_⟩, ?_⟩
                  · rw [← er, c3]; simp
                  · rintro j k H6 ⟨rfl, hj, ⟨ι6, F6, Mj, vs6, acc6, rest6, st6, ix6, sub6, kp6, r6, hd6, hv6, hF6, hn6, hc6, er6⟩⟩
                    by_cases hlt6 : j < items2.length
                    · refine .inr ⟨wk1.go j F6 H6 sub6 r6.sub kp6 hlt6, fun H' => CompAtI K (compF c elt p2 conds2 own2 ρ') items2 rl.flatten rr.flatten M1 ι2 F2 H2 D ι5 F5 H5 O ρ' σ' (j + 1) H', fun H' h => ⟨items2.length - (j + 1), by omega, rfl, by omega, h⟩, fun x7 H7 y7 => ?_⟩
                      obtain ⟨d7, F7, e7, s7, f7, m7, rx7⟩ := wk1.yld j ι6 F6 H6 Mj x7 H7 ix6 sub6 r6.sub kp6 r6.mem y7 hlt6
                      obtain ⟨a1, a2, a3⟩ := s7.own hd6 hF6 hn6
                      rw [drop_at e7] at hc6
                      obtain ⟨o8, M8, rr8, b1, b2, b3⟩ := compL_cons_ok hc6
                      unfold compF at b1
                      split at b1
                      · rename_i ρ8 eb8
                        have r7 : SRO K ι6 F7 O ρ' Mj σ' H7 := r6.step s7 f7 m7
                        refine ⟨ι6, F7, O, killS ρ' own2, Mj, d7, ρ8, r7.wipe own2, rx7, eb8, fun σ8 r8 out8 => ⟨out8.wipe hp2, htt1 _ _ _ ⟨ι6, F7, ρ8, Mj, ⟨O, r8⟩, ?_⟩⟩⟩
                        have kx : ∀ {Fx Gx Gy : Hp}, (∀ a u, F5 a = some u → Fx a = some u) → Kp F5 H5 Gx → Kp Fx Gx Gy → Kp F5 H5 Gy := fun h1 h2 h3 => h2.trans h3 h1
                        cases ec8 : evAll c conds2 ρ8 Mj with
                        | ex _ _ => rw [ec8] at b1; cases b1
                        | st => rw [ec8] at b1; cases b1
                        | ok bb M9 =>
                          rw [ec8, R.bind_ok] at b1
                          intro ι9 F9 H9 s9 f9 m9
                          obtain ⟨u1, u2, u3⟩ := s9.own a1 a2 a3
                          have r9 : SRO K ι9 F9 O ρ' M9 σ' H9 := r7.step s9 f9 m9
                          have s79 := s7.trans s9
                          have k79 := s79.kp r6.mem
                          cases bb with
                          | true =>
                            rw [if_pos rfl] at b1 ⊢
                            refine hte _ _ _ ⟨ι9, F9, ρ8, M9, ⟨O, r8.step s9 f9 m9⟩, ?_⟩
                            cases ee : evE c elt ρ8 M9 with
                            | ok yy Ma =>
                              rw [ee, R.bind_ok] at b1
                              cases b1
                              intro ιa Fa Ha sa fa ma v hva
                              obtain ⟨w1, w2, w3⟩ := sa.own u1 u2 u3
                              have hvs : Reps K ιa Fa vs6 acc6 := sa.reps (s9.reps (s7.reps hv6))
                              have el : (acc6 ++ (yy :: (rr8 ++ rr.flatten))).length = rl.flatten.length := by rw [← er6, b3]; simp
                              refine ⟨vs6, w1, by rw [hvs.length]; simp only [List.length_append, List.length_cons] at el; omega, ?_⟩
                              have sall := s79.trans sa
                              have kD : ∀ a u, F5 a ≠ none → H5 a = some u → a ≠ D := fun a u h _ z => h (by rw [z]; exact k5.2.1)
                              exact ⟨ιa, Fa, M8, vs6 ++ [v], acc6 ++ [yy], rr8, (st6.trans sall).upd hD, fun n a h => sall.ix n a (ix6 n a h), fun a u h => sall.subF a u (sub6 a u h), fun a u h h2 => by rw [upd_ne (kD a u h h2)]; exact kx sub6 kp6 (sall.kp r6.mem) a u h h2, (r9.step sa fa ma).updD w2 w3 hOD, upd_same, hvs.append (.cons hva .nil), w2, w3, b2, by rw [← er6, b3]; simp⟩
                            | ex _ _ => rw [ee] at b1; cases b1
                            | st => rw [ee] at b1; cases b1
                          | false =>
                            rw [if_neg (by decide)] at b1 ⊢
                            cases b1
                            exact ⟨ι9, F9, M8, vs6, acc6, rr8, st6.trans s79, fun n a h => s79.ix n a (ix6 n a h), fun a u h => s79.subF a u (sub6 a u h), kx sub6 kp6 k79, r9, u1, s9.reps (s7.reps hv6), u2, u3, b2, by rw [← er6, b3]⟩
                      · cases b1
                    · have ej : j = items2.length := by omega
                      subst ej
                      refine .inl ⟨wk1.stop F6 H6 sub6 r6.sub kp6, ?_⟩
                      rw [List.drop_length] at hc6
                      simp only [compL] at hc6
                      cases hc6
                      exact ⟨ι6, F6, M1, vs6, acc6, rr, st6, r6.sub, r6.mem, hd6, hv6, hF6, hn6, c2, by simpa using er6⟩
      · cases c1
    · have e : i = items.length := by omega
      subst e
      refine .inl ⟨wk.stop F H st.subF f (st.kp r.mem), ?_⟩
      rw [List.drop_length] at hc
      simp only [compL] at hc
      cases hc
      simp only [List.flatten_nil, List.append_nil] at er
      subst er
      exact q ι F H st f mr ⟨vs, hd, hv⟩ hF hn
theorem s_comp2 (w : XW P nm cl n X sc W) {c : Cfg} {elt : Ex} {p p2 : Pt} {conds conds2 : List Ex} {own own2 : List Nat} {k k2 : ItK} {args args2 : List Ex} {ee tg iter tg2 iter2 : Expr} {ifs ifs2 : List Expr} {scope : Scope} {ri : Sl → Mem → VL.R (List D)}
    (hb : blkC X.N sc scope (own.map fun i => (X.N.getD i "", i)) = true) (hp : mP X.N scope p tg = true) (hpo : (ptV p).all (fun i => own.contains i) = true) (hset : ∀ a b c, iter ≠ .Set a b c) (hset2 : ∀ a b c, iter2 ≠ .Set a b c)
    (hi : PI X tg iter (tI X.K cl W ri)) (hri : ∀ ρ M, ri ρ M = (evEs c args ρ M).bind fun ds M1 => VL.R.of (itD k ds) M1) (hcl : conds.length ≤ 1) (hcl2 : conds.length = ifs.length)
    (hp2 : mP X.N scope p2 tg2 = true) (hpo2 : (ptV p2).all (fun i => own2.contains i) = true) (hsub : own2.all (fun i => own.contains i) = true) (hdl : conds2.length ≤ 1) (hdl2 : conds2.length = ifs2.length)
    (hi2 : ∀ (X' : Cx), X'.N = X.N → X'.K = X.K → XW P nm cl n X' scope (fun _ _ _ _ => False) → PI X' tg2 iter2 (tI X'.K cl (fun _ _ _ _ => False) fun ρ M => (evEs c args2 ρ M).bind fun ds M1 => VL.R.of (itD k2 ds) M1))
    (he : ∀ (X' : Cx), X'.N = X.N → X'.K = X.K → XW P nm cl n X' scope (fun _ _ _ _ => False) → PE X' ee (tE X'.K cl (fun _ _ _ _ => False) (evE c elt)))
    (hc : ∀ (X' : Cx), X'.N = X.N → X'.K = X.K → XW P nm cl n X' scope (fun _ _ _ _ => False) → ∀ x e, conds = [x] → ifs = [e] → PT X' e (tT X'.K cl (fun _ _ _ _ => False) (evT c x)))
    (hd : ∀ (X' : Cx), X'.N = X.N → X'.K = X.K → XW P nm cl n X' scope (fun _ _ _ _ => False) → ∀ x e, conds2 = [x] → ifs2 = [e] → PT X' e (tT X'.K cl (fun _ _ _ _ => False) (evT c x))) :
    ∃ t : TE, (∀ pos, PE X (.ListComp ee [⟨tg, iter, ifs, 0⟩, ⟨tg2, iter2, ifs2, 0⟩] scope pos) t) ∧
      (∀ {i : Nat} {y : Str} {py pos spos : Pos}, X.N[i]? = some y → X.env.scope.names.lookup y = some .local → swapsWith (.ListComp ee [⟨tg, iter, ifs, 0⟩, ⟨tg2, iter2, ifs2, 0⟩] scope pos) (some (.Name y py)) spos.line X.env = pure true → PS X (.Assign [.Name y py] (.ListComp ee [⟨tg, iter, ifs, 0⟩, ⟨tg2, iter2, ifs2, 0⟩] scope pos) spos) (tAsg t (gName i))) ∧
      ∀ σ H Q, tL X.K cl W (evE c (.comp2 elt p k args conds own p2 k2 args2 conds2 own2)) σ H Q → t σ H Q := by
  have eown : (own.map fun i => (X.N.getD i "", i)).map (·.2) = own := by rw [List.map_map]; exact List.map_id' own
  have hw := fun s H C cs fp => w.blk (scope := scope) s H C cs fp
  have hpts : ∀ (s : Shared) (H : Hp) (C : Addr) (cs : List (Str × Addr)) (fp : List Addr), PTs (X.blk s H scope (compEnvC scope cs C X.env) fp) ifs (ttOf X.K cl (fun _ _ _ _ => False) c conds) := fun s H C cs fp =>
    s_pts (X := X.blk s H scope (compEnvC scope cs C X.env) fp) (W := fun _ _ _ _ => False) hcl hcl2 (hc _ rfl rfl (hw s H C cs fp))
  have hpts2 : ∀ (s : Shared) (H : Hp) (C : Addr) (cs : List (Str × Addr)) (fp : List Addr), PTs (X.blk s H scope (compEnvC scope cs C X.env) fp) ifs2 (ttOf X.K cl (fun _ _ _ _ => False) c conds2) := fun s H C cs fp =>
    s_pts (X := X.blk s H scope (compEnvC scope cs C X.env) fp) (W := fun _ _ _ _ => False) hdl hdl2 (hd _ rfl rfl (hw s H C cs fp))
  have hvs : ∀ i ∈ own2, i ∈ (own.map fun i => (X.N.getD i "", i)).map (·.2) := fun i hi => by
    rw [eown]
    have := List.all_eq_true.mp hsub i hi
    simpa using this
  refine ⟨tLc2 (tI X.K cl W ri) (tG X.K p) (ttOf X.K cl (fun _ _ _ _ => False) c conds) (tI X.K cl (fun _ _ _ _ => False) fun ρ M => (evEs c args2 ρ M).bind fun ds M1 => VL.R.of (itD k2 ds) M1) (tG X.K p2) (ttOf X.K cl (fun _ _ _ _ => False) c conds2) (tE X.K cl (fun _ _ _ _ => False) (evE c elt)) own own2, fun pos => ?_, fun {i y py pos spos} h1 h2 h3 => ?_, fun σ H Q z => ?_⟩
  · have base := pe_lc2 (X := X) (elt := ee) (tg := tg) (iter := iter) (ifs := ifs) (tg1 := tg2) (iter1 := iter2) (ifs1 := ifs2) (scope := scope) (pos := pos) (own := own.map fun i => (X.N.getD i "", i)) (vs1 := own2) (g := tG X.K p) (tt := ttOf X.K cl (fun _ _ _ _ => False) c conds) (wi1 := tI X.K cl (fun _ _ _ _ => False) fun ρ M => (evEs c args2 ρ M).bind fun ds M1 => VL.R.of (itD k2 ds) M1) (g1 := tG X.K p2) (tt1 := ttOf X.K cl (fun _ _ _ _ => False) c conds2) (te := tE X.K cl (fun _ _ _ _ => False) (evE c elt)) w.calm w.nd hi (blk_ok w hb) hvs
      (fun s H C cs fp => s_pat (hw s H C cs fp) hp) hpts (fun s H C cs fp => hi2 _ rfl rfl (hw s H C cs fp)) (fun s H C cs fp => s_pat (hw s H C cs fp) hp2) hpts2 (fun s H C cs fp => he _ rfl rfl (hw s H C cs fp)) (set_ok hset) (fun env => set_ok hset2)
    rw [eown] at base
    exact base
  · have base := ps_setLc2 (X := X) (elt := ee) (tg := tg) (iter := iter) (ifs := ifs) (tg1 := tg2) (iter1 := iter2) (ifs1 := ifs2) (scope := scope) (pos := pos) (spos := spos) (own := own.map fun i => (X.N.getD i "", i)) (vs1 := own2) (g := tG X.K p) (tt := ttOf X.K cl (fun _ _ _ _ => False) c conds) (wi1 := tI X.K cl (fun _ _ _ _ => False) fun ρ M => (evEs c args2 ρ M).bind fun ds M1 => VL.R.of (itD k2 ds) M1) (g1 := tG X.K p2) (tt1 := ttOf X.K cl (fun _ _ _ _ => False) c conds2) (te := tE X.K cl (fun _ _ _ _ => False) (evE c elt)) w.calm w.nd h1 h2 h3 hi (blk_ok w hb) hvs
      (fun s H C cs fp => s_pat (hw s H C cs fp) hp) hpts (fun s H C cs fp => hi2 _ rfl rfl (hw s H C cs fp)) (fun s H C cs fp => s_pat (hw s H C cs fp) hp2) hpts2 (fun s H C cs fp => he _ rfl rfl (hw s H C cs fp)) (set_ok hset) (fun env => set_ok hset2)
    rw [eown] at base
    exact base
  obtain ⟨ι, F, ρ, M, r, z⟩ := z
  have z : Res X.K cl W ι F σ H ((ri ρ M).bind fun items M2 => ((compL (compO c elt p conds own p2 k2 args2 conds2 own2 ρ) items M2).nox).bind fun rs M3 => if rs.flatten.length ≤ sizeLine then VL.R.ok (D.lst rs.flatten) M3 else .st) (fun d _ ι' F' H' => ∀ p, OwRep X.K ι' F' H' p d → F' p = none → p ∉ ι' → H p = none → Q (.ref p) H') := by
    rw [hri, R.bind_assoc]
    simp only [evE] at z
    exact z
  refine ⟨ι, F, ρ, M, r, z.bind.imp fun items M2 ι2 F2 H2 s2 f2 m2 q J wk hl D hD => ?_⟩
  cases e : compL (compO c elt p conds own p2 k2 args2 conds2 own2 ρ) items M2 with
  | ok rs M3 =>
    rw [e] at q
    have q : Res X.K cl W ι2 F2 σ H2 (if rs.flatten.length ≤ sizeLine then VL.R.ok (VL.D.lst rs.flatten) M3 else .st) _ := q
    split at q
    · rename_i hlen
      refine comp2_run (r.step s2 f2 m2) wk hD e hlen (fun i hi => by
        have := List.all_eq_true.mp hpo i hi
        simpa using this) (fun i hi => by
        have := List.all_eq_true.mp hpo2 i hi
        simpa using this) (fun _ _ _ z => z) (fun _ _ _ z => z) (tt_imp hcl) (tt_imp hdl) fun ι' F' H' s f m o hF hn => ?_
      refine q ι' F' H' s f m D o hF hn ?_
      by_cases hh : H D = none
      · exact hh
      · exact absurd hD (s2.live D hh)
    · exact q.elim
  | ex _ _ => rw [e] at q; exact q.elim
  | st => rw [e] at q; exact q.elim
/-! ### looking at what is one's own -/
section
variable {K : PySem.W.Frag} {ι ι' : List Addr} {F F' B H H' : Hp} {ρ : Sl} {M : Mem} {σ : L2.St} {O : Addr → Prop}
theorem MemRep.nil (h : ι = []) : MemRep K ι F [] H := by
  subst h
  exact ⟨rfl, .nil, fun n a mo h => by simp at h⟩
theorem MemRep.nil' (m : MemRep K ι F [] H) : ι = [] := List.eq_nil_of_length_eq_zero m.len
/-- what is looked at is as if settled; what came of it is kept, if it gives nothing away -/
structure Back (K : PySem.W.Frag) (ι : List Addr) (F B H : Hp) : Prop where
  go : ∀ ι' F' H' M', Stp ι B H ι' F' H' → FSub F' H' → MemRep K ι' F' M' H' → memOk M' = true → ∃ F2, Stp ι F H ι' F2 H' ∧ FSub F2 H' ∧ MemRep K ι' F2 M' H' ∧ (∀ v d, d.noL = true → Rep K ι' F' v d → Rep K ι' F2 v d) ∧
    (∀ v d T, d.tupNoL = true → DRep K ι' F' H' .all v d T → DRep K ι' F2 H' .all v d T) ∧ ∀ T, New ι' F' H H' T → New ι' F2 H H' T
theorem sqT_keep {F2 : Hp} (q : ∀ a u, F' a = some u → ldO u = false → F2 a = some u) {a : Addr} {xs : List V} (h : SqT K F' a xs) : SqT K F2 a xs := by
  rcases h with (h | ⟨o, h⟩) | h
  · exact .inl (.inl (q _ _ h rfl))
  · exact .inl (.inr ⟨o, q _ _ h rfl⟩)
  · exact .inr h
mutual
theorem noL_rep {F2 : Hp} (q : ∀ a u, F' a = some u → ldO u = false → F2 a = some u) : ∀ {d : D} {v : V}, d.noL = true → Rep K ι F' v d → Rep K ι F2 v d
  | .non, _, _, .non => .non
  | .bl _, _, _, .bl _ => .bl _
  | .int _, _, _, .int _ => .int _
  | .str _, _, _, .str _ => .str _
  | .tup ds, _, hn, .tup h r => .tup (q _ _ h rfl) (noLs_rep q hn r)
  | .ktup ds, _, hn, _ => by cases hn
  | .lst ds, _, hn, _ => by cases hn
  | .dic _ ds, _, hn, _ => by cases hn
  | .ins _ _, _, hn, _ => by cases hn
  | .ref _, _, hn, .ref h => .ref h
theorem noLs_rep {F2 : Hp} (q : ∀ a u, F' a = some u → ldO u = false → F2 a = some u) : ∀ {d : List D} {v : List V}, D.noLs d = true → Reps K ι F' v d → Reps K ι F2 v d
  | [], _, _, .nil => .nil
  | d :: ds, _, hn, .cons h r => by
    simp only [D.noLs, Bool.and_eq_true] at hn
    exact .cons (noL_rep q hn.1 h) (noLs_rep q hn.2 r)
end
mutual
theorem noL_isLD : ∀ {d : D}, d.noL = true → d.isLD = false
  | .non, _ => rfl
  | .bl _, _ => rfl
  | .int _, _ => rfl
  | .str _, _ => rfl
  | .tup ds, h => by
    simp only [D.noL] at h
    simp only [D.isLD]
    exact noLs_isLD h
  | .ktup ds, _ => rfl
  | .lst ds, h => by cases h
  | .dic _ ds, h => by cases h
  | .ins _ _, _ => rfl
  | .ref _, _ => rfl
theorem noLs_isLD : ∀ {ds : List D}, D.noLs ds = true → D.isLDs ds = false
  | [], _ => rfl
  | d :: ds, h => by
    simp only [D.noLs, Bool.and_eq_true] at h
    simp only [D.isLDs, noL_isLD h.1, noLs_isLD h.2, Bool.or_self]
end
theorem noLk_rep {F2 : Hp} (q : ∀ a u, F' a = some u → ldO u = false → F2 a = some u) : ∀ {d : List (D × D)} {v : List (D × V)}, D.noLk d = true → RepK K ι F' v d → RepK K ι F2 v d
  | _, _, _, .nil => .nil
  | (k, d) :: ds, _, hn, .cons h r => by
    simp only [D.noLk, Bool.and_eq_true] at hn
    exact .cons (noL_rep q hn.1 h) (noLk_rep q hn.2 r)
mutual
theorem tupNoL_rep {F2 : Hp} (q : ∀ a u, F' a = some u → ldO u = false → F2 a = some u) : ∀ {d : D} {v : V} {T : Addr → Prop}, d.tupNoL = true → DRep K ι F' H .all v d T → DRep K ι F2 H .all v d T
  | d, v, T, hn, .fz r e => by
    have e := e.resolve_left (by decide)
    refine .fz (noL_rep q ?_ r) (.inr e)
    cases d <;> first | rfl | exact hn | cases e
  | .tup ds, _, T, hn, .tup n e r => by
    have hn : D.noLs ds = true := hn
    have hl := noLs_isLD hn
    exact .fz (noL_rep q (d := .tup ds) hn (.tup e (r.flat (.inr (isLDs_all hl))))) (.inr (by simp only [D.isLD]; exact hl))
  | .lst ds, _, T, hn, .lst n e s t ts r => .lst n e s t ts (tupNoLs_rep q hn r)
  | .dic _ ds, _, T, hn, .dic n e s t ts r => .dic n e s t ts (tupNoLk_rep q hn r)
theorem tupNoLs_rep {F2 : Hp} (q : ∀ a u, F' a = some u → ldO u = false → F2 a = some u) : ∀ {d : List D} {v : List V} {T : Addr → Prop}, D.tupNoLs d = true → DReps K ι F' H .all v d T → DReps K ι F2 H .all v d T
  | _, _, _, _, .nil => .nil
  | d :: ds, _, _, hn, .cons h r a b c => by
    simp only [D.tupNoLs, Bool.and_eq_true] at hn
    exact .cons (tupNoL_rep q hn.1 h) (tupNoLs_rep q hn.2 r) a b c
theorem tupNoLk_rep {F2 : Hp} (q : ∀ a u, F' a = some u → ldO u = false → F2 a = some u) : ∀ {d : List (D × D)} {v : List (D × V)} {T : Addr → Prop}, D.tupNoLk d = true → DRepk K ι F' H .all v d T → DRepk K ι F2 H .all v d T
  | _, _, _, _, .nil => .nil
  | (k, d) :: ds, _, _, hn, .cons h r a b c => by
    simp only [D.tupNoLk, Bool.and_eq_true] at hn
    exact .cons (tupNoL_rep q hn.1 h) (tupNoLk_rep q hn.2 r) a b c
end
theorem SRO.view (r : SRO K ι F O ρ M σ H) : ∃ B, SR K ι B (viewS ρ) M σ H ∧ Back K ι F B H := by
  classical
  have hF : ∀ a u, F a = some u → (if O a then (H a).filter ldO else F a) = some u := fun a u h => by
    rw [if_neg (fun z => by rw [(r.own a z).1] at h; cases h)]; exact h
  have hO : ∀ a u, O a → H a = some u → ldO u = true → (if O a then (H a).filter ldO else F a) = some u := fun a u h e l => by
    rw [if_pos h, e]; simp [Option.filter, l]
  have hB : ∀ a u, (if O a then (H a).filter ldO else F a) = some u → (O a ∧ H a = some u ∧ ldO u = true) ∨ (¬ O a ∧ F a = some u) := fun a u h => by
    by_cases z : O a
    · rw [if_pos z] at h
      simp only [Option.filter_eq_some_iff] at h
      exact .inl ⟨z, h⟩
    · rw [if_neg z] at h; exact .inr ⟨z, h⟩
  refine ⟨fun a => if O a then (H a).filter ldO else F a, ⟨fun _ => False, fun a u h => ?_, ⟨r.mem.len, r.mem.nd, fun n a mo h1 h2 => ?_⟩, by simp [viewS, r.len], fun i d h => ?_, fun _ h => h.elim, fun _ _ => False, fun i m d h => ?_, fun _ _ h => h, fun _ _ _ h => h.elim⟩, ⟨fun ι' F' H' M' s f m hM => ?_⟩⟩
  · rcases hB a u h with ⟨_, h, _⟩ | ⟨_, h⟩
    · exact .inl h
    · exact r.sub a u h
  · obtain ⟨q1, q2⟩ := r.mem.at_ n a mo h1 h2
    refine ⟨?_, q2.mono (fun _ _ h => h) hF fun _ h => h⟩
    show (if O a then (H a).filter ldO else F a) = none
    rw [if_neg (fun z => (r.own a z).2.1 (List.mem_of_getElem? h1))]; exact q1
  · unfold viewS at h
    rw [List.getElem?_map, Option.map_eq_some_iff] at h
    obtain ⟨x, e1, e2⟩ := h
    cases x with
    | un => cases e2
    | fz d' =>
      cases e2
      obtain ⟨v, q1, q2⟩ := r.fz i d e1
      exact ⟨v, q1, q2.mono (fun _ _ h => h) hF⟩
    | ow m d' =>
      cases e2
      obtain ⟨S, h1, h2, h3⟩ := r.ow
      obtain ⟨v, q1, q2⟩ := h1 i m d e1
      exact ⟨v, q1, q2.settle hF fun a u h e l => hO a u (h2 i a h) e l⟩
  · unfold viewS at h
    rw [List.getElem?_map, Option.map_eq_some_iff] at h
    obtain ⟨x, e1, e2⟩ := h
    cases x <;> cases e2
  · have k1 : ∀ a, O a → F' a = none ∨ ∃ u, F' a = some u ∧ ldO u = true := fun a h => by
      cases e : F' a with
      | none => exact .inl rfl
      | some u =>
        refine .inr ⟨u, rfl, ?_⟩
        obtain ⟨w, ew, lw⟩ := (r.own a h).2.2.ex
        have := s.subF a w (hO a w h ew lw)
        rw [e] at this; cases this
        exact lw
    have k2 : ∀ a u, F' a = some u → ldO u = false → (if O a then none else F' a) = some u := fun a u h l => by
      rw [if_neg (fun z => by
        rcases k1 a z with q | ⟨w, q, l'⟩
        · rw [h] at q; cases q
        · rw [h] at q; cases q; rw [l] at l'; cases l')]
      exact h
    refine ⟨fun a => if O a then none else F' a, ⟨s.pre, fun a u h => ?_, fun a h n e => ?_, s.keep, s.live⟩, fun a u h => ?_, ⟨m.len, m.nd, fun n a mo h1 h2 => ?_⟩, fun v d hn hv => noL_rep k2 hn hv, fun v d T hn hv => tupNoL_rep k2 hn hv, fun T n => ⟨fun a ha => ?_⟩⟩
    · have n : ¬ O a := fun z => by rw [(r.own a z).1] at h; cases h
      show (if O a then none else F' a) = some u
      rw [if_neg n]
      exact s.subF a u (hF a u h)
    · show (if O a then none else F' a) = none
      by_cases z : O a
      · rw [if_pos z]
      · rw [if_neg z]; exact s.newF a h n (by rw [if_neg z]; exact e)
    · have h : (if O a then none else F' a) = some u := h
      by_cases z : O a
      · rw [if_pos z] at h; cases h
      · rw [if_neg z] at h; exact f a u h
    · obtain ⟨q1, q2⟩ := m.at_ n a mo h1 h2
      refine ⟨?_, ?_⟩
      · show (if O a then none else F' a) = none
        split
        · rfl
        · exact q1
      · have hn : mo.noL = true := List.all_eq_true.mp hM mo (List.mem_of_getElem? h2)
        cases mo with
        | lst ds =>
          obtain ⟨vs, e, rr⟩ := q2
          exact ⟨vs, e, noLs_rep k2 hn rr⟩
        | dic t kvs =>
          obtain ⟨l, e, rr⟩ := q2
          exact ⟨l, e, noLk_rep k2 hn rr⟩
        | _ => cases hn
    · obtain ⟨h1, h2, h3, h4⟩ := n.at_ a ha
      refine ⟨?_, h2, h3, h4⟩
      show (if O a then none else F' a) = none
      split
      · rfl
      · exact h1
theorem borR_ok {α : Type} {M : Mem} {ok : α → Bool} {x : VL.R α} (h : borR M ok x ≠ .st) : (∃ d M1, x = .ok d M1 ∧ ok d = true ∧ memOk M1 = true ∧ borR M ok x = .ok d M1) ∨ ∃ c M1, x = .ex c M1 ∧ memOk M1 = true ∧ borR M ok x = .ex c M1 := by
  unfold borR at h ⊢
  cases x with
  | ok d M1 =>
    dsimp only at h ⊢
    split at h
    · rename_i e2
      rw [if_pos e2]
      exact .inl ⟨d, M1, rfl, e2.1, e2.2, rfl⟩
    · exact absurd rfl h
  | ex c M1 =>
    dsimp only at h ⊢
    split at h
    · rename_i e2
      rw [if_pos e2]
      exact .inr ⟨c, M1, rfl, e2, rfl⟩
    · exact absurd rfl h
  | st => exact absurd rfl h
/-- any reading of what is looked at -/
theorem res_bor {α : Type} {cl : Nat → Value} {W : WXX} {ok : α → Bool} {re : Sl → Mem → VL.R α} {Pd Pd' : α → Mem → List Addr → Hp → Hp → Prop} (r : SR K ι F ρ M σ H) (z : Res K cl W ι F σ H (borR M ok (re (viewS ρ) M)) Pd)
    (q : ∀ d M' ι' F' F2 H', ok d = true → (∀ v d, d.noL = true → Rep K ι' F' v d → Rep K ι' F2 v d) → (∀ v d T, d.tupNoL = true → DRep K ι' F' H' .all v d T → DRep K ι' F2 H' .all v d T) → (∀ T, New ι' F' H H' T → New ι' F2 H H' T) → Pd d M' ι' F2 H' → Pd' d M' ι' F' H') :
    ∃ B, SR K ι B (viewS ρ) M σ H ∧ Res K cl W ι B σ H (re (viewS ρ) M) Pd' := by
  have h := borR_ok (x := re (viewS ρ) M) (M := M) (ok := ok) fun e => by rw [e] at z; exact z
  obtain ⟨O, r⟩ := r
  obtain ⟨B, rB, bk⟩ := r.view
  refine ⟨B, rB, ?_⟩
  rcases h with ⟨d, M1, e1, e2, eM, e3⟩ | ⟨c, M1, e1, eM, e3⟩
  · rw [e3] at z
    rw [e1]
    intro ι' F' H' s f m
    obtain ⟨F2, s2, f2, m2, g1, g2, g3⟩ := bk.go ι' F' H' M1 s f m eM
    exact q d M1 ι' F' F2 H' e2 g1 g2 g3 (z ι' F2 H' s2 f2 m2)
  · rw [e3] at z
    rw [e1]
    intro ι' F' H' s f m
    obtain ⟨F2, s2, f2, m2, g1, g2, g3⟩ := bk.go ι' F' H' M1 s f m eM
    exact z ι' F2 H' s2 f2 m2
end
theorem tE_bor {K : PySem.W.Frag} {re : Sl → Mem → VL.R D} {σ : L2.St} {H : Hp} {Q : VK} (z : tE K cl W (fun ρ M => borR M D.noL (re (viewS ρ) M)) σ H Q) : tE K cl W re σ H Q := by
  obtain ⟨ι, F, ρ, M, r, z⟩ := z
  obtain ⟨B, rB, h⟩ := res_bor (Pd' := fun d _ ι' F' H' => ∀ v, Rep K ι' F' v d → Q v H') r z fun d _ ι' F' F2 H' ok g1 g2 g3 h v hv => h v (g1 v d ok hv)
  exact ⟨ι, B, viewS ρ, M, rB, h⟩
theorem tO_bor {K : PySem.W.Frag} {re : Sl → Mem → VL.R (Md × D)} {σ : L2.St} {H : Hp} {Q : VK} (z : tO K cl W (fun ρ M => borR M okB (re (viewS ρ) M)) σ H Q) : tO K cl W re σ H Q := by
  obtain ⟨ι, F, ρ, M, r, z⟩ := z
  obtain ⟨B, rB, h⟩ := res_bor (Pd' := fun d _ ι' F' H' => ∀ v T, DRep K ι' F' H' d.1 v d.2 T → New ι' F' H H' T → Q v H') r z fun d _ ι' F' F2 H' ok g1 g2 g3 h v T hv hn => by
    refine h v T ?_ (g3 T hn)
    unfold okB at ok
    simp only [Bool.or_eq_true, Bool.and_eq_true, decide_eq_true_eq] at ok
    rcases ok with ok | ⟨ok, ok2⟩
    · have hl : d.2.isLD = false := noL_isLD ok
      exact .fz (g1 v _ ok (hv.flat (.inr hl))) (.inr hl)
    · rw [ok] at hv ⊢
      exact g2 v _ T ok2 hv
  exact ⟨ι, B, viewS ρ, M, rB, h⟩
theorem tT_bor {K : PySem.W.Frag} {re : Sl → Mem → VL.R D} {σ : L2.St} {H : Hp} {Q : Bool → Hp → Prop} (z : tT K cl W (fun ρ M => (borR M D.noL (re (viewS ρ) M)).bind fun d M1 => R.of (truth d) M1) σ H Q) : tT K cl W (fun ρ M => (re ρ M).bind fun d M1 => R.of (truth d) M1) σ H Q := by
  obtain ⟨ι, F, ρ, M, r, z⟩ := z
  dsimp only at z
  have hne : borR M D.noL (re (viewS ρ) M) ≠ .st := fun e => by rw [e] at z; exact z
  obtain ⟨B, rB, h⟩ := res_bor (Pd' := fun b _ _ _ H' => Q b H') (re := fun ρ M => (re ρ M).bind fun d M1 => R.of (truth d) M1) (ok := fun _ => true) (Pd := fun b _ _ _ H' => Q b H') r (by
      have e : borR M (fun _ => true) ((re (viewS ρ) M).bind fun d M1 => R.of (truth d) M1) = (borR M D.noL (re (viewS ρ) M)).bind fun d M1 => R.of (truth d) M1 := by
        rcases borR_ok hne with ⟨d, M1, e1, _, eM, e3⟩ | ⟨c, M1, e1, eM, e3⟩
        · rw [e3, e1]
          simp only [R.bind_ok]
          cases e4 : truth d with
          | none => rw [e3, R.bind_ok, e4] at z; exact z.elim
          | some b => simp only [R.of_some, borR, eM, and_self, if_true]
        · rw [e3, e1]
          simp only [R.bind_ex, borR, eM, if_true]
      rw [e]
      exact z) fun d _ ι' F' F2 H' ok g1 g2 g3 h => h
  exact ⟨ι, B, viewS ρ, M, rB, h⟩
/-! ### memory, looked at -/
section
variable {K : PySem.W.Frag} {ι ι' : List Addr} {F F' H H' : Hp} {ρ : Sl} {M M' : Mem} {σ : L2.St} {O : Addr → Prop}
theorem noReff_k : ∀ fs : List (Str × D), D.noReff fs = D.noRefk (fs.map fun p => (D.str p.1, p.2))
  | [] => rfl
  | (a, d) :: r => by simp only [D.noReff, D.noRefk, List.map_cons, noReff_k r]
mutual
theorem noRef_rep {F2 : Hp} (q : ∀ a u, F a = some u → F2 a = some u) : ∀ {d : D} {v : V}, d.noRef = true → Rep K ι F v d → Rep K ι' F2 v d
  | _, _, _, .non => .non
  | .bl _, _, _, .bl _ => .bl _
  | .int _, _, _, .int _ => .int _
  | .str _, _, _, .str _ => .str _
  | .tup ds, _, hn, .tup h r => .tup (q _ _ h) (noRefs_rep q hn r)
  | .ktup ds, _, hn, .ktup h k r => .ktup (SqT.mono q h) k (noRefs_rep q hn r)
  | .lst ds, _, hn, .lst h r => .lst (SqL.mono q h) (noRefs_rep q hn r)
  | .dic _ ds, _, hn, .dic h r => .dic (h.mono q) (noRefk_rep q hn r)
  | .ref _, _, hn, .ref h => by cases hn
  | .ins _ fs, _, hn, .ins h r => .ins (q _ _ h) (noRefk_rep q (by rw [← noReff_k]; exact hn) r)
theorem noRefs_rep {F2 : Hp} (q : ∀ a u, F a = some u → F2 a = some u) : ∀ {d : List D} {v : List V}, D.noRefs d = true → Reps K ι F v d → Reps K ι' F2 v d
  | _, _, _, .nil => .nil
  | d :: ds, _, hn, .cons h r => by
    simp only [D.noRefs, Bool.and_eq_true] at hn
    exact .cons (noRef_rep q hn.1 h) (noRefs_rep q hn.2 r)
theorem noRefk_rep {F2 : Hp} (q : ∀ a u, F a = some u → F2 a = some u) : ∀ {d : List (D × D)} {v : List (D × V)}, D.noRefk d = true → RepK K ι F v d → RepK K ι' F2 v d
  | _, _, _, .nil => .nil
  | (k, d) :: ds, _, hn, .cons h r => by
    simp only [D.noRefk, Bool.and_eq_true] at hn
    exact .cons (noRef_rep q hn.1 h) (noRefk_rep q hn.2 r)
end
mutual
/-- without memory, nothing leads to memory -/
theorem noL_rep0 {F2 : Hp} (q : ∀ a u, F' a = some u → ldO u = false → F2 a = some u) : ∀ {d : D} {v : V}, d.noL = true → Rep K [] F' v d → Rep K ι F2 v d
  | _, _, _, .non => .non
  | .bl _, _, _, .bl _ => .bl _
  | .int _, _, _, .int _ => .int _
  | .str _, _, _, .str _ => .str _
  | .tup ds, _, hn, .tup h r => .tup (q _ _ h rfl) (noLs_rep0 q hn r)
  | .ktup ds, _, hn, _ => by cases hn
  | .lst ds, _, hn, _ => by cases hn
  | .dic _ ds, _, hn, _ => by cases hn
  | .ref n, _, hn, .ref h => by simp at h
  | .ins _ _, _, hn, _ => by cases hn
theorem noLs_rep0 {F2 : Hp} (q : ∀ a u, F' a = some u → ldO u = false → F2 a = some u) : ∀ {d : List D} {v : List V}, D.noLs d = true → Reps K [] F' v d → Reps K ι F2 v d
  | [], _, _, .nil => .nil
  | d :: ds, _, hn, .cons h r => by
    simp only [D.noLs, Bool.and_eq_true] at hn
    exact .cons (noL_rep0 q hn.1 h) (noLs_rep0 q hn.2 r)
end
mutual
theorem tupNoL_rep0 {F2 : Hp} (q : ∀ a u, F' a = some u → ldO u = false → F2 a = some u) : ∀ {d : D} {v : V} {T : Addr → Prop}, d.tupNoL = true → DRep K [] F' H .all v d T → DRep K ι F2 H .all v d T
  | d, v, T, hn, .fz r e => by
    have e := e.resolve_left (by decide)
    refine .fz (noL_rep0 q ?_ r) (.inr e)
    cases d <;> first | rfl | exact hn | cases e
  | .tup ds, _, T, hn, .tup n e r => by
    have hn : D.noLs ds = true := hn
    have hl := noLs_isLD hn
    exact .fz (noL_rep0 q (d := .tup ds) hn (.tup e (r.flat (.inr (isLDs_all hl))))) (.inr (by simp only [D.isLD]; exact hl))
  | .lst ds, _, T, hn, .lst n e s t ts r => .lst n e s t ts (tupNoLs_rep0 q hn r)
  | .dic _ ds, _, T, hn, .dic n e s t ts r => .dic n e s t ts (tupNoLk_rep0 q hn r)
theorem tupNoLs_rep0 {F2 : Hp} (q : ∀ a u, F' a = some u → ldO u = false → F2 a = some u) : ∀ {d : List D} {v : List V} {T : Addr → Prop}, D.tupNoLs d = true → DReps K [] F' H .all v d T → DReps K ι F2 H .all v d T
  | _, _, _, _, .nil => .nil
  | d :: ds, _, _, hn, .cons h r a b c => by
    simp only [D.tupNoLs, Bool.and_eq_true] at hn
    exact .cons (tupNoL_rep0 q hn.1 h) (tupNoLs_rep0 q hn.2 r) a b c
theorem tupNoLk_rep0 {F2 : Hp} (q : ∀ a u, F' a = some u → ldO u = false → F2 a = some u) : ∀ {d : List (D × D)} {v : List (D × V)} {T : Addr → Prop}, D.tupNoLk d = true → DRepk K [] F' H .all v d T → DRepk K ι F2 H .all v d T
  | _, _, _, _, .nil => .nil
  | (k, d) :: ds, _, _, hn, .cons h r a b c => by
    simp only [D.tupNoLk, Bool.and_eq_true] at hn
    exact .cons (tupNoL_rep0 q hn.1 h) (tupNoLk_rep0 q hn.2 r) a b c
end
theorem MORep.ld {a : Addr} {mo : MO} (h : MORep K ι F H a mo) : ∃ u, H a = some u ∧ ldO u = true := by
  cases mo with
  | lst ds => obtain ⟨vs, e, _⟩ := h; exact ⟨_, e, rfl⟩
  | dic t kds => obtain ⟨l, e, _⟩ := h; cases t <;> (obtain ⟨k, e, _⟩ := e; exact ⟨_, e, rfl⟩)
  | ins _ _ => exact h.elim
theorem SRO.look (r : SRO K ι F O ρ M σ H) : ∃ B, SR K [] B (lookS M ρ) [] σ H ∧ ∀ F' H', Stp [] B H [] F' H' → FSub F' H' → ∃ F2, Stp ι F H ι F2 H' ∧ FSub F2 H' ∧ MemRep K ι F2 M H' ∧ (∀ v d, d.noL = true → Rep K [] F' v d → Rep K ι F2 v d) ∧ (∀ v d T, d.tupNoL = true → DRep K [] F' H' .all v d T → DRep K ι F2 H' .all v d T) ∧ (∀ vs ds, D.noLs ds = true → Reps K [] F' vs ds → Reps K ι F2 vs ds) ∧ ∀ T, New [] F' H H' T → New ι F2 H H' T := by
  classical
  have hp : ∀ a, (O a ∨ a ∈ ι) → F a = none ∧ ∃ u, H a = some u ∧ ldO u = true := fun a h => by
    rcases h with h | h
    · exact ⟨(r.own a h).1, (r.own a h).2.2.ex⟩
    · obtain ⟨n, hn, e⟩ := List.getElem_of_mem h
      have e1 : ι[n]? = some a := by rw [List.getElem?_eq_getElem hn, e]
      have hm : n < M.length := by rw [← r.mem.len]; exact hn
      obtain ⟨q1, q2⟩ := r.mem.at_ n a M[n] e1 (List.getElem?_eq_getElem hm)
      exact ⟨q1, q2.ld⟩
  have hF : ∀ a u, F a = some u → (if O a ∨ a ∈ ι then (H a).filter ldO else F a) = some u := fun a u h => by
    rw [if_neg (fun z => by rw [(hp a z).1] at h; cases h)]; exact h
  have hO : ∀ a u, (O a ∨ a ∈ ι) → H a = some u → ldO u = true → (if O a ∨ a ∈ ι then (H a).filter ldO else F a) = some u := fun a u h e l => by
    rw [if_pos h, e]; simp [Option.filter, l]
  refine ⟨fun a => if O a ∨ a ∈ ι then (H a).filter ldO else F a, ⟨fun _ => False, fun a u h => ?_, ⟨rfl, .nil, fun n a mo h1 h2 => by simp at h1⟩, by simp [lookS, r.len], fun i d h => ?_, fun _ h => h.elim, fun _ _ => False, fun i m d h => ?_, fun _ _ h => h, fun _ _ _ h => h.elim⟩, fun F' H' s f => ?_⟩
  · have h : (if O a ∨ a ∈ ι then (H a).filter ldO else F a) = some u := h
    by_cases z : O a ∨ a ∈ ι
    · rw [if_pos z] at h
      simp only [Option.filter_eq_some_iff] at h
      exact .inl h.1
    · rw [if_neg z] at h; exact r.sub a u h
  · unfold lookS at h
    rw [List.getElem?_map, Option.map_eq_some_iff] at h
    obtain ⟨x, e1, e2⟩ := h
    cases x with
    | un => cases e2
    | fz d' =>
      obtain ⟨v, q1, q2⟩ := r.fz i d' e1
      refine ⟨v, q1, ?_⟩
      dsimp only [lookV] at e2
      split at e2
      · rename_i n
        split at e2
        · rename_i ds em
          split at e2
          · rename_i hn
            cases e2
            cases q2 with
            | ref hr =>
              rename_i a
              obtain ⟨g1, vs, g2, g3⟩ := r.mem.at_ n a _ hr em
              exact .lst (.inl (.inl (hO a _ (.inr (List.mem_of_getElem? hr)) g2 rfl))) (noRefs_rep hF hn g3)
          · cases e2
        · rename_i t kvs em
          split at e2
          · rename_i hn
            cases e2
            cases q2 with
            | ref hr =>
              rename_i a
              obtain ⟨g1, l, g2, g3⟩ := r.mem.at_ n a _ hr em
              refine .dic ?_ (noRefk_rep hF hn g3)
              cases t
              · obtain ⟨k, g2, gz⟩ := g2
                exact ⟨k, hO a _ (.inr (List.mem_of_getElem? hr)) g2 rfl, gz⟩
              · obtain ⟨k, g2, gz⟩ := g2
                exact ⟨k, hO a _ (.inr (List.mem_of_getElem? hr)) g2 rfl, gz⟩
          · cases e2
        · cases e2
      · split at e2
        · rename_i hn
          cases e2
          exact noRef_rep hF hn q2
        · cases e2
    | ow m d' =>
      dsimp only [lookV] at e2
      split at e2
      · rename_i hn
        cases e2
        obtain ⟨S, h1, h2, h3⟩ := r.ow
        obtain ⟨v, q1, q2⟩ := h1 i m d e1
        have g := q2.settle hF fun a u h e l => hO a u (.inl (h2 i a h)) e l
        exact ⟨v, q1, noRef_rep (fun _ _ h => h) hn g⟩
      · cases e2
  · unfold lookS at h
    rw [List.getElem?_map, Option.map_eq_some_iff] at h
    obtain ⟨x, e1, e2⟩ := h
    cases x with
    | un => cases e2
    | fz d' =>
      dsimp only [lookV] at e2
      split at e2
      · split at e2
        · split at e2 <;> cases e2
        · split at e2 <;> cases e2
        · cases e2
      · split at e2 <;> cases e2
    | ow m d' =>
      dsimp only [lookV] at e2
      split at e2 <;> cases e2
  · have k2 : ∀ a u, F' a = some u → ldO u = false → (if O a ∨ a ∈ ι then none else F' a) = some u := fun a u h l => by
      rw [if_neg (fun z => by
        obtain ⟨w, ew, lw⟩ := (hp a z).2
        have := s.subF a w (hO a w z ew lw)
        rw [h] at this; cases this
        rw [l] at lw; cases lw)]
      exact h
    have kF : ∀ a u, F a = some u → (if O a ∨ a ∈ ι then none else F' a) = some u := fun a u h => by
      rw [if_neg (fun z => by rw [(hp a z).1] at h; cases h)]
      exact s.subF a u (hF a u h)
    refine ⟨fun a => if O a ∨ a ∈ ι then none else F' a, ⟨⟨[], by simp, by simp⟩, kF, fun a h n e => ?_, fun a u h n => s.keep a u h (by simp), s.live⟩, fun a u h => ?_, ⟨r.mem.len, r.mem.nd, fun n a mo h1 h2 => ⟨?_, ?_⟩⟩, fun v d hn hv => noL_rep0 k2 hn hv, fun v d T hn hv => tupNoL_rep0 k2 hn hv, fun vs ds hn hv => noLs_rep0 k2 hn hv, fun T hT => ⟨fun a ha => ?_⟩⟩
    · show (if O a ∨ a ∈ ι then none else F' a) = none
      by_cases z : O a ∨ a ∈ ι
      · rw [if_pos z]
      · rw [if_neg z]; exact s.newF a h (by simp) (by rw [if_neg z]; exact e)
    · have h : (if O a ∨ a ∈ ι then none else F' a) = some u := h
      by_cases z : O a ∨ a ∈ ι
      · rw [if_pos z] at h; cases h
      · rw [if_neg z] at h; exact f a u h
    · show (if O a ∨ a ∈ ι then none else F' a) = none
      rw [if_pos (.inr (List.mem_of_getElem? h1))]
    · exact (r.mem.at_ n a mo h1 h2).2.mono (fun _ _ h => h) kF fun u h => s.keep a u h (by simp)
    · obtain ⟨g1, g2, g3, g4⟩ := hT.at_ a ha
      refine ⟨?_, fun hi => (r.mem.there hi).1 g3, g3, g4⟩
      show (if O a ∨ a ∈ ι then none else F' a) = none
      split
      · rfl
      · exact g1
end
theorem lookR_ok {M : Mem} {x : VL.R D} (h : lookR M x ≠ .st) : (∃ d, x = .ok d [] ∧ d.noL = true ∧ lookR M x = .ok d M) ∨ ∃ c, x = .ex c [] ∧ lookR M x = .ex c M := by
  unfold lookR at h ⊢
  cases x with
  | ok d M1 =>
    dsimp only at h ⊢
    split at h
    · rename_i e2
      rw [if_pos e2]
      have : M1 = [] := List.isEmpty_iff.mp e2.1
      subst this
      exact .inl ⟨d, rfl, e2.2, rfl⟩
    · exact absurd rfl h
  | ex c M1 =>
    dsimp only at h ⊢
    split at h
    · rename_i e2
      rw [if_pos e2]
      have : M1 = [] := List.isEmpty_iff.mp e2
      subst this
      exact .inr ⟨c, rfl, rfl⟩
    · exact absurd rfl h
  | st => exact absurd rfl h
theorem tE_look {cl : Nat → Value} {W : WXX} {K : PySem.W.Frag} {re : Sl → Mem → VL.R D} {σ : L2.St} {H : Hp} {Q : VK} (z : tE K cl W (fun ρ M => lookR M (re (lookS M ρ) [])) σ H Q) : tE K cl W re σ H Q := by
  obtain ⟨ι, F, ρ, M, ⟨O, r⟩, z⟩ := z
  obtain ⟨B, rB, bk⟩ := r.look
  refine ⟨[], B, lookS M ρ, [], rB, ?_⟩
  dsimp only at z
  have h := lookR_ok (x := re (lookS M ρ) []) (M := M) fun e => by rw [e] at z; exact z
  rcases h with ⟨d, e1, e2, e3⟩ | ⟨c, e1, e3⟩
  · rw [e3] at z
    rw [e1]
    intro ι' F' H' s f m v hv
    have : ι' = [] := List.length_eq_zero_iff.mp m.len
    subst this
    obtain ⟨F2, s2, f2, m2, g, _⟩ := bk F' H' s f
    exact z ι F2 H' s2 f2 m2 v (g v d e2 hv)
  · rw [e3] at z
    rw [e1]
    intro ι' F' H' s f m
    have : ι' = [] := List.length_eq_zero_iff.mp m.len
    subst this
    obtain ⟨F2, s2, f2, m2, g, _⟩ := bk F' H' s f
    exact z ι F2 H' s2 f2 m2
theorem lookA_ok {M : Mem} {x : VL.R (Md × D)} (h : lookA M x ≠ .st) : (∃ d, x = .ok d [] ∧ lkB d = true ∧ lookA M x = .ok d M) ∨ ∃ c, x = .ex c [] ∧ lookA M x = .ex c M := by
  unfold lookA at h ⊢
  cases x with
  | ok d M1 =>
    dsimp only at h ⊢
    split at h
    · rename_i e2
      rw [if_pos e2]
      have : M1 = [] := List.isEmpty_iff.mp e2.1
      subst this
      exact .inl ⟨d, rfl, e2.2, rfl⟩
    · exact absurd rfl h
  | ex c M1 =>
    dsimp only at h ⊢
    split at h
    · rename_i e2
      rw [if_pos e2]
      have : M1 = [] := List.isEmpty_iff.mp e2
      subst this
      exact .inr ⟨c, rfl, rfl⟩
    · exact absurd rfl h
  | st => exact absurd rfl h
/-- a new thing, made of what is looked at -/
theorem tO_look {cl : Nat → Value} {W : WXX} {K : PySem.W.Frag} {re : Sl → Mem → VL.R (Md × D)} {σ : L2.St} {H : Hp} {Q : VK} (z : tO K cl W (fun ρ M => lookA M (re (lookS M ρ) [])) σ H Q) : tO K cl W re σ H Q := by
  obtain ⟨ι, F, ρ, M, ⟨O, r⟩, z⟩ := z
  obtain ⟨B, rB, bk⟩ := r.look
  refine ⟨[], B, lookS M ρ, [], rB, ?_⟩
  dsimp only at z
  have h := lookA_ok (x := re (lookS M ρ) []) (M := M) fun e => by rw [e] at z; exact z
  rcases h with ⟨d, e1, e2, e3⟩ | ⟨c, e1, e3⟩
  · rw [e3] at z
    rw [e1]
    intro ι' F' H' s f m v T hv hT
    have : ι' = [] := List.length_eq_zero_iff.mp m.len
    subst this
    obtain ⟨F2, s2, f2, m2, g1, g2, g3, g4⟩ := bk F' H' s f
    refine z ι F2 H' s2 f2 m2 v T ?_ (g4 T hT)
    unfold lkB okB at e2
    simp only [Bool.or_eq_true, Bool.and_eq_true, decide_eq_true_eq] at e2
    rcases e2 with (e2 | ⟨e2, e4⟩) | ⟨e2, e4⟩
    · have hl := noL_isLD e2
      exact .fz (g1 v _ e2 (hv.flat (.inr hl))) (.inr hl)
    · rw [e2] at hv ⊢
      exact g2 v _ T e4 hv
    · obtain ⟨md, x⟩ := d
      dsimp only at e2 e4 hv ⊢
      subst e2
      split at e4
      · rename_i ds
        cases hv with
        | fz q eq => rcases eq with eq | eq <;> cases eq
        | lst n e s t ts q => exact .lst n e s t ts (DReps.of (g3 _ _ e4 (q.flat (.inl rfl))) (.inl rfl))
      · cases e4
  · rw [e3] at z
    rw [e1]
    intro ι' F' H' s f m
    have : ι' = [] := List.length_eq_zero_iff.mp m.len
    subst this
    obtain ⟨F2, s2, f2, m2, g, _⟩ := bk F' H' s f
    exact z ι F2 H' s2 f2 m2
theorem tT_look {cl : Nat → Value} {W : WXX} {K : PySem.W.Frag} {re : Sl → Mem → VL.R D} {σ : L2.St} {H : Hp} {Q : Bool → Hp → Prop} (z : tT K cl W (fun ρ M => (lookR M (re (lookS M ρ) [])).bind fun d M1 => R.of (truth d) M1) σ H Q) : tT K cl W (fun ρ M => (re ρ M).bind fun d M1 => R.of (truth d) M1) σ H Q := by
  obtain ⟨ι, F, ρ, M, ⟨O, r⟩, z⟩ := z
  obtain ⟨B, rB, bk⟩ := r.look
  refine ⟨[], B, lookS M ρ, [], rB, ?_⟩
  dsimp only at z
  have h := lookR_ok (x := re (lookS M ρ) []) (M := M) fun e => by rw [e] at z; exact z
  rcases h with ⟨d, e1, e2, e3⟩ | ⟨c, e1, e3⟩
  · rw [e3, R.bind_ok] at z
    dsimp only
    rw [e1, R.bind_ok]
    cases et : truth d with
    | none => rw [et] at z; exact z.elim
    | some b =>
      rw [et, R.of_some] at z
      rw [R.of_some]
      intro ι' F' H' s f m
      have : ι' = [] := List.length_eq_zero_iff.mp m.len
      subst this
      obtain ⟨F2, s2, f2, m2, g, _⟩ := bk F' H' s f
      exact z ι F2 H' s2 f2 m2
  · rw [e3, R.bind_ex] at z
    dsimp only
    rw [e1, R.bind_ex]
    intro ι' F' H' s f m
    have : ι' = [] := List.length_eq_zero_iff.mp m.len
    subst this
    obtain ⟨F2, s2, f2, m2, g, _⟩ := bk F' H' s f
    exact z ι F2 H' s2 f2 m2
/-! ### dicts, read -/
theorem recv_base0 {o : Expr} {m : Str} {env : Env} (h : recvB o = true) : attributeBase o m env (eval o env) = eval o env := by
  cases o <;> first | (cases h; done) | skip
  all_goals try rfl
  rename_i f es ks p
  cases es with
  | nil => cases h
  | cons a as => cases f <;> rfl
theorem nameE_base {o : Expr} {m : Str} {env : Env} (h : nameE o = true) : attributeBase o m env (eval o env) = eval o env := by
  cases o <;> first | (cases h; done) | rfl
section
variable {K : PySem.W.Frag} {ι : List Addr} {F H : Hp} {y : V} {a : Addr} {l : List (D × V)} {kvs : List (D × D)} {d : D}
theorem isD_rep {t : Bool} (f : FSub F H) (h : DicAt F a t l) : IsD H a := by
  cases t
  · obtain ⟨ks, e, _⟩ := h.k
    exact .inl ⟨ks, f.rdK e⟩
  · obtain ⟨ks, e, _⟩ := h.t
    exact .inr ⟨ks, f.rdT e⟩
/-- the two kinds of keys -/
theorem key_kind {t : Bool} (hy : Rep K ι F y d) (ok : okK t d = true) : (t = false ∧ ∃ k : Key, d = keyD k ∧ y = kV k) ∨ (t = true ∧ ∃ (k : List Key) (b : Addr), d = tkeyD k ∧ y = .ref b ∧ F b = some (.tup (k.map kV))) := by
  cases t
  · exact .inl ⟨rfl, flat_key hy ok⟩
  · refine .inr ⟨rfl, ?_⟩
    cases d <;> first | (cases ok; done) | skip
    cases hy with
    | tup e r =>
      obtain ⟨ks, rfl, rfl⟩ := tup_key r ok
      exact ⟨ks, _, rfl, rfl, e⟩
/-- what is there at a key -/
theorem dic_get {t : Bool} (f : FSub F H) (h : Rep K ι F (.ref a) (.dic t kvs)) (hy : Rep K ι F y d) (ok : okK t d = true) : ∃ o, DGet H a y o ∧ ((lookD d kvs = none ∧ o = none) ∨ ∃ e v, lookD d kvs = some e ∧ o = some v ∧ Rep K ι F v e) := by
  cases h with
  | dic at_ rr =>
    rcases key_kind hy ok with ⟨rfl, k, rfl, rfl⟩ | ⟨rfl, k, b, rfl, rfl, hb⟩
    · obtain ⟨ks, e, rfl⟩ := at_.k
      refine ⟨valV ks k, .inl ⟨ks, k, f.rdK e, rfl, rfl⟩, ?_⟩
      rcases repK_look keyD_inj (k := k) rr with ⟨e1, e2⟩ | ⟨e, v, e1, e2, q⟩
      · exact .inl ⟨e1, e2⟩
      · exact .inr ⟨e, v, e1, e2, q⟩
    · obtain ⟨ks, e, rfl⟩ := at_.t
      refine ⟨valV ks k, .inr ⟨ks, k, b, f.rdT e, rfl, f.tup hb, rfl⟩, ?_⟩
      rcases repK_look tkeyD_inj (k := k) rr with ⟨e1, e2⟩ | ⟨e, v, e1, e2, q⟩
      · exact .inl ⟨e1, e2⟩
      · exact .inr ⟨e, v, e1, e2, q⟩
end
section
variable {c : Cfg} {xd xk xo : Ex} {ed ek eo : Expr} {ap cp pos : Pos}
theorem s_dget1 (w : XW P nm cl n X sc W) (hb : recvB ed = true) (hl : (ap.endLine == cp.line) = true) (hn : nst ek = true) (hd : PE X ed (tE X.K cl W (evE c xd))) (hk : PE X ek (tE X.K cl W (evE c xk))) :
    PE X (.Call (.Attribute ed "get" ap) [ek] [] cp) (tE X.K cl W (evE c (.dget xd xk none))) := by
  have hu := w.hu
  refine PE.weak (pe_dget1 (by omega) hd hk ⟨recv_base0 hb, by rw [star_ok hn]; rfl, hl, by rw [star_ok hn]; rfl⟩) fun σ H Q z => ?_
  obtain ⟨ι, F, ρ, M, r, z⟩ := z
  simp only [evE] at z
  refine ⟨ι, F, ρ, M, r, z.bind.imp fun x M1 ι1 F1 H1 s1 f1 m1 q1 v hv => ?_⟩
  cases hv with
  | dic at_ rr =>
    have r1 := r.step s1 f1 m1
    refine ⟨_, rfl, isD_rep f1 at_, ι1, F1, ρ, M1, r1, Res.imp (Res.bind q1) fun y M2 ι2 F2 H2 s2 f2 m2 q2 u hu => ?_⟩
    split at q2
    · rename_i ok
      obtain ⟨o, g, h⟩ := dic_get f2 (s2.rep (.dic at_ rr)) hu ok
      refine ⟨o, g, ?_⟩
      have q3 := Res.of_ok q2 f2 m2
      rcases h with ⟨e1, rfl⟩ | ⟨e, v, e1, rfl, hv⟩
      · rw [e1] at q3; exact q3 _ .non
      · rw [e1] at q3; exact q3 _ hv
    · exact q2.elim
  | _ => exact q1.elim
theorem s_dget2 (w : XW P nm cl n X sc W) (hb : recvB ed = true) (hl : (ap.endLine == cp.line) = true) (hn : nst ek = true) (hn2 : nst eo = true) (hd : PE X ed (tE X.K cl W (evE c xd))) (hk : PE X ek (tE X.K cl W (evE c xk))) (ho : PE X eo (tE X.K cl W (evE c xo))) :
    PE X (.Call (.Attribute ed "get" ap) [ek, eo] [] cp) (tE X.K cl W (evE c (.dget xd xk (some xo)))) := by
  have hu := w.hu
  refine PE.weak (pe_dget2 (by omega) hd hk ho ⟨recv_base0 hb, by rw [starE_two hn hn2]; rfl, hl, by rw [starE_two hn hn2]; rfl⟩) fun σ H Q z => ?_
  obtain ⟨ι, F, ρ, M, r, z⟩ := z
  simp only [evE] at z
  refine ⟨ι, F, ρ, M, r, z.bind.imp fun x M1 ι1 F1 H1 s1 f1 m1 q1 v hv => ?_⟩
  cases hv with
  | dic at_ rr =>
    have r1 := r.step s1 f1 m1
    refine ⟨_, rfl, isD_rep f1 at_, ι1, F1, ρ, M1, r1, Res.imp (Res.bind q1) fun y M2 ι2 F2 H2 s2 f2 m2 q2 u hu => ?_⟩
    have r2 := r1.step s2 f2 m2
    split at q2
    · rename_i ok
      refine ⟨ι2, F2, ρ, M2, r2, Res.imp (Res.bind q2) fun z M3 ι3 F3 H3 s3 f3 m3 q3 t ht => ?_⟩
      obtain ⟨o, g, h⟩ := dic_get f3 (s3.rep (s2.rep (.dic at_ rr))) (s3.rep hu) ok
      refine ⟨o, g, ?_⟩
      have q4 := Res.of_ok q3 f3 m3
      rcases h with ⟨e1, rfl⟩ | ⟨e, v, e1, rfl, hv⟩
      · rw [e1] at q4; exact q4 _ ht
      · rw [e1] at q4; exact q4 _ hv
    · exact q2.elim
  | _ => exact q1.elim
theorem pix_no {b : Expr} (h : pixD b = true) : NoSl b := by
  cases b <;> first | (cases h; done) | exact fun _ _ => rfl
theorem s_dix (w : XW P nm cl n X sc W) (hp : pixD ek = true) (hd : PE X ed (tE X.K cl W (evE c xd))) (hk : PE X ek (tE X.K cl W (evE c xk))) : PE X (.Subscript ed ek pos) (tE X.K cl W (evE c (.dix xd xk))) := by
  have hu := w.hu
  refine PE.weak (pe_dget (by omega) hd hk (pix_no hp)) fun σ H Q z => ?_
  obtain ⟨ι, F, ρ, M, r, z⟩ := z
  simp only [evE] at z
  refine ⟨ι, F, ρ, M, r, z.bind.imp fun x M1 ι1 F1 H1 s1 f1 m1 q1 v hv => ?_⟩
  cases hv with
  | dic at_ rr =>
    have r1 := r.step s1 f1 m1
    refine ⟨ι1, F1, ρ, M1, r1, Res.imp (Res.bind q1) fun y M2 ι2 F2 H2 s2 f2 m2 q2 u hu => ?_⟩
    split at q2
    · rename_i ok
      obtain ⟨o, g, h⟩ := dic_get f2 (s2.rep (.dic at_ rr)) hu ok
      rcases h with ⟨e1, rfl⟩ | ⟨e, v, e1, rfl, hv⟩
      · rw [e1] at q2; exact q2.elim
      · rw [e1] at q2
        exact ⟨_, v, rfl, g, Res.of_ok q2 f2 m2 _ hv⟩
    · exact q2.elim
  | _ => exact q1.elim
theorem s_din (w : XW P nm cl n X sc W) {ng : Bool} (hm : behindInMarks (pyCmp (if ng then .notin else .isin)) ed = false) (hd : PE X ed (tE X.K cl W (evE c xd))) (hk : PE X ek (tE X.K cl W (evE c xk))) :
    PE X (.Compare ek [pyCmp (if ng then .notin else .isin)] [ed] pos) (tE X.K cl W (evE c (.din xk xd ng))) ∧ PT X (.Compare ek [pyCmp (if ng then .notin else .isin)] [ed] pos) (tT X.K cl W (evT c (.din xk xd ng))) := by
  have hu := w.hu
  have key : ∀ {σ : L2.St} {H : Hp} {Q : VK}, tE X.K cl W (evE c (.din xk xd ng)) σ H Q → tE X.K cl W (evE c xk) σ H fun y H1 => tE X.K cl W (evE c xd) σ H1 fun x H2 => ∃ a o, x = .ref a ∧ DGet H2 a y o ∧ Q (.bl (o.isSome != ng)) H2 := fun {σ H Q} z => by
    obtain ⟨ι, F, ρ, M, r, z⟩ := z
    simp only [evE] at z
    refine ⟨ι, F, ρ, M, r, z.bind.imp fun y M1 ι1 F1 H1 s1 f1 m1 q1 u hu => ?_⟩
    refine ⟨ι1, F1, ρ, M1, r.step s1 f1 m1, Res.imp (Res.bind q1) fun x M2 ι2 F2 H2 s2 f2 m2 q2 v hv => ?_⟩
    cases hv with
    | dic at_ rr =>
      dsimp only at q2
      split at q2
      · rename_i ok
        obtain ⟨o, g, h⟩ := dic_get f2 (.dic at_ rr) (s2.rep hu) ok
        have q3 := Res.of_ok q2 f2 m2 _ (.bl _)
        refine ⟨_, o, rfl, g, ?_⟩
        rcases h with ⟨e1, rfl⟩ | ⟨e, v, e1, rfl, hv⟩
        · rw [e1] at q3; exact q3
        · rw [e1] at q3; exact q3
      · exact q2.elim
    | _ => exact q2.elim
  have go : ∀ {σ : L2.St} {H : Hp} {Q : VK}, tE X.K cl W (evE c (.din xk xd ng)) σ H Q → (if ng = true then tDNotIn (tE X.K cl W (evE c xk)) (tE X.K cl W (evE c xd)) else tDIn (tE X.K cl W (evE c xk)) (tE X.K cl W (evE c xd))) σ H Q := fun {σ H Q} z => by
    obtain ⟨ι, F, ρ, M, r, z⟩ := key z
    cases ng <;> (
      refine ⟨ι, F, ρ, M, r, z.imp fun y M1 ι1 F1 H1 s1 f1 m1 q1 u hu => ?_⟩
      obtain ⟨ι, F, ρ, M, r, z⟩ := q1 u hu
      refine ⟨ι, F, ρ, M, r, z.imp fun y M1 ι1 F1 H1 s1 f1 m1 q1 u hu => ?_⟩
      obtain ⟨a, o, e, g, q⟩ := q1 u hu
      exact ⟨a, o, e, g, by simpa using q⟩)
  have bl : ∀ {σ : L2.St} {H : Hp} {Q : Bool → Hp → Prop}, tT X.K cl W (evT c (.din xk xd ng)) σ H Q → tE X.K cl W (evE c (.din xk xd ng)) σ H fun v H1 => ∃ b, v = .bl b ∧ Q b H1 := fun {σ H Q} z => by
    obtain ⟨ι, F, ρ, M, r, z⟩ := z
    refine ⟨ι, F, ρ, M, r, ?_⟩
    simp only [evT, evE, R.bind_assoc] at z ⊢
    cases e1 : evE c xk ρ M with
    | st => rw [e1] at z; exact z
    | ex _ _ => rw [e1] at z; exact z
    | ok y M1 =>
      rw [e1] at z
      rw [R.bind_ok] at z ⊢
      cases e2 : evE c xd ρ M1 with
      | st => rw [e2] at z; exact z
      | ex _ _ => rw [e2] at z; exact z
      | ok x M2 =>
        rw [e2] at z
        rw [R.bind_ok] at z ⊢
        cases x with
        | dic t kvs =>
          dsimp only at z ⊢
          by_cases ok : okK t y = true
          · rw [if_pos ok] at z ⊢
            intro ι' F' H' s' f' m' v hv
            cases hv
            exact ⟨_, rfl, z ι' F' H' s' f' m'⟩
          · rw [if_neg ok] at z; exact z.elim
        | _ => exact z.elim
  cases ng with
  | false => exact ⟨PE.weak (pe_cmp (pc_din (by omega) hk hd) hm) fun σ H Q z => go z, PT.weak (pt_cmp (pc_din (by omega) hk hd) hm) fun σ H Q z => go (bl z)⟩
  | true => exact ⟨PE.weak (pe_cmp (pc_dnotin (by omega) hk hd) hm) fun σ H Q z => go z, PT.weak (pt_cmp (pc_dnotin (by omega) hk hd) hm) fun σ H Q z => go (bl z)⟩
end
/-! ### memory, changed -/
theorem Reps.dropLast_ {K : PySem.W.Frag} {ι : List Addr} {F : Hp} : ∀ {vs : List V} {ds : List D}, Reps K ι F vs ds → Reps K ι F vs.dropLast ds.dropLast
  | _, _, .nil => .nil
  | _, _, .cons (vs := []) (ds := []) h r => .nil
  | _, _, .cons (vs := v :: vs) (ds := d :: ds) h r => .cons h (Reps.dropLast_ r)
  | _, _, .cons (vs := []) (ds := d :: ds) h r => nomatch r
  | _, _, .cons (vs := v :: vs) (ds := []) h r => nomatch r
theorem mem_upd {K : PySem.W.Frag} {ι : List Addr} {F H : Hp} {M : Mem} {n : Nat} {a : Addr} {vs vs' : List V} {ds ds' : List D} (f : FSub F H) (m : MemRep K ι F M H) (hr : ι[n]? = some a) (em : M[n]? = some (.lst ds)) (g2 : H a = some (.lst vs)) (g3 : Reps K ι F vs' ds') :
    Stp ι F H ι F (upd H a (.lst vs')) ∧ FSub F (upd H a (.lst vs')) ∧ MemRep K ι F (M.set n (.lst ds')) (upd H a (.lst vs')) := by
  have hF : F a = none := (m.at_ n a _ hr em).1
  refine ⟨⟨⟨[], by simp, by simp⟩, fun _ _ h => h, fun _ _ _ h => h, fun b u h nb => ?_, fun b h => ?_⟩, fun b u h => ?_, ⟨by rw [List.length_set]; exact m.len, m.nd, fun k b mo h1 h2 => ?_⟩⟩
  · have z : b ≠ a := fun z => nb (by rw [z]; exact List.mem_of_getElem? hr)
    rw [upd_ne z]; exact h
  · by_cases z : b = a
    · subst z; rw [upd_same]; simp
    · rw [upd_ne z]; exact h
  · have z : b ≠ a := fun z => by rw [z, hF] at h; cases h
    rw [upd_ne z]; exact f b u h
  · by_cases e : n = k
    · subst e
      rw [hr] at h1; cases h1
      rw [List.getElem?_set_self (by exact (List.getElem?_eq_some_iff.mp em).1)] at h2
      cases h2
      exact ⟨hF, vs', upd_same, g3⟩
    · rw [List.getElem?_set_ne e] at h2
      obtain ⟨q1, q2⟩ := m.at_ k b mo h1 h2
      have z : b ≠ a := fun z => by
        subst z
        exact e ((List.getElem?_inj (List.getElem?_eq_some_iff.mp hr).1 m.nd).mp (hr.trans h1.symm))
      exact ⟨q1, q2.mono (fun _ _ h => h) (fun _ _ h => h) fun u h => by rw [upd_ne z]; exact h⟩
section
variable {P : Prog} {nm : Nms} {cl : Nat → Value} {n : Nat} {X : Cx} {sc : Scope} {W : WXX} {c : Cfg}
theorem s_rpop (w : XW P nm cl n X sc W) {xo : Ex} {eo : Expr} {ap cp : Pos} (hb : nameE eo = true) (hl : (ap.endLine == cp.line) = true) (ho : PE X eo (tE X.K cl W (evE c xo))) :
    PE X (.Call (.Attribute eo "pop" ap) [] [] cp) (tE X.K cl W (evE c (.rpop xo))) := by
  refine PE.weak (pe_bm0 PySem.F.plainAttrs_list PySem.F.slot_list_pop PySem.F.type_list_pop mt_pop ho (nameE_base hb) hl) fun σ H Q z => ?_
  obtain ⟨ι, F, ρ, M, r, z⟩ := z
  simp only [evE] at z
  refine ⟨ι, F, ρ, M, r, z.bind.imp fun x M1 ι1 F1 H1 s1 f1 m1 q1 v hv => ?_⟩
  cases hv with
  | ref hr =>
    dsimp only at q1
    split at q1
    · rename_i ds em
      split at q1
      · rename_i y ey
        obtain ⟨g1, vs, g2, g3⟩ := m1.at_ _ _ _ hr em
        obtain ⟨u, hu, ru⟩ := g3.get ey
        obtain ⟨s2, f2, m2⟩ := mem_upd f1 m1 hr em g2 g3.dropLast_
        refine ⟨.inl ⟨rfl, vs, .inl (.inl g2)⟩, _, vs, u, rfl, rfl, g2, by rw [g3.length]; exact hu, q1 _ _ _ s2 f2 m2 u ru⟩
      · exact q1.elim
    · exact q1.elim
  | _ => exact q1.elim
theorem s_rapp (w : XW P nm cl n X sc W) {xo xe : Ex} {eo ee : Expr} {ap cp : Pos} (hb : nameE eo = true) (hl : (ap.endLine == cp.line) = true) (hn : nst ee = true) (ho : PE X eo (tE X.K cl W (evE c xo))) (he : PE X ee (tE X.K cl W (evE c xe))) :
    PE X (.Call (.Attribute eo "append" ap) [ee] [] cp) (tE X.K cl W (evE c (.rapp xo xe))) := by
  refine PE.weak (pe_bm PySem.F.plainAttrs_list PySem.F.slot_list_append PySem.F.type_list_append mt_append ho (pa_cons he pa_nil (star_ok hn)) (nameE_base hb) (by rw [star_ok hn]; rfl) hl (star_ok hn) rfl) fun σ H Q z => ?_
  obtain ⟨ι, F, ρ, M, r, z⟩ := z
  simp only [evE] at z
  refine ⟨ι, F, ρ, M, r, z.bind.imp fun x M1 ι1 F1 H1 s1 f1 m1 q1 v hv => ?_⟩
  cases hv with
  | ref hr =>
    dsimp only at q1
    split at q1
    · rename_i ds0 em0
      obtain ⟨g1, vs0, g2, _⟩ := m1.at_ _ _ _ hr em0
      refine ⟨.inl ⟨rfl, vs0, .inl (.inl g2)⟩, ι1, F1, ρ, M1, r.step s1 f1 m1, (Res.bind q1).imp fun y M2 ι2 F2 H2 s2 f2 m2 q2 u hu => ?_⟩
      split at q2
      · rename_i ds em2
        split at q2
        · rename_i hlt
          obtain ⟨h1, vs, h2, h3⟩ := m2.at_ _ _ _ (s2.ix _ _ hr) em2
          obtain ⟨s3, f3, m3⟩ := mem_upd f2 m2 (s2.ix _ _ hr) em2 h2 (h3.append (.cons hu .nil))
          exact ⟨_, vs, u, rfl, rfl, h2, by rw [h3.length]; exact hlt, q2 _ _ _ s3 f3 m3 .non .non⟩
        · exact q2.elim
      · exact q2.elim
    · exact q1.elim
  | _ => exact q1.elim
end
/-! ### list(range(..)) -/
theorem rgV_rep {K : PySem.W.Frag} {ι : List Addr} {F : Hp} (a b : Int) : Reps K ι F (L2.rgV a b) (rngD a b) := by
  unfold L2.rgV rngD
  generalize List.range (b - a).toNat = l
  induction l with
  | nil => exact .nil
  | cons i l ih => exact .cons (.int _) ih
/-- a new list of settled parts -/
def tNL (K : PySem.W.Frag) (cl : Nat → Value) (W : WXX) (r : Sl → Mem → VL.R (List D)) : TE := fun σ H Q => ∃ ι F ρ M, SR K ι F ρ M σ H ∧ Res K cl W ι F σ H (r ρ M) fun its _ ι' F' H' => ∀ p vs, H' p = none → Reps K ι' F' vs its → Q (.ref p) (upd H' p (.lst vs))
theorem tNL_of {K : PySem.W.Frag} {r : Sl → Mem → VL.R (List D)} {σ : L2.St} {H : Hp} {Q : VK} (z : tE K cl W (fun ρ M => (r ρ M).bind fun its M1 => .ok (.lst its) M1) σ H Q) : tNL K cl W r σ H Q := by
  obtain ⟨ι, F, ρ, M, sr, z⟩ := z
  exact ⟨ι, F, ρ, M, sr, (Res.bind z).imp fun its M1 ι1 F1 H1 s1 f1 m1 q p vs hp rv => fin_new f1 m1 (fun F' H' v s f m r => q _ _ _ s f m v r) hp (rep_new_lst f1 hp rv)⟩
theorem s_lrng (w : XW P nm cl n X sc W) {x y : Str} {p p2 pos pos2 : Pos} {es : List Expr} {xs : List Ex} (h1 : x = "list") (h2 : glB sc x = true) (h3 : y = "range") (h4 : glB sc y = true) (hl : xs.length = 1 ∨ xs.length = 2) (hm : mEs X.N nm xs sc es = true)
    (h : ∀ a ∈ xs, ∀ e, mE X.N nm a sc e = true → PE X e (tE X.K cl W (evE c a))) : PE X (.Call (.Name x p) [.Call (.Name y p2) es [] pos2] [] pos) (tNL X.K cl W fun ρ M => (evEs c xs ρ M).bind fun ds M1 => R.of (itD (if ds.length = 1 then .rng1 else .rng2) ds) M1) := by
  obtain ⟨g1, _⟩ := w.gl h2
  obtain ⟨g2, _⟩ := w.gl h4
  subst h1 h3
  have m1 : X.mg "list" = none := w.fx.blt _ (by decide +kernel)
  have m2 : X.mg "range" = none := w.fx.blt _ (by decide +kernel)
  match xs, es, hl, hm with
  | [a], [e], _, hm =>
    simp only [mEs, Bool.and_eq_true] at hm
    have pe := h a List.mem_cons_self e hm.1.2
    refine PE.weak (pe_listRg w.calm g1 m1 (prg_1 g2 m2 pe (starE_one hm.1.1)) rfl) fun σ H Q z => ?_
    obtain ⟨ι, F, ρ, M, r, z⟩ := z
    simp only [evEs, R.bind_assoc, R.bind_ok] at z
    refine ⟨ι, F, ρ, M, r, z.bind.imp fun d M1 ι1 F1 H1 s1 f1 m1 q v hv => ?_⟩
    rw [if_pos (show [d].length = 1 from rfl)] at q
    cases d with
    | int i =>
      rw [hv.getInt]
      simp only [itD] at q
      split at q
      · rename_i hb
        rw [sizeLine_eq] at hb
        exact ⟨i, rfl, ⟨by omega, by omega, by omega, by omega, by omega⟩, fun p hp => Res.of_ok q f1 m1 p _ hp (rgV_rep 0 i)⟩
      · exact q.elim
    | _ => exact q.elim
  | [a, b], [e, e2], _, hm =>
    simp only [mEs, Bool.and_eq_true] at hm
    have pe := h a List.mem_cons_self e hm.1.2
    have pe2 := h b (List.mem_cons_of_mem _ List.mem_cons_self) e2 hm.2.1.2
    refine PE.weak (pe_listRg w.calm g1 m1 (prg_2 g2 m2 pe pe2 (by rw [starE_two hm.1.1 hm.2.1.1, starE_one hm.2.1.1]) (starE_one hm.2.1.1) (by rw [starE_one hm.2.1.1]; rfl)) rfl) fun σ H Q z => ?_
    obtain ⟨ι, F, ρ, M, r, z⟩ := z
    simp only [evEs, R.bind_assoc, R.bind_ok] at z
    refine ⟨ι, F, ρ, M, r, z.bind.imp fun d M1 ι1 F1 H1 s1 f1 m1 q v hv => ?_⟩
    refine ⟨ι1, F1, ρ, M1, r.step s1 f1 m1, Res.imp (Res.bind q) fun d2 M2 ι2 F2 H2 s2 f2 m2 q v2 hv2 => ?_⟩
    rw [if_neg (show ¬ [d, d2].length = 1 by simp)] at q
    cases d with
    | int i =>
      cases d2 with
      | int j =>
        rw [hv.getInt, hv2.getInt]
        simp only [itD] at q
        split at q
        · rename_i hb
          rw [sizeLine_eq] at hb
          exact ⟨i, j, rfl, rfl, ⟨by omega, by omega, by omega, by omega, by omega⟩, fun p hp => Res.of_ok q f2 m2 p _ hp (rgV_rep i j)⟩
        · exact q.elim
      | _ => exact q.elim
    | _ => exact q.elim
  | [], _, hl, _ => exact absurd hl (by simp)
  | _ :: _ :: _ :: _, _, hl, _ => exact absurd hl (by simp)
  | [_], [], _, hm => simp [mEs] at hm
  | [_], _ :: _ :: _, _, hm => simp [mEs] at hm
  | [_, _], [], _, hm => simp [mEs] at hm
  | [_, _], [_], _, hm => simp [mEs] at hm
  | [_, _], _ :: _ :: _ :: _, _, hm => simp [mEs] at hm
end
end VL

/-! VI: fields, methods, making; displays and comprehensions of dicts; places in a tuple -/
namespace VL
open PySem PySem.Spec PyProof.Rows L2
section
variable {P : Prog} {nm : Nms} {cl : Nat → Value} {n : Nat} {X : Cx} {sc : Scope} {W : WXX}
theorem recv_base {o : Expr} {m : Str} {env : Env} (h : recvB o = true) : attributeBase o m env (eval o env) = eval o env := by
  cases o <;> first | (cases h; done) | skip
  all_goals try rfl
  rename_i f es ks p
  cases es with
  | nil => cases h
  | cons a as => cases f <;> rfl
section
variable {K : PySem.W.Frag} {ι : List Addr} {F H : Hp}
theorem repK_lookS {f : Str} : ∀ {l : List (Str × V)} {fs : List (Str × D)}, RepK K ι F (l.map fun p => (D.str p.1, p.2)) (fs.map fun p => (D.str p.1, p.2)) →
    (fs.lookup f = none → l.lookup f = none) ∧ ∀ d, fs.lookup f = some d → ∃ v, l.lookup f = some v ∧ Rep K ι F v d
  | [], [], _ => ⟨fun _ => rfl, fun d h => by cases h⟩
  | [], _ :: _, r => by cases r
  | _ :: _, [], r => by cases r
  | (a, v) :: l, (b, e) :: fs, r => by
    simp only [List.map_cons] at r
    cases r with
    | cons hv r' =>
      obtain ⟨h1, h2⟩ := repK_lookS (f := f) r'
      simp only [List.lookup_cons]
      cases hq : f == a with
      | true => exact ⟨fun h => (nomatch h), fun d h => by cases h; exact ⟨v, rfl, hv⟩⟩
      | false => exact ⟨h1, h2⟩
end
theorem hasF_ok {k f : Str} (h : nm.hasF k f = true) : ∃ cd ∈ nm.cls, cd.name = k ∧ f ∈ cd.flds := by
  unfold Nms.hasF at h
  simp only [List.any_eq_true, Bool.and_eq_true, decide_eq_true_eq, List.contains_iff_mem] at h
  exact h
theorem hasM_ok {k m : Str} {f : Nat} (h : nm.hasM k m f = true) : ∃ cd ∈ nm.cls, cd.name = k ∧ (m, f) ∈ cd.meths := by
  unfold Nms.hasM at h
  simp only [List.any_eq_true, Bool.and_eq_true, decide_eq_true_eq, List.contains_iff_mem] at h
  exact h
theorem hasI_ok {k : Str} {f : Nat} (h : nm.hasI k f = true) : ∃ cd ∈ nm.cls, cd.name = k ∧ cd.ini = some f := by
  unfold Nms.hasI at h
  simp only [List.any_eq_true, Bool.and_eq_true, decide_eq_true_eq] at h
  exact h
theorem FSub.ins {F H : Hp} {a C dx : Addr} {l : List (Str × V)} (f : FSub F H) (h : F a = some (.ins C dx l)) : H a = some (.ins C dx l) := by
  rcases f _ _ h with z | ⟨z, _⟩
  · exact z
  · cases z
/-- e.f -/
theorem s_fld (w : XW P nm cl n X sc W) {ks : List Str} {f : Str} {a : Expr} {x : Ex} {pos : Pos} {c : Cfg} (hr : recvB a = true) (hk : (ks.all fun k => nm.hasF k f) = true) (h : PE X a (tE X.K cl W (evE c x))) :
    PE X (.Attribute a f pos) (tE X.K cl W (evE c (.fld ks x f))) := by
  refine PE.weak (pe_fld h (recv_base hr)) fun σ H Q q => ?_
  obtain ⟨ι, F, ρ, M, r, q⟩ := q
  simp only [evE] at q
  refine ⟨ι, F, ρ, M, r, q.bind.imp fun d M1 ι1 F1 H1 s1 f1 m1 q1 v hv => ?_⟩
  split at q1
  · split at q1
    · rename_i k fs hm
      obtain ⟨d, e, q2⟩ := s_of q1 f1 m1
      cases hv with
      | ins hF rk =>
        obtain ⟨cd, hc, en, hf⟩ := hasF_ok (List.all_eq_true.mp hk k hm)
        obtain ⟨_, C1, C2, _⟩ := w.fx.cls cd hc
        rw [en] at C1 C2
        obtain ⟨v, lv, rv⟩ := (repK_lookS rk).2 d e
        exact ⟨_, _, _, _, v, rfl, f1.ins hF, C1, C2 f hf, lv, q2 _ _ _ Stp.refl f1 m1 v rv⟩
    · exact q1.elim
  · exact q1.elim
/-- what a method call is -/
theorem ev_meth {o : Expr} {m : Str} {apos pos : Pos} {es : List Expr} {env : Env} (hb : attributeBase o m env (eval o env) = eval o env)
    (hfew : methodCallForm (es.length + ([] : List Keyword).length) (backTo pos (starEach es env)) (backToKw pos (keywordEach [] env)) = true) (hl : (apos.endLine == pos.line) = true) :
    ∃ pl, eval (.Call (.Attribute o m apos) es [] pos) env = (do
      let ov ← eval o env
      standAt apos.atName
      let (f, first) ← holding [ov] (getMethod ov m pl)
      callWith pos f first (backTo pos (starEach es env)) (backToKw pos (keywordEach [] env))) := by
  refine ⟨(do return (← importBound o env).getD true), ?_⟩
  rw [arm_eval_Call, hb]
  unfold methodCall
  rw [hfew]
  unfold calleeOf methodCallPos
  rw [hl]
  simp only [if_true, Bool.not_true, Bool.false_or]
  rfl
theorem star_few {P : Prog} {N : List Str} {env : Env} {pos : Pos} {xs : List Ex} {es : List Expr} (h : mEs N nm xs sc es = true) (hl : es.length < 29) :
    methodCallForm (es.length + ([] : List Keyword).length) (backTo pos (starEach es env)) (backToKw pos (keywordEach [] env)) = true := by
  have e1 := (star_any (P := P) (pos := pos) (env := env) h).1
  unfold methodCallForm
  have e2 : (backToKw pos (keywordEach [] env)) = [] := rfl
  rw [e2]
  simp only [List.all_nil, List.length_nil, Nat.add_zero, List.isEmpty_nil, if_true, Bool.and_true, Bool.and_eq_true, decide_eq_true_eq]
  refine ⟨?_, by omega⟩
  rw [List.any_eq_false] at e1
  rw [List.all_eq_true]
  intro x hx
  have := e1 x hx
  simpa using this
/-- what a method gives -/
noncomputable def mcR (P : Prog) (n : Nat) (k m : Str) (f : Nat) (xs : List Ex) (ρ : Sl) (x : D) (M1 : Mem) : VL.R (Md × D) :=
  match x with
  | .ins k' fs => if k' = k ∧ fs.lookup m = none then (evEs (cfgN P n) xs ρ M1).bind fun ds M2 => callN P n f (x :: ds) M2 else .st
  | _ => .st
theorem s_mcallO (w : XW P nm cl n X sc W) {k m : Str} {f : Nat} {o : Expr} {xo : Ex} {es : List Expr} {xs : List Ex} {apos pos : Pos} (hr : recvB o = true) (hM : nm.hasM k m f = true) (hl : (apos.endLine == pos.line) = true) (h29 : es.length < 29)
    (hm : mEs X.N nm xs sc es = true) (ho : PE X o (tE X.K cl W (evE (cfgN P n) xo))) (ha : PA X es (tA X.K cl W (evEs (cfgN P n) xs))) :
    PE X (.Call (.Attribute o m apos) es [] pos) (tO X.K cl W fun ρ M => (evE (cfgN P n) xo ρ M).bind fun x M1 => mcR P n k m f xs ρ x M1) := by
  obtain ⟨cd, hc, en, hf⟩ := hasM_ok hM
  obtain ⟨_, C1, _, _, C4⟩ := w.fx.cls cd hc
  obtain ⟨a, fd, ps, Me, hb, F⟩ := C4 _ hf
  rw [en] at C1 Me
  obtain ⟨pl, ht⟩ := ev_meth (pos := pos) (apos := apos) (recv_base (m := m) (env := X.env) hr) (star_few (P := P) (pos := pos) hm h29) hl
  refine ⟨fun pins s σ H Q I z => ?_⟩
  have z1 : tE X.K cl W (evE (cfgN P n) xo) σ H fun v H1 => ∃ ι F1 ρ M1 d, SR X.K ι F1 ρ M1 σ H1 ∧ Rep X.K ι F1 v d ∧
      Res X.K cl W ι F1 σ H1 (mcR P n k m f xs ρ d M1) fun d _ ι' F' H' => ∀ v T, DRep X.K ι' F' H' d.1 v d.2 T → New ι' F' H1 H' T → Q v H' := by
    obtain ⟨ι, F', ρ, M, r, z⟩ := z
    refine ⟨ι, F', ρ, M, r, z.bind.imp fun d M1 ι1 F1 H1 s1 f1 m1 q1 v hv => ?_⟩
    exact ⟨ι1, F1, ρ, M1, d, r.step s1 f1 m1, hv, q1.imp fun d M2 ι2 F2 H2 s2 f2 m2 q2 v T hd hn => q2 v T hd (hn.early s1)⟩
  refine PySem.W.methodCall_KW (pl := pl) (thn (ho.run pins s σ H _ I z1) fun u s1 ⟨v, H1, I1, rx, ι, F1, ρ, M1, d, r, hv, q⟩ => ?_) ht
  unfold mcR at q
  split at q
  · rename_i k' fs
    split at q
    · rename_i hk
      obtain ⟨rfl, hno⟩ := hk
      have hv' := hv
      cases hv with
      | ins hF rk =>
        rename_i a0 dx l
        obtain rfl : u = Value.ref a0 := rx
        refine getmeth_ok I1 (r.sub.ins hF) C1 Me ((repK_lookS rk).1 hno) ?_
        cases es with
        | nil =>
          cases xs with
          | cons _ _ => simp [mEs] at hm
          | nil =>
            simp only [evEs, R.bind_ok] at q
            refine PySem.W.callWith_K0 (first := [.ref a0]) I1.kIn Me.kp (run_fnS (us := [.ref a0]) (vs := [.ref a0]) F (w.room.mono (by omega)) hb (passAt w.tk σ) I1 (.cons rfl .nil) ?_)
            refine ⟨ι, F1, M1, _, r.sub, r.mem, .cons hv' .nil, ?_⟩
            cases e : callN P n f [D.ins k' fs] M1 with
            | ok d M2 => rw [e] at q; exact q
            | ex c M2 => rw [e] at q; exact q
            | st => rw [e] at q; exact q
        | cons e es =>
          have hn : nst e = true := by
            cases xs with
            | nil => simp [mEs] at hm
            | cons x xs => simp only [mEs, Bool.and_eq_true] at hm; exact hm.1.1
          have hs : (backTo pos (starEach es X.env)).any (·.1) = false := by
            cases xs with
            | nil => simp [mEs] at hm
            | cons x xs => simp only [mEs, Bool.and_eq_true] at hm; exact (star_any (P := P) hm.2).1
          have z2 : tA X.K cl W (evEs (cfgN P n) xs) σ H1 fun vs H2 => spF X.K cl P n f (.ref a0 :: vs) H2 Q (WE W σ) := by
            refine ⟨ι, F1, ρ, M1, r, q.bind.imp fun ds M2 ι2 F2 H2 s2 f2 m2 q2 vs hvs => ?_⟩
            refine ⟨ι2, F2, M2, _, f2, m2, .cons (s2.rep hv') hvs, ?_⟩
            have q3 := q2.imp (P' := fun d _ ι' F' H' => ∀ v T, DRep X.K ι' F' H' d.1 v d.2 T → New ι' F' H2 H' T → Q v H') fun d M3 ι3 F3 H3 s3 f3 m3 q4 v T hd hn => q4 v T hd (hn.early s2)
            cases e : callN P n f (D.ins k' fs :: ds) M2 with
            | ok d M3 => rw [e] at q3; exact q3
            | ex c M3 => rw [e] at q3; exact q3
            | st => rw [e] at q3; exact q3
          refine PySem.W.callWith_K (first := [.ref a0]) (h₀ := X.base) I.ok.mod.kin Me.kp (thn (ha.run pos pins s1 σ H1 _ I1 z2) fun us s2 ⟨vs, H2, I2, r2, q2⟩ => ⟨I2.kIn, ?_⟩) (star_ok hn) hs
          exact run_fnS (us := .ref a0 :: us) (vs := .ref a0 :: vs) F (w.room.mono (by omega)) hb (passAt w.tk σ) I2 (.cons rfl r2) q2
    · exact q.elim
  · exact q.elim
theorem s_mcall (w : XW P nm cl n X sc W) {k m : Str} {f : Nat} {o : Expr} {xo : Ex} {es : List Expr} {xs : List Ex} {apos pos : Pos} (hr : recvB o = true) (hM : nm.hasM k m f = true) (hl : (apos.endLine == pos.line) = true) (h29 : es.length < 29)
    (hm : mEs X.N nm xs sc es = true) (ho : PE X o (tE X.K cl W (evE (cfgN P n) xo))) (ha : PA X es (tA X.K cl W (evEs (cfgN P n) xs))) :
    PE X (.Call (.Attribute o m apos) es [] pos) (tE X.K cl W (evE (cfgN P n) (.mcall k m f xo xs))) :=
  PE.weak (s_mcallO w hr hM hl h29 hm ho ha) fun σ H Q z => tO_E (by
    obtain ⟨ι, F, ρ, M, r, z⟩ := z
    refine ⟨ι, F, ρ, M, r, ?_⟩
    simp only [evE] at z
    dsimp only
    cases e : evE (cfgN P n) xo ρ M with
    | st => rw [e] at z; exact z
    | ex c M1 => rw [e] at z; exact z
    | ok d M1 =>
      rw [e] at z
      simp only [R.bind_ok] at z ⊢
      cases d <;> try exact z
      rename_i k' fs
      unfold mcR
      dsimp only at z ⊢
      split
      · rename_i hk
        rw [if_pos hk] at z
        rw [R.bind_assoc]
        exact z
      · rename_i hk
        rw [if_neg hk] at z
        exact z)
/-- C(..) -/
theorem s_mk (w : XW P nm cl n X sc W) {f : Nat} {x : Str} {p pos : Pos} {es : List Expr} {xs : List Ex} (h1 : nm.hasI x f = true) (h2 : glB sc x = true) (hm : mEs X.N nm xs sc es = true)
    (ha : PA X es (tA X.K cl W (evEs (cfgN P n) xs))) : PE X (.Call (.Name x p) es [] pos) (tE X.K cl W (evE (cfgN P n) (.mk f xs))) := by
  obtain ⟨g, o⟩ := w.gl h2
  obtain ⟨a1, b1, _⟩ := okN_d o
  obtain ⟨cd, hc, en, hf⟩ := hasI_ok h1
  obtain ⟨e1, _, _, C3, _⟩ := w.fx.cls cd hc
  obtain ⟨a, fd, ps, Mk, hb, F⟩ := C3 f hf
  rw [en] at e1 Mk F
  have hx : Passes (L2.CX X.prog X.w) X (fun _ _ _ => False) := fun pins σ H s e s' I hc => by
    obtain ⟨_, _, _, _, _, _, _, _, _, _, _, _, z⟩ := hc
    exact z.elim
  have key : ∀ {ι : List Addr} {F : Hp} {ρ : Sl} {M1 : Mem} {ds : List D} {σ : L2.St} {H : Hp} {Q : VK} {vs : List V}, SR X.K ι F ρ M1 σ H → Reps X.K ι F vs ds →
      Res X.K cl W ι F σ H (((callN P n f ds M1).nox).bind fun r M2 => if r.1 = .z then .ok r.2 M2 else .st) (fun d _ ι' F' H' => ∀ v, Rep X.K ι' F' v d → Q v H') →
      ∀ q dx, H q = none → H dx = none → dx ≠ q → spI X.K cl P n f (He.ga X.K x) (.ref q :: (vs ++ [])) (upd (upd H dx (.own q)) q (.ins (He.ga X.K x) dx [])) (fun v H2 => v = .non ∧ Q (.ref q) H2) (fun _ _ _ => False) := fun {ι F ρ M1 ds σ H Q vs} r hv q p dx hp hd hne => by
    refine ⟨p, dx, H, vs, by rw [List.append_nil], rfl, hp, hd, hne, ι, F, M1, ds, r.sub, r.mem, hv, ?_⟩
    cases e : callN P n f ds M1 with
    | ok d M2 =>
      rw [e] at q
      simp only [R.nox_ok, R.bind_ok] at q
      intro ι' F' H' s f m hz hrep
      rw [if_pos hz] at q
      exact ⟨rfl, q ι' F' H' s f m _ hrep⟩
    | ex c M2 => rw [e] at q; exact q.elim
    | st => rw [e] at q; exact q.elim
  cases es with
  | nil =>
    cases xs with
    | cons _ _ => simp [mEs] at hm
    | nil =>
      refine PE.weak (pe_make0 (k := 2 * n) Mk F w.room g e1 hb .nil hx a1) fun σ H Q z => ?_
      obtain ⟨ι, F', ρ, M, r, z⟩ := z
      simp only [evE, evEs, R.bind_ok] at z
      exact key r .nil z
  | cons e es =>
    have hn : nst e = true := by
      cases xs with
      | nil => simp [mEs] at hm
      | cons x xs => simp only [mEs, Bool.and_eq_true] at hm; exact hm.1.1
    have hs : (backTo pos (starEach es X.env)).any (·.1) = false := by
      cases xs with
      | nil => simp [mEs] at hm
      | cons x xs => simp only [mEs, Bool.and_eq_true] at hm; exact (star_any (P := P) hm.2).1
    refine PE.weak (pe_make (k := 2 * n) Mk F w.room g e1 hb .nil hx ha a1 (star_ok hn) hs) fun σ H Q z => ?_
    obtain ⟨ι, F', ρ, M, r, z⟩ := z
    simp only [evE] at z
    exact ⟨ι, F', ρ, M, r, z.bind.imp fun ds M1 ι1 F1 H1 s1 f1 m1 q1 vs hv => key (r.step s1 f1 m1) hv q1⟩
/-! ### displays of dicts -/
def foldD (r : List (D × D)) (a : List (D × D)) : List (D × D) := r.foldl (fun acc q => putD q.1 q.2 acc) a
theorem foldD_len : ∀ (r a : List (D × D)), (foldD r a).length ≤ a.length + r.length
  | [], a => Nat.le_refl _
  | q :: r, a => by
    have h := foldD_len r (putD q.1 q.2 a)
    have h2 : (putD q.1 q.2 a).length ≤ a.length + 1 := by
      unfold putD
      split <;> simp
    show (foldD r (putD q.1 q.2 a)).length ≤ _
    rw [List.length_cons]; omega
theorem keyD_inj' {a b : Key} (h : keyD a = keyD b) : a = b := by
  cases a <;> cases b <;> cases h <;> rfl
section
variable {K : PySem.W.Frag} {ι : List Addr} {F H : Hp} {ρ : Sl} {M : Mem} {σ : L2.St}
theorem repK_foldS : ∀ (ks : List Str) {vs : List V} {ds : List D}, Reps K ι F vs ds → ∀ {acc : List (Key × V)} {kacc : List (D × D)}, RepK K ι F (acc.map fun p => (keyD p.1, p.2)) kacc →
    RepK K ι F ((mergeK acc ((ks.map Sum.inr).zip vs)).map fun p => (keyD p.1, p.2)) (foldD ((ks.map D.str).zip ds) kacc)
  | [], vs, ds, _, acc, kacc, ra => ra
  | k :: ks, _, _, .nil, acc, kacc, ra => ra
  | k :: ks, v :: vs, d :: ds, .cons hv r, acc, kacc, ra => repK_foldS ks r (repK_put (kd := keyD) (k := .inr k) keyD_inj' hv ra)
theorem Res.lateI {α : Type} {r : VL.R α} {ι1 : List Addr} {F1 H1 : Hp} {Pd : α → Mem → List Addr → Hp → Hp → Prop} (h : Res K cl W ι F σ H r Pd) (s : Stp ι F H ι1 F1 H1) : Res K cl W ι1 F1 σ H1 r Pd := by
  cases r with
  | ok d M' => exact fun ι' F' H' s' f m => h ι' F' H' (s.trans s') f m
  | ex c M' => exact fun ι' F' H' s' f m => h ι' F' H' (s.trans s') f m
  | st => exact h
end
def dTrs (K : PySem.W.Frag) (cl : Nat → Value) (W : WXX) (c : Cfg) : List Str → List Ex → List (TE × TE)
  | k :: ks, x :: xs => (tC (.str k), tE K cl W (evE c x)) :: dTrs K cl W c ks xs
  | _, _ => []
theorem tPairs_mono : ∀ (trs : List (TE × TE)) {σ : L2.St} {H : Hp} {Q Q' : List (V × V) → Hp → Prop}, (∀ te : TE × TE, te ∈ trs → (∀ σ H (Q Q' : VK), (∀ v H, Q v H → Q' v H) → te.1 σ H Q → te.1 σ H Q') ∧ (∀ σ H (Q Q' : VK), (∀ v H, Q v H → Q' v H) → te.2 σ H Q → te.2 σ H Q')) →
    (∀ ps H, Q ps H → Q' ps H) → tPairs trs σ H Q → tPairs trs σ H Q'
  | [], _, _, _, _, _, h, z => h _ _ z
  | te :: trs, σ, H, Q, Q', hm, h, z => by
    obtain ⟨m1, m2⟩ := hm te List.mem_cons_self
    exact m1 _ _ _ _ (fun y H1 => m2 _ _ _ _ fun y2 H2 => tPairs_mono trs (fun te h => hm te (List.mem_cons_of_mem _ h)) fun ps H3 => h _ _) z
theorem dTrs_mono {c : Cfg} (ks : List Str) (xs : List Ex) {σ : L2.St} {H : Hp} {Q Q' : List (V × V) → Hp → Prop} (h : ∀ ps H, Q ps H → Q' ps H) (z : tPairs (dTrs X.K cl W c ks xs) σ H Q) : tPairs (dTrs X.K cl W c ks xs) σ H Q' := by
  refine tPairs_mono _ ?_ h z
  clear h z
  induction ks generalizing xs with
  | nil => intro te h; simp [dTrs] at h
  | cons k ks ih =>
    intro te h
    cases xs with
    | nil => simp [dTrs] at h
    | cons x xs =>
      rcases List.mem_cons.mp h with rfl | h
      · refine ⟨fun σ H Q Q' i z => i _ _ z, fun σ H Q Q' i z => ?_⟩
        obtain ⟨ι, F, ρ, M, r, z⟩ := z
        exact ⟨ι, F, ρ, M, r, z.imp fun d M1 ι1 F1 H1 s1 f1 m1 q v hv => i _ _ (q v hv)⟩
      · exact ih xs te h
theorem pairs_run {c : Cfg} : ∀ (ks : List Str) (xs : List Ex) {ι : List Addr} {F : Hp} {ρ : Sl} {M : Mem} {σ : L2.St} {H : Hp} {Rr : List V → Hp → Prop}, ks.length = xs.length → SR X.K ι F ρ M σ H →
    Res X.K cl W ι F σ H (evEs c xs ρ M) (fun ds _ ι' F' H' => ∀ vs, Reps X.K ι' F' vs ds → Rr vs H') → tPairs (dTrs X.K cl W c ks xs) σ H fun ps H' => ∃ vs, ps = (ks.zip vs).map (fun q => (V.str q.1, q.2)) ∧ ks.length = vs.length ∧ Rr vs H'
  | [], [], ι, F, ρ, M, σ, H, Rr, _, r, z => by
    simp only [evEs] at z
    exact ⟨[], rfl, rfl, Res.of_ok z r.sub r.mem [] .nil⟩
  | k :: ks, x :: xs, ι, F, ρ, M, σ, H, Rr, hl, r, z => by
    simp only [evEs] at z
    refine ⟨ι, F, ρ, M, r, z.bind.imp fun d M1 ι1 F1 H1 s1 f1 m1 q v hv => ?_⟩
    have r1 := r.step s1 f1 m1
    have ih := pairs_run ks xs (Rr := fun vs H' => Rr (v :: vs) H') (by simpa using hl) r1 (q.bind.imp fun ds M2 ι2 F2 H2 s2 f2 m2 q2 vs hvs => Res.of_ok q2 f2 m2 (v :: vs) (.cons (s2.rep hv) hvs))
    refine dTrs_mono ks xs ?_ ih
    · rintro ps H' ⟨vs, rfl, hlv, h⟩
      exact ⟨v :: vs, rfl, by simp [hlv], h⟩
theorem dTrs_pps {c : Cfg} {pos : Pos} {N : List Str} : ∀ (ks : List Str) (xs : List Ex) (keys : List (Option Expr)) (es : List Expr), keysB ks keys = true → keys.length = es.length → mEs N nm xs sc es = true →
    (∀ a ∈ xs, ∀ e, mE N nm a sc e = true → PE X e (tE X.K cl W (evE c a))) → PPs X pos keys es (dTrs X.K cl W c ks xs) ∧ ks.length = xs.length ∧ keys.all (·.isSome) = true ∧ keys.length = ks.length
  | [], xs, keys, es, hk, hl, hm, hx => by
    simp only [keysB, List.isEmpty_iff] at hk
    subst hk
    cases es with
    | cons _ _ => cases hl
    | nil =>
      cases xs with
      | cons _ _ => simp [mEs] at hm
      | nil => exact ⟨pps_nil, rfl, rfl, rfl⟩
  | k :: ks, xs, keys, es, hk, hl, hm, hx => by
    unfold keysB at hk
    split at hk
    · rename_i z j p q
      simp only [Bool.and_eq_true, decide_eq_true_eq] at hk
      obtain ⟨rfl, hk⟩ := hk
      cases es with
      | nil => cases hl
      | cons e es =>
        cases xs with
        | nil => simp [mEs] at hm
        | cons x xs =>
          simp only [mEs, Bool.and_eq_true] at hm
          obtain ⟨h1, h2, h3, h4⟩ := dTrs_pps ks xs q es hk (by simpa using hl) hm.2 fun a ha => hx a (List.mem_cons_of_mem _ ha)
          exact ⟨pps_cons pe_str (hx x List.mem_cons_self e hm.1.2) h1, by simp [h2], by simpa using h3, by simp [h4]⟩
    · cases hk
theorem s_disp (w : XW P nm cl n X sc W) {c : Cfg} {ks : List Str} {xs : List Ex} {keys : List (Option Expr)} {es : List Expr} {pos : Pos} (hk : keysB ks keys = true) (hne : ks.isEmpty = false) (h15 : ks.length ≤ 15) (hl : keys.length = es.length) (hm : mEs X.N nm xs sc es = true)
    (hx : ∀ a ∈ xs, ∀ e, mE X.N nm a sc e = true → PE X e (tE X.K cl W (evE c a))) : PE X (.Dict keys es pos) (tE X.K cl W (evE c (.disp ks xs))) := by
  obtain ⟨h1, h2, h3, h4⟩ := dTrs_pps (pos := pos) ks xs keys es hk hl hm hx
  refine PE.weak (pe_disp h1 h3 hl (fun e => by rw [e] at h4; cases ks with | nil => cases hne | cons _ _ => cases h4) (by omega)) fun σ H Q z => ?_
  obtain ⟨ι, F, ρ, M, r, z⟩ := tL_of z
  simp only [evE] at z
  intro p hp
  have hF : F p = none := by
    cases e : F p with
    | none => rfl
    | some u => exact absurd hp (r.sub.isSome e)
  have hi : p ∉ ι := fun h => (r.mem.there h).1 hp
  obtain ⟨f0, m0⟩ := out_upd (o := .dK []) r.sub r.mem hF hi
  have s0 : Stp ι F H ι F (upd H p (.dK [])) := Stp.refl.upd hp
  have r0 := r.step s0 f0 m0
  have q := pairs_run (W := W) ks xs (Rr := fun vs H2 => H2 p = some (.dK []) ∧ Q (.ref p) (upd H2 p (.dK (mergeK [] ((ks.map (Sum.inr (α := Int))).zip vs))))) h2 r0 (by
    cases e : evEs c xs ρ M with
    | st => rw [e] at z; exact z.elim
    | ex cc M1 => rw [e] at z; exact fun ι1 F1 H1 s1 f1 m1 => z ι1 F1 H1 (s0.trans s1) f1 m1
    | ok ds M1 =>
      rw [e, R.bind_ok] at z
      intro ι1 F1 H1 s1 f1 m1 vs hvs
      obtain ⟨k1, k2, k3⟩ := s1.own (o := .dK []) upd_same hF hi
      refine ⟨k1, ?_⟩
      split at z
      · obtain ⟨f2, m2⟩ := out_upd (o := .dK (mergeK [] ((ks.map Sum.inr).zip vs))) f1 m1 k2 k3
        exact z ι1 F1 _ ((s0.trans s1).upd hp) f2 m2 p ⟨_, ⟨_, upd_same, rfl⟩, repK_foldS ks hvs .nil⟩ k2 k3 hp
      · exact z.elim)
  refine dTrs_mono ks xs ?_ q
  rintro ps H2 ⟨vs, rfl, hlv, k1, k2⟩
  refine ⟨k1, (ks.map (Sum.inr (α := Int))).zip vs, ?_, ?_, k2⟩
  · have : ∀ (ks : List Str) (vs : List V), (ks.zip vs).map (fun q => (V.str q.1, q.2)) = ((ks.map (Sum.inr (α := Int))).zip vs).map fun kv => (kV kv.1, kv.2) := by
      intro ks
      induction ks with
      | nil => intro vs; rfl
      | cons k ks ih =>
        intro vs
        cases vs with
        | nil => rfl
        | cons v vs => simp only [List.map_cons, List.zip_cons_cons, ih vs]; rfl
    exact this ks vs
  · rw [List.length_zip, List.length_map]; omega
/-! ### comprehensions of dicts -/
def dcF (c : Cfg) (kx vx : Ex) (p : Pt) (own : List Nat) (ρ : Sl) : D → Mem → VL.R (Option (D × D)) := fun d M3 => match bindP p d (killS ρ own) with
  | some ρ' => (evE c kx ρ' M3).bind fun y M4 => (evE c vx ρ' M4).bind fun z M5 => if okK false y = true then .ok (some (y, z)) M5 else .st
  | none => .st
structure DcAt (K : PySem.W.Frag) (f : D → Mem → VL.R (Option (D × D))) (items : List D) (fin : List (D × D)) (M3 : Mem) (ι2 : List Addr) (F2 H2 : Hp) (D : Addr) (i : Nat) (H : Hp) : Prop where
  ex : ∃ ι F Mi kvs kacc rest, Stp ι2 F2 H2 ι F H ∧ FSub F H ∧ MemRep K ι F Mi H ∧ H D = some (.dK kvs) ∧ RepK K ι F (kvs.map fun q => (keyD q.1, q.2)) kacc ∧ F D = none ∧ D ∉ ι ∧ kacc.length ≤ i ∧ compL f (items.drop i) Mi = .ok rest M3 ∧ foldD rest kacc = fin
section
variable {K : PySem.W.Frag} {σ : L2.St} {ρ : Sl}
theorem dc_run {kx vx : Ex} {p : Pt} {own : List Nat} {items : List VL.D} {rs : List (VL.D × VL.D)} {M3 : Mem} {ι2 : List Addr} {F2 H2 : Hp} {J : It} {D : Addr} {Q : VK} {Mz : Mem} {c : Cfg} {tk tv : TE}
    (r : SR K ι2 F2 ρ Mz σ H2) (wk : Wk K J ι2 F2 H2 items) (hl : items.length ≤ sizeLine) (hD : H2 D = none) (he : compL (dcF c kx vx p own ρ) items Mz = .ok rs M3) (hp : ∀ i ∈ ptV p, i ∈ own)
    (htk : ∀ σ H Q, tE K cl (fun _ _ _ _ => False) (evE c kx) σ H Q → tk σ H Q) (htv : ∀ σ H Q, tE K cl (fun _ _ _ _ => False) (evE c vx) σ H Q → tv σ H Q)
    (q : ∀ ι' F' H', Stp ι2 F2 H2 ι' F' H' → FSub F' H' → MemRep K ι' F' M3 H' → OwRep K ι' F' H' D (.dic false (foldD rs [])) → F' D = none → D ∉ ι' → Q (.ref D) H') :
    ∃ W : Nat → Nat → Hp → Prop, (∃ m, W 0 m (upd H2 D (.dK []))) ∧ ∀ i m H, W i m H →
      (J.stop i H ∧ Q (.ref D) H) ∨ (J.go i H ∧ ∃ Nx : Hp → Prop, (∀ H', Nx H' → ∃ m', m' < m ∧ W (i + 1) m' H') ∧ ∀ x H', J.yld i H x H' → tG K p x (wipe σ own) H' fun σ2 H2 => wipe σ2 own = wipe σ own ∧ tYes σ2 H2 fun b H3 =>
        if b = true then tk σ2 H3 fun y H4 => tv σ2 H4 fun z H5 => ∃ kvs k, y = kV k ∧ H5 D = some (.dK kvs) ∧ kvs.length < sizeLine ∧ Nx (upd H5 D (.dK (putK kvs k z))) else Nx H3) := by
  have hF2 : F2 D = none := by
    cases e : F2 D with
    | none => rfl
    | some u => exact absurd hD (r.sub.isSome e)
  have hi2 : D ∉ ι2 := fun h => (r.mem.there h).1 hD
  refine ⟨fun i m H => m = items.length - i ∧ i ≤ items.length ∧ DcAt K (dcF c kx vx p own ρ) items (foldD rs []) M3 ι2 F2 H2 D i H, ⟨items.length, rfl, Nat.zero_le _, ?_⟩, ?_⟩
  · obtain ⟨a1, a2⟩ := out_upd (o := .dK []) r.sub r.mem hF2 hi2
    exact ⟨ι2, F2, Mz, [], [], rs, Stp.refl.upd hD, a1, a2, upd_same, .nil, hF2, hi2, Nat.le_refl _, by simpa using he, rfl⟩
  · rintro i m H ⟨rfl, hi, ⟨ι, F, Mi, kvs, kacc, rest, st, f, mr, hd, hv, hF, hn, ha, hc, er⟩⟩
    by_cases hlt : i < items.length
    · refine .inr ⟨wk.go i F H st.subF f (st.kp r.mem) hlt, fun H' => DcAt K (dcF c kx vx p own ρ) items (foldD rs []) M3 ι2 F2 H2 D (i + 1) H', fun H' h => ⟨items.length - (i + 1), by omega, rfl, by omega, h⟩, fun x H' y => ?_⟩
      obtain ⟨d, F', e1, s1, f1, m1, rx⟩ := wk.yld i ι F H Mi x H' st.ix st.subF f (st.kp r.mem) mr y hlt
      obtain ⟨d1, d2, d3⟩ := s1.own hd hF hn
      have edrop : items.drop i = d :: items.drop (i + 1) := by
        rw [List.drop_eq_getElem_cons hlt]
        rw [List.getElem?_eq_getElem hlt] at e1
        cases e1; rfl
      rw [edrop] at hc
      obtain ⟨o, M1, rr, c1, c2, c3⟩ := compL_cons_ok hc
      unfold dcF at c1
      split at c1
      · rename_i ρ' eb
        obtain ⟨O, r1⟩ : SR K ι F' ρ Mi σ H' := (r.step st f mr).step s1 f1 m1
        refine ⟨ι, F', O, killS ρ own, Mi, d, ρ', r1.wipe own, rx, eb, fun σ' r2 out => ⟨out.wipe hp, ?_⟩⟩
        simp only [tYes, if_true]
        refine htk _ _ _ ⟨ι, F', ρ', Mi, ⟨O, r2⟩, ?_⟩
        cases ek : evE c kx ρ' Mi with
        | ok yd M4 =>
          rw [ek, R.bind_ok] at c1
          intro ι4 F4 H4 s4 f4 m4 yv hy
          obtain ⟨g1, g2, g3⟩ := s4.own d1 d2 d3
          refine htv _ _ _ ⟨ι4, F4, ρ', M4, ⟨O, r2.step s4 f4 m4⟩, ?_⟩
          cases ev : evE c vx ρ' M4 with
          | ok zd M5 =>
            rw [ev, R.bind_ok] at c1
            split at c1
            · rename_i ok
              cases c1
              intro ι5 F5 H5 s5 f5 m5 zv hz
              obtain ⟨k1, k2, k3⟩ := s5.own g1 g2 g3
              obtain ⟨k, rfl, rfl⟩ := flat_key hy ok
              have hvs : RepK K ι5 F5 (kvs.map fun q => (keyD q.1, q.2)) kacc := (hv.mono s1.ix s1.subF).mono (s4.trans s5).ix (s4.trans s5).subF
              have hlen := repK_len hvs
              rw [List.length_map] at hlen
              refine ⟨kvs, k, rfl, k1, by omega, ?_⟩
              obtain ⟨a1, a2⟩ := out_upd (o := .dK (putK kvs k zv)) f5 m5 k2 k3
              have hput := repK_put (kd := keyD) (k := k) keyD_inj hz hvs
              have hl2 := repK_len hput
              have hl3 := length_putK kvs k zv
              rw [List.length_map] at hl2
              refine ⟨ι5, F5, M1, _, putD (keyD k) zd kacc, rr, (((st.trans s1).trans s4).trans s5).upd hD, a1, a2, upd_same, hput, k2, k3, by omega, c2, ?_⟩
              rw [← er, c3]; rfl
            · cases c1
          | ex _ _ => rw [ev] at c1; cases c1
          | st => rw [ev] at c1; cases c1
        | ex _ _ => rw [ek] at c1; cases c1
        | st => rw [ek] at c1; cases c1
      · cases c1
    · have e : i = items.length := by omega
      subst e
      refine .inl ⟨wk.stop F H st.subF f (st.kp r.mem), ?_⟩
      rw [List.drop_length] at hc
      simp only [compL] at hc
      cases hc
      refine q ι F H st f mr ⟨_, ⟨_, hd, rfl⟩, ?_⟩ hF hn
      rw [← er]
      exact hv
end
theorem s_dcomp (w : XW P nm cl n X sc W) {c : Cfg} {kx vx : Ex} {p : Pt} {own : List Nat} {k : ItK} {args : List Ex} {ek ev tg iter : Expr} {scope : Scope} {pos : Pos}
    (hb : blkC X.N sc scope (own.map fun i => (X.N.getD i "", i)) = true) (hp : mP X.N scope p tg = true) (hpo : (ptV p).all (fun i => own.contains i) = true) (hset : ∀ a b c, iter ≠ .Set a b c)
    (hi : PI X tg iter (tI X.K cl W fun ρ M => (evEs c args ρ M).bind fun ds M1 => R.of (itD k ds) M1))
    (hk : ∀ (X' : Cx), X'.N = X.N → X'.K = X.K → XW P nm cl n X' scope (fun _ _ _ _ => False) → PE X' ek (tE X'.K cl (fun _ _ _ _ => False) (evE c kx)))
    (hv : ∀ (X' : Cx), X'.N = X.N → X'.K = X.K → XW P nm cl n X' scope (fun _ _ _ _ => False) → PE X' ev (tE X'.K cl (fun _ _ _ _ => False) (evE c vx))) :
    PE X (.DictComp ek ev [⟨tg, iter, [], 0⟩] scope pos) (tE X.K cl W (evE c (.dcomp kx vx p k args own))) := by
  have eown : (own.map fun i => (X.N.getD i "", i)).map (·.2) = own := by rw [List.map_map]; exact List.map_id' own
  have hw := fun s H C cs fp => w.blk (scope := scope) s H C cs fp
  have base := pe_dc (X := X) (kx := ek) (vx := ev) (tg := tg) (iter := iter) (ifs := []) (scope := scope) (pos := pos) (own := own.map fun i => (X.N.getD i "", i)) (g := tG X.K p) (tt := tYes)
    (tk := tE X.K cl (fun _ _ _ _ => False) (evE c kx)) (tv := tE X.K cl (fun _ _ _ _ => False) (evE c vx)) w.calm w.nd hi (blk_ok w hb)
    (fun s H C cs fp => s_pat (hw s H C cs fp) hp) (fun s H C cs fp => pts_nil) (fun s H C cs fp => hk _ rfl rfl (hw s H C cs fp)) (fun s H C cs fp => hv _ rfl rfl (hw s H C cs fp)) (set_ok hset)
  rw [eown] at base
  refine PE.weak base fun σ H Q z => ?_
  obtain ⟨ι, F, ρ, M, r, z⟩ := tL_of z
  have z : Res X.K cl W ι F σ H (((evEs c args ρ M).bind fun ds M1 => R.of (itD k ds) M1).bind fun items M2 => ((compL (dcF c kx vx p own ρ) items M2).nox).bind fun rs M3 => VL.R.ok (D.dic false (foldD rs [])) M3) (fun d _ ι' F' H' => ∀ p, OwRep X.K ι' F' H' p d → F' p = none → p ∉ ι' → H p = none → Q (.ref p) H') := by
    rw [R.bind_assoc]
    simp only [evE] at z
    exact z
  refine ⟨ι, F, ρ, M, r, Res.imp (Res.bind z) fun items M2 ι2 F2 H2 s2 f2 m2 q J wk hl D hD => ?_⟩
  cases e : compL (dcF c kx vx p own ρ) items M2 with
  | ok rs M3 =>
    rw [e] at q
    refine dc_run (r.step s2 f2 m2) wk hl hD e (fun i hi => by
      have := List.all_eq_true.mp hpo i hi
      simpa using this) (fun _ _ _ z => z) (fun _ _ _ z => z) fun ι' F' H' s f m o hF hn => ?_
    refine q ι' F' H' s f m D o hF hn ?_
    by_cases hh : H D = none
    · exact hh
    · exact absurd hD (s2.live D hh)
  | ex _ _ => rw [e] at q; exact q.elim
  | st => rw [e] at q; exact q.elim
/-! ### places in a tuple -/
theorem strsOf_ok {K : PySem.W.Frag} {ι : List Addr} {F : Hp} : ∀ {xs : List D} {ys : List Str} {vs : List V}, strsOf xs = some ys → Reps K ι F vs xs → vs = ys.map V.str
  | [], ys, vs, h, r => by cases h; cases r; rfl
  | x :: xs, ys, vs, h, r => by
    cases x <;> try (cases h; done)
    rename_i s
    simp only [strsOf, Option.map_eq_some_iff] at h
    obtain ⟨zs, e, rfl⟩ := h
    cases r with
    | cons h1 h2 =>
      cases h1
      rw [strsOf_ok e h2]; rfl
theorem idx_no {z : Str} : ∀ {zs : List Str} {m : Nat}, m < zs.idxOf z → zs[m]? ≠ some z
  | [], m, h => by simp at h
  | a :: zs, m, h => by
    rw [List.idxOf_cons] at h
    cases hb : a == z with
    | true => rw [hb] at h; simp at h
    | false =>
      rw [hb] at h
      simp only [cond_false] at h
      cases m with
      | zero =>
        intro e
        simp only [List.getElem?_cons_zero, Option.some.injEq] at e
        rw [e] at hb; simp at hb
      | succ m => simpa using idx_no (z := z) (zs := zs) (m := m) (by omega)
theorem s_mthI (w : XW P nm cl n X sc W) {c : Cfg} {o : Expr} {xo : Ex} {es : List Expr} {xs : List Ex} {apos cpos : Pos} (hr : recvB o = true) (h1 : es.length = 1) (hl : (apos.endLine == cpos.line) = true) (hm : mEs X.N nm xs sc es = true)
    (ho : PE X o (tE X.K cl W (evE c xo))) (ha : PA X es (tA X.K cl W (evEs c xs))) : PE X (.Call (.Attribute o "index" apos) es [] cpos) (tE X.K cl W (evE c (.mth .index xo xs))) := by
  have hfew := star_few (P := P) (pos := cpos) (env := X.env) hm (by omega)
  cases es with
  | nil => cases h1
  | cons e es =>
    have hn : nst e = true := by
      cases xs with
      | nil => simp [mEs] at hm
      | cons x xs => simp only [mEs, Bool.and_eq_true] at hm; exact hm.1.1
    have hs : (backTo cpos (starEach es X.env)).any (·.1) = false := by
      cases xs with
      | nil => simp [mEs] at hm
      | cons x xs => simp only [mEs, Bool.and_eq_true] at hm; exact (star_any (P := P) hm.2).1
    refine PE.weak (pe_bm PySem.F.plainAttrs_tuple PySem.F.slot_tuple_index PySem.F.type_tuple_index mt_tup_index ho ha (recv_base hr) hfew hl (star_ok hn) hs) fun σ H Q z => ?_
    obtain ⟨ι, F, ρ, M, r, z⟩ := z
    simp only [evE] at z
    refine ⟨ι, F, ρ, M, r, z.bind.imp fun d M1 ι1 F1 H1 s1 f1 m1 q1 v hv => ?_⟩
    cases hv with
    | ktup sq tk rs =>
      rename_i a vs ds
      have q1 := (if_pos (show true = true from rfl) ▸ q1 : Res X.K cl W ι1 F1 σ H1 ((evEs c xs ρ M1).bind fun ds2 M2 => R.of (mthD .index (.ktup ds) ds2) M2) _)
      refine ⟨.inr (.inl ⟨rfl, tk⟩), ι1, F1, ρ, M1, r.step s1 f1 m1, q1.bind.imp fun as M2 ι2 F2 H2 s2 f2 m2 q2 us hus => ?_⟩
      cases hm1 : mthD .index (.ktup ds) as with
      | none => rw [hm1] at q2; exact q2.elim
      | some dd =>
        rw [hm1] at q2
        rw [mthD_index] at hm1
        split at hm1 <;> try (cases hm1; done)
        rename_i z
        simp only [Option.bind_eq_some_iff] at hm1
        obtain ⟨zs, e1, e2⟩ := hm1
        split at e2
        · rename_i hz
          cases e2
          cases hus with
          | cons u1 u2 =>
            cases u2
            cases u1
            have ev := strsOf_ok e1 rs
            rw [ev] at sq
            have hlt := List.idxOf_lt_length_of_mem hz
            refine ⟨_, zs, z, zs.idxOf z, rfl, rfl, f2.sqT (SqT.mono s2.subF sq), ?_, fun m hm => idx_no hm, Res.of_ok q2 f2 m2 _ (.int _)⟩
            rw [List.getElem?_eq_getElem hlt, List.getElem_idxOf hlt]
        · cases e2
    | _ => exact (if_neg (show ¬ (false = true) by decide) ▸ q1 : Res X.K cl W ι1 F1 σ H1 .st _).elim
theorem s_mthL (w : XW P nm cl n X sc W) {c : Cfg} {o : Expr} {xo : Ex} {es : List Expr} {xs : List Ex} {apos cpos : Pos} (hr : recvB o = true) (h1 : es.length = 1) (hl : (apos.endLine == cpos.line) = true) (hm : mEs X.N nm xs sc es = true)
    (ho : PE X o (tE X.K cl W (evE c xo))) (ha : PA X es (tA X.K cl W (evEs c xs))) : PE X (.Call (.Attribute o "index" apos) es [] cpos) (tE X.K cl W (evE c (.mth .indexL xo xs))) := by
  have hfew := star_few (P := P) (pos := cpos) (env := X.env) hm (by omega)
  have hu : X.A.units + 65 < cLine := by have := w.room.un; omega
  cases es with
  | nil => cases h1
  | cons e es =>
    have hn : nst e = true := by
      cases xs with
      | nil => simp [mEs] at hm
      | cons x xs => simp only [mEs, Bool.and_eq_true] at hm; exact hm.1.1
    have hs : (backTo cpos (starEach es X.env)).any (·.1) = false := by
      cases xs with
      | nil => simp [mEs] at hm
      | cons x xs => simp only [mEs, Bool.and_eq_true] at hm; exact (star_any (P := P) hm.2).1
    refine PE.weak (pe_bm PySem.F.plainAttrs_list PySem.F.slot_list_index PySem.F.type_list_index (mt_indexD hu) ho ha (recv_base hr) hfew hl (star_ok hn) hs) fun σ H Q z => ?_
    obtain ⟨ι, F, ρ, M, r, z⟩ := z
    simp only [evE] at z
    refine ⟨ι, F, ρ, M, r, z.bind.imp fun d M1 ι1 F1 H1 s1 f1 m1 q1 v hv => ?_⟩
    have hvk := hv
    cases hv with
    | lst sq rs =>
      rename_i a vs ds
      have q1 := (if_pos (show true = true from rfl) ▸ q1 : Res X.K cl W ι1 F1 σ H1 ((evEs c xs ρ M1).bind fun ds2 M2 => R.of (mthD .indexL (.lst ds) ds2) M2) _)
      refine ⟨.inl ⟨rfl, vs, f1.sqL sq⟩, ι1, F1, ρ, M1, r.step s1 f1 m1, q1.bind.imp fun as M2 ι2 F2 H2 s2 f2 m2 q2 us hus => ?_⟩
      cases hm1 : mthD .indexL (.lst ds) as with
      | none => rw [hm1] at q2; exact q2.elim
      | some dd =>
        rw [hm1] at q2
        rw [mthD_indexL] at hm1
        split at hm1 <;> try (cases hm1; done)
        rename_i y
        cases hus with
        | cons u1 u2 =>
          cases u2
          split at hm1 <;> try (cases hm1; done)
          rename_i bs b eb ey
          split at hm1 <;> try (cases hm1; done)
          rename_i hsh
          rw [Option.map_eq_some_iff] at hm1
          obtain ⟨j, ej, rfl⟩ := hm1
          have fj := List.findIdx?_eq_some_iff_getElem.mp ej
          obtain ⟨jl, jt, jn⟩ := fj
          have el : D.py (.lst ds) = some (.list bs) := by simp only [D.py, eb, Option.map_some]
          refine ⟨a, _, b, bs, j, bs[j], rfl, rfl, Rep.dp f2 (s2.rep hvk) el, Rep.dp f2 u1 ey, hsh.1, hsh.2, List.getElem?_eq_getElem jl, jt, fun m z' hmj hz' => ?_, Res.of_ok q2 f2 m2 _ (.int _)⟩
          have ml : m < bs.length := by omega
          rw [List.getElem?_eq_getElem ml] at hz'
          cases hz'
          simpa using jn m hmj
    | _ => exact (if_neg (show ¬ (false = true) by decide) ▸ q1 : Res X.K cl W ι1 F1 σ H1 .st _).elim
end
section
variable {P : Prog} {nm : Nms} {cl : Nat → Value} {n : Nat} {X : Cx} {W : WXX}
theorem s_newD {t : Bool} {pos : Pos} {c : Cfg} : PE X (.Dict [] [] pos) (tE X.K cl W (evE c (.newD t))) := by
  have key : ∀ {σ : L2.St} {H : Hp} {Q : VK} (o : HO), tE X.K cl W (evE c (.newD t)) σ H Q → (∀ p, DicAt (upd H p o) p t []) → ∀ p, H p = none → Q (.ref p) (upd H p o) := fun {σ H Q} o z hd p hp => by
    obtain ⟨ι, F, ρ, M, r, z⟩ := z
    simp only [evE] at z
    have hF : F p = none := by
      cases e : F p with
      | none => rfl
      | some u => exact absurd hp (r.sub.isSome e)
    have hi : p ∉ ι := fun h => (r.mem.there h).1 hp
    have ne : ∀ b u, H b = some u → b ≠ p := fun b u h e => by rw [e, hp] at h; cases h
    refine z (ι ++ [p]) F (upd H p o) ⟨⟨[p], rfl, fun a ha => by rw [List.mem_singleton.mp ha]; exact hp⟩, fun _ _ h => h, fun _ _ _ h => h, fun b u h _ => by rw [upd_ne (ne b u h)]; exact h, fun b h => ?_⟩ (fun b u h => ?_) ⟨?_, ?_, fun k b mo g1 g2 => ?_⟩ (.ref p) (.ref ?_)
    · by_cases e : b = p
      · rw [e, upd_same]; simp
      · rw [upd_ne e]; exact h
    · have z : b ≠ p := fun e => by rw [e, hF] at h; cases h
      rw [upd_ne z]; exact r.sub b u h
    · rw [List.length_append, List.length_append, r.mem.len]; rfl
    · rw [List.nodup_append]
      exact ⟨r.mem.nd, by simp, fun x hx y hy e => by rw [List.mem_singleton.mp hy] at e; exact hi (e ▸ hx)⟩
    · by_cases z : k < ι.length
      · rw [List.getElem?_append_left z] at g1
        rw [List.getElem?_append_left (by rw [← r.mem.len]; exact z)] at g2
        obtain ⟨q1, q2⟩ := r.mem.at_ k b mo g1 g2
        exact ⟨q1, q2.mono (fun n b hb => by rw [List.getElem?_append_left (List.getElem?_eq_some_iff.mp hb).1]; exact hb) (fun _ _ h => h) fun u h => by rw [upd_ne (ne b u h)]; exact h⟩
      · have hk : k = ι.length := by
          have := (List.getElem?_eq_some_iff.mp g1).1
          simp at this; omega
        subst hk
        rw [List.getElem?_append_right (Nat.le_refl _), Nat.sub_self] at g1
        rw [r.mem.len, List.getElem?_append_right (Nat.le_refl _), Nat.sub_self] at g2
        cases g1
        cases g2
        exact ⟨hF, [], hd p, .nil⟩
    · rw [← r.mem.len, List.getElem?_append_right (Nat.le_refl _), Nat.sub_self]; rfl
  cases t with
  | false => exact PE.weak pe_dnewK fun σ H Q z => key _ z fun p => ⟨[], upd_same, rfl⟩
  | true => exact PE.weak pe_dnewT fun σ H Q z => key _ z fun p => ⟨[], upd_same, rfl⟩
end
end VL

/-! VX: the greatest with a default; a dict of the top read; a list backwards -/
namespace VL
open PySem PySem.Spec PyProof.Rows L2
section
variable {pg : Program} {wd : World} {Ar : Around} {Rz : Result → Shared → Prop} {It : Addr} {fpr wrt : List Addr} {cnt : Nat} {Pv : Nat → Value → Prop} {Sx : Nat → Heap → Prop} {kwd : List (Str × Value)}
theorem mx_name : (toString "max" ++ toString ".loop" : String) = "max.loop" := by decide
/-- the walk goes on, whatever the keywords -/
theorem mx_loop (Wk : Walks pg wd Ar.in1 It fpr wrt cnt Pv Sx) (bt : Nat → Nat → Bool) (cm : CmpOf pg wd Ar.in1 .Gt Pv bt) (B : Addr) (hB : B ∉ fpr) :
    ∀ (m j : Nat) (st : Shared) (x : Value) (e : Nat), cnt - (j + 1) = m → j + 1 ≤ cnt → Sx (j + 1) st.heap → Pv (argBest bt j) x →
      st.heap.get? B = some { cls := .type "list", dict := none, data := .seq #[x, x] e, slots := #[] } →
      (∀ y hp tk, Pv (argBest bt (cnt - 1)) y → (∀ b o, b ∉ wrt → b ≠ B → st.heap.get? b = some o → hp.get? b = some o) → Rz (.ok (.ret y)) { st with heap := hp, toks := tk }) →
      codeAny (model pg wd) Ar (.builtin "max.loop" ⟨[.ref It, .none, .ref B], kwd⟩) Rz st := by
  have hBw : B ∉ wrt := fun z => hB (Wk.sub _ z)
  intro m
  induction m with
  | zero =>
    intro j st x e hm hj hs hx hb hr
    have hend : j + 1 = cnt := by omega
    refine codeAny_builtin F.entry_max_loop ?_
    rw [Around.under_plainId F.plain_max_loop _]
    show wpAny _ Ar.in1 (seqItems? (.ref B) >>= _) _ _ st
    refine wpAny_bind (wpAny_seqItems hb rfl ?_)
    show wpAny _ Ar.in1 (tryCatch (pyNext (.ref It)) _ >>= _) _ _ st
    refine wpAny_bind (wpAny_tryCatch (Wk.done st _ _ (hend ▸ hs) fun hp tk kp => ?_))
    have hb2 := kp B _ hBw hb
    show wpAny _ Ar.in1 (updateSeq B (fun _ => #[]) >>= _) _ _ _
    refine wpAny_bind ?_
    refine wpAny_updateSeq hb2 rfl (wpAny_bind (wpAny_letGo (wpAny_pure ?_)))
    exact hr x _ tk (by rw [← hend]; exact hx) fun b o h1 h2 q => (Heap.get?_update_other _ _ (Ne.symm h2)).trans (kp b o h1 q)
  | succ m ih =>
    intro j st x e hm hj hs hx hb hr
    have hlt : j + 1 < cnt := by omega
    refine codeAny_builtin F.entry_max_loop ?_
    rw [Around.under_plainId F.plain_max_loop _]
    show wpAny _ Ar.in1 (seqItems? (.ref B) >>= _) _ _ st
    refine wpAny_bind (wpAny_seqItems hb rfl ?_)
    show wpAny _ Ar.in1 (tryCatch (pyNext (.ref It)) _ >>= _) _ _ st
    refine wpAny_bind (wpAny_tryCatch (Wk.item (j + 1) st _ _ hlt hs fun y hp tk hy hs2 kp => ?_))
    have hb2 := kp B _ hBw hb
    show wpAny _ Ar.in1 (tryCatch (holding [y, y] (richCompare .Gt y x >>= _)) _ >>= _) _ _ _
    refine wpAny_bind (wpAny_tryCatch (wpAny_holding (wpAny_bind (cm (j + 1) (argBest bt j) y x _ _ _ hy hx ?_))))
    refine wpAny_bind (wpAny_holding (wpAny_truthy_bool ?_))
    refine wpAny_bind (wpAny_letGo (wpAny_pure ?_))
    cases hbt : bt (j + 1) (argBest bt j) with
    | true =>
      simp only [if_true]
      refine wpAny_bind ?_
      refine wpAny_updateSeq hb2 rfl (wpAny_bind (wpAny_letGo ?_))
      rw [mx_name]
      refine wpAny_pure ⟨plainId_quiet F.plain_max_loop _, ih (j + 1) _ y _ (by omega) hlt (Wk.frame _ _ _ hs2 fun b hbf o q => ?_) (by simp only [argBest, hbt, if_true]; exact hy) (Heap.get?_update_self _ hb2 rfl)
        fun y2 hp2 tk2 hy2 kp2 => ?_⟩
      · exact (Heap.get?_update_other _ _ (fun z : B = b => hB (by rw [z]; exact hbf))).trans q
      · exact hr y2 hp2 tk2 hy2 fun b o h1 h2 q => kp2 b o h1 h2 ((Heap.get?_update_other _ _ (Ne.symm h2)).trans (kp b o h1 q))
    | false =>
      simp only [Bool.false_eq_true, if_false]
      refine wpAny_bind (wpAny_letGo ?_)
      rw [mx_name]
      refine wpAny_pure ⟨plainId_quiet F.plain_max_loop _, ih (j + 1) _ x e (by omega) hlt hs2 (by simp only [argBest, hbt, Bool.false_eq_true, if_false]; exact hx) hb2 fun y2 hp2 tk2 hy2 kp2 => ?_⟩
      exact hr y2 hp2 tk2 hy2 fun b o h1 h2 q => kp2 b o h1 h2 (kp b o h1 q)
/-- the walk's beginning -/
theorem mx_first (Wk : Walks pg wd Ar.in1 It fpr wrt cnt Pv Sx) (bt : Nat → Nat → Bool) (cm : CmpOf pg wd Ar.in1 .Gt Pv bt) (B : Addr) (hB : B ∉ fpr) {dv : Value} {st : Shared} {e : Nat} (hs : Sx 0 st.heap)
    (hb : st.heap.get? B = some { cls := .type "list", dict := none, data := .seq #[] e, slots := #[] })
    (h0 : cnt = 0 → ∀ hp tk, (∀ b o, b ∉ wrt → b ≠ B → st.heap.get? b = some o → hp.get? b = some o) → Rz (.ok (.ret dv)) { st with heap := hp, toks := tk })
    (hr : 0 < cnt → ∀ y hp tk, Pv (argBest bt (cnt - 1)) y → (∀ b o, b ∉ wrt → b ≠ B → st.heap.get? b = some o → hp.get? b = some o) → Rz (.ok (.ret y)) { st with heap := hp, toks := tk }) :
    codeAny (model pg wd) Ar (.builtin "max.loop" ⟨[.ref It, .none, .ref B], [(Str.ofString "default", dv)]⟩) Rz st := by
  have hBw : B ∉ wrt := fun z => hB (Wk.sub _ z)
  refine codeAny_builtin F.entry_max_loop ?_
  rw [Around.under_plainId F.plain_max_loop _]
  show wpAny _ Ar.in1 (seqItems? (.ref B) >>= _) _ _ st
  refine wpAny_bind (wpAny_seqItems hb rfl ?_)
  show wpAny _ Ar.in1 (tryCatch (pyNext (.ref It)) _ >>= _) _ _ st
  by_cases hc : cnt = 0
  · refine wpAny_bind (wpAny_tryCatch (Wk.done st _ _ (hc.symm ▸ hs) fun hp tk kp => ?_))
    show wpAny _ Ar.in1 (rule _ >>= _) _ _ _
    refine wpAny_bind (wpAny_rule (wpAny_pure ?_))
    exact h0 hc hp tk fun b o h1 h2 q => kp b o h1 q
  · have hn : 0 < cnt := by omega
    refine wpAny_bind (wpAny_tryCatch (Wk.item 0 st _ _ hn hs fun y hp tk hy hs2 kp => ?_))
    have hb2 := kp B _ hBw hb
    show wpAny _ Ar.in1 (updateSeq B (fun _ => #[y, y]) >>= _) _ _ _
    refine wpAny_bind ?_
    refine wpAny_updateSeq hb2 rfl ?_
    rw [mx_name]
    refine wpAny_pure ⟨plainId_quiet F.plain_max_loop _, mx_loop Wk bt cm B hB _ 0 _ y _ rfl hn (Wk.frame _ _ _ hs2 fun b hbf o q => ?_) hy (Heap.get?_update_self _ hb2 rfl) fun y2 hp2 tk2 hy2 kp2 => ?_⟩
    · exact (Heap.get?_update_other _ _ (fun z : B = b => hB (by rw [z]; exact hbf))).trans q
    · exact hr hn y2 hp2 tk2 hy2 fun b o h1 h2 q => kp2 b o h1 h2 ((Heap.get?_update_other _ _ (Ne.symm h2)).trans (kp b o h1 q))
end
section
variable {pg : Program} {wd : World} {Ar : Around} {Er : Value → Shared → Prop} {st : Shared}
theorem call_fn_kw {id : String} {b : Builtin} {as : List Value} {kw : List (Str × Value)} {Q : Value → Shared → Prop} (hk : builtinKind id = none) (hp : plainId id = true) (hb : entryFor table id = some b) (ha : argsOk id ⟨as, kw⟩)
    (hc : wpAny (model pg wd) Ar.in1 (b ⟨as, kw⟩) (fun fin s2 => match fin with
      | .done f => (match (Except.ok f : Result) with | .ok (.ret v) => Q v s2 | .ok _ => False | .error e => Er e s2)
      | .again c2 => c2.quiet = true ∧ codeAny (model pg wd) Ar c2 (fun r s3 => match r with | .ok (.ret v) => Q v s3 | .ok _ => False | .error e => Er e s3) s2) Er st) :
    wpAny (model pg wd) Ar (call (.builtin id) as kw) Q Er st := by
  refine wpAny_call (codeAny_call_builtin hp hb ?_)
  simp only [checkBuiltinCall, hk]
  cases hsig : Manifest.signature? id with
  | none => exact wpAny_pure hc
  | some sig =>
    have h2 : Bind.checkArgs id sig ⟨as, kw⟩ = pure () := by simpa only [argsOk, hsig] using ha
    simp only [h2]
    exact wpAny_pure hc
theorem args_maxD (a d : Value) : argsOk "max" ⟨[a], [(Str.ofString "default", d)]⟩ := by unfold argsOk; kernel_rfl
/-- max(l, default=d) of a list of ints -/
theorem max_dflt {l : Addr} {xs : Array (Int × Tok)} {dv : Value} {Q : Value → Shared → Prop} (hh : Ar.handled = none) (hl : st.heap.IsList l (intItems xs))
    (h0 : xs.size = 0 → ∀ hp tk, (∀ b o, st.heap.get? b = some o → hp.get? b = some o) → Q dv { st with heap := hp, toks := tk })
    (h : 0 < xs.size → ∀ v hp tk, (intItems xs)[argBest (fun i j => decide (numAt xs i > numAt xs j)) (xs.size - 1)]? = some v → (∀ b o, st.heap.get? b = some o → hp.get? b = some o) → Q v { st with heap := hp, toks := tk }) :
    wpAny (model pg wd) Ar (call (.builtin "max") [.ref l] [(Str.ofString "default", dv)]) Q Er st := by
  refine call_fn_kw F.kind_max F.plain_max F.entry_max (args_maxD _ _) ?_
  show wpAny _ Ar.in1 (Builtin.Builtins.bindParams "max" ["key", "default"] 0 ⟨[], [(Str.ofString "default", dv)]⟩ >>= _) _ _ st
  refine wpAny_bind (wpAny_of_eq (show Builtin.Builtins.bindParams "max" ["key", "default"] 0 ⟨[], [(Str.ofString "default", dv)]⟩ = pure [none, some dv] from by first | rfl | kernel_rfl) ?_)
  refine wpAny_bind (wpAny_pure ?_)
  refine wpAny_bind (iter_intList hl fun s2 es sx hfp hlI => ?_)
  subst es
  refine wpAny_bind (wpAny_newObj_type ?_)
  have hsz : (intItems xs).size = xs.size := by simp [intItems]
  rw [mx_name]
  have Wl := Walks.list (prog := pg) (w := wd) (A := Ar.in1) (by exact hh) st.heap.objs.size l hlI (intItems xs)
  refine wpAny_pure ⟨plainId_quiet F.plain_max_loop _, mx_first Wl _ (CmpOf.ints_gt (numAt xs) fun _ _ => intItems_at) _ (fun hm => Nat.lt_irrefl _ (hfp _ hm)) (Wl.frame _ _ _ sx fun b _ o q => Heap.get?_push_of_some _ q) (Heap.get?_push_size _ rfl) (fun hc hp tk kp => ?_) fun hn v hp tk hv kp => ?_⟩
  · exact h0 (by rw [← hsz]; exact hc) hp tk (old_kept fun b o hb q => kp b o hb (Nat.ne_of_lt (Heap.lt_size q)) (Heap.get?_push_of_some _ q))
  · exact h (by rw [← hsz]; exact hn) v hp tk (by rw [← hsz]; exact hv) (old_kept fun b o hb q => kp b o hb (Nat.ne_of_lt (Heap.lt_size q)) (Heap.get?_push_of_some _ q))
end
section
variable {P : Prog} {nm : Nms} {cl : Nat → Value} {n : Nat} {X : Cx} {sc : Scope} {W : WXX} {c : Cfg}
theorem s_rsl {xa : Ex} {ea : Expr} {k : Nat} {p1 p2 p3 pos : Pos} (ha : PE X ea (tE X.K cl W (evE c xa))) :
    PE X (.Subscript ea (.Slice none none (some (.UnaryOp .USub (.Constant (.int 1) k p1) p2)) p3) pos) (tE X.K cl W (evE c (.rsl xa))) := by
  refine PE.weak (pe_revL ha) fun σ H Q z => ?_
  obtain ⟨ι, F, ρ, M, r, z⟩ := z
  simp only [evE] at z
  refine ⟨ι, F, ρ, M, r, z.bind.imp fun x M1 ι1 F1 H1 s1 f1 m1 q v hv => ?_⟩
  cases hv with
  | lst a1 rr =>
    refine ⟨_, _, rfl, f1.sqL a1, fun p hp => ?_⟩
    obtain ⟨s2, f2, m2⟩ := new_ok (o := .lst _) f1 m1 hp
    exact q _ _ _ s2 f2 m2 _ (.lst (.inl (.inl upd_same)) ((s2.reps rr).reverse))
  | _ => exact q.elim
theorem s_kget (w : XW P nm cl n X sc W) {k : Nat} {x : Str} {p pos : Pos} {xk : Ex} {ek : Expr} (h1 : nm.dcts[k]? = some x) (h2 : glB sc x = true) (hp : pixD ek = true) (he : PE X ek (tE X.K cl W (evE (cfgN P n) xk))) :
    PE X (.Subscript (.Name x p) ek pos) (tE X.K cl W (evE (cfgN P n) (.kget k xk))) := by
  obtain ⟨g, o⟩ := w.gl h2
  obtain ⟨a1, _, _⟩ := okN_d o
  obtain ⟨a, kvs, e1, e2, e3⟩ := w.fx.dcts k x h1
  refine PE.weak (pe_ix ix_kdict (pe_glob (v := .ref a) g e2 rfl a1) he (pix_no hp)) fun σ H Q z => ?_
  obtain ⟨ι, F, ρ, M, r, z⟩ := z
  simp only [evE] at z
  refine ⟨ι, F, ρ, M, r, z.bind.imp fun x M1 ι1 F1 H1 s1 f1 m1 q v hv => ?_⟩
  cases hv with
  | str z =>
    simp only [kgetD, cfgN, e1, Option.bind_some] at q
    cases e : kvs.lookup z with
    | none => rw [e] at q; exact q.elim
    | some d =>
      rw [e, R.of_some] at q
      obtain ⟨v, g1, g2⟩ := e3 z d e
      exact ⟨a, z, v, rfl, rfl, g1, Res.of_ok q f1 m1 v (g2.mono (fun n a h => by simp at h) (fun a u h => by cases h))⟩
  | _ => exact q.elim
/-- max(l, default=d) -/
def rMxD (K : PySem.W.Frag) : List V → List V → Hp → VK → Prop := fun vs zs H Q => ∃ (a : Addr) (ns : List Int) (j : Int), vs = [V.ref a] ∧ zs = [V.int j] ∧ SqL K H a (ns.map V.int) ∧ Q (.int ((maxL ns).getD j)) H
theorem cr_maxD (hc : X.calm = true) : CallRK X (.builtin "max") [Str.ofString "default"] (rMxD X.K) := by
  intro pins s σ H vs zs us ws Q I r rz h
  obtain ⟨a, ns, j, rfl, rfl, hs, q⟩ := h
  obtain ⟨its, rv, hl, _⟩ := I.list hs
  rw [Vals.ref1 r]
  obtain ⟨w1, rfl, e1⟩ := vals1 rz
  obtain ⟨t1, rfl⟩ : ∃ t, w1 = Value.int j t := e1
  have hi := rv.ints
  obtain ⟨xs, e⟩ := hi.allInts.items
  have hn : numsOf (intItems xs).toList = ns := by rw [← e]; exact hi.numsOf
  rw [nums_intItems] at hn
  have hl2 := hl.isList
  rw [e] at hl2
  have hlen : ns.length = xs.size := by rw [← hn]; simp
  refine max_dflt (I.ok.hd hc) hl2 (fun h0 hp tk kp => ?_) fun hne v hp tk hv kp => ?_
  · have : ns = [] := List.eq_nil_of_length_eq_zero (by omega)
    subst this
    exact ⟨.int _, H, I.kept kp, ⟨_, rfl⟩, q⟩
  · obtain ⟨t, rfl⟩ := intItems_at hv
    obtain ⟨g1, g2⟩ := argBest_gt (numAt xs) (xs.size - 1)
    have hm : numAt xs (argBest (fun i j => decide (numAt xs i > numAt xs j)) (xs.size - 1)) ∈ ns := by
      rw [← hn, numAt_eq]; exact PySem.getD_mem (by rw [List.length_map, Array.length_toList]; omega)
    have hb : ∀ y, y ∈ ns → y ≤ numAt xs (argBest (fun i j => decide (numAt xs i > numAt xs j)) (xs.size - 1)) := fun y hy => by
      rw [← hn] at hy
      obtain ⟨j, hj, rfl⟩ := mem_getD hy
      rw [List.length_map, Array.length_toList] at hj
      rw [← numAt_eq]; exact g2 j (by omega)
    have hmx : (maxL ns).getD j = numAt xs (argBest (fun i j => decide (numAt xs i > numAt xs j)) (xs.size - 1)) := by
      cases em : maxL ns with
      | none => cases hns : ns with
        | nil => rw [hns] at hm; cases hm
        | cons _ _ => rw [hns] at em; cases em
      | some k => exact ((maxL_ok em).2 _ hm hb).symm
    rw [hmx] at q
    exact ⟨.int _, H, I.kept kp, ⟨t, rfl⟩, q⟩
theorem kw_each {nm : Option Str} {e : Expr} {kp : Pos} {env : Env} {pos : Pos} : backToKw pos (keywordEach [⟨nm, e, kp⟩] env) = backToKw pos (keywordEach [⟨nm, e, kp⟩] env) := rfl
theorem s_mxd (w : XW P nm cl n X sc W) {x y : Str} {p kp pos : Pos} {xa xd : Ex} {ea ed : Expr} (h1 : x = ("max" : Str)) (h2 : glB sc x = true) (h3 : y = ("default" : Str)) (hn : nst ea = true) (ha : PE X ea (tE X.K cl W (evE c xa))) (hd : PE X ed (tE X.K cl W (evE c xd))) :
    PE X (.Call (.Name x p) [ea] [⟨some y, ed, kp⟩] pos) (tE X.K cl W (evE c (.mxd xa xd))) := by
  obtain ⟨g, o⟩ := w.gl h2
  obtain ⟨a1, b1, c1⟩ := okN_d o
  have hmg : X.mg x = none := w.fx.blt x (by rw [h1]; exact blt_mem .max)
  have hv : bootBuiltins x = some (.builtin "max") := by rw [h1]; exact boot_blt .max
  subst h3
  refine PE.weak (pe_callBK (cr_maxD w.calm) g hmg hv (pa_cons ha pa_nil (star_ok hn)) (pk_cons hd pk_nil) c1 a1 (by rw [star_ok hn]; rfl) (by rw [star_ok hn]; rfl) (by rfl) (by rfl) (by rfl)) fun σ H Q z => ?_
  obtain ⟨ι, F, ρ, M, r, z⟩ := z
  simp only [evE] at z
  refine ⟨ι, F, ρ, M, r, z.bind.imp fun x M1 ι1 F1 H1 s1 f1 m1 q1 v hv => ?_⟩
  refine ⟨ι1, F1, ρ, M1, r.step s1 f1 m1, (Res.bind q1).imp fun y M2 ι2 F2 H2 s2 f2 m2 q2 u hu => ?_⟩
  cases e : mxdD x y with
  | none => rw [e] at q2; exact q2.elim
  | some d =>
    rw [e, R.of_some] at q2
    unfold mxdD at e
    split at e
    · rename_i ds j
      cases ei : intsOf ds with
      | none => rw [ei] at e; cases e
      | some ns =>
        rw [ei] at e
        cases e
        cases hu with
        | int =>
          cases s2.rep hv with
          | lst a2 rr =>
            rw [intsOf_map ei] at rr
            exact ⟨_, ns, j, rfl, rfl, f2.sqL (by rw [← rr.ints]; exact a2), Res.of_ok q2 f2 m2 _ (.int _)⟩
    · cases e
/-! ### a chain of four comparisons -/
def tLk (r : R2) (tb : TE) (K : V → TE) (x : V) : TE := fun σ H Q => tb σ H fun y H2 => r x y H2 fun z H3 => ∃ k, z = .bl k ∧ (if k = true then K y σ H3 Q else Q (.bl false) H3)
def tLs (r : R2) (tb : TE) (x : V) : TE := fun σ H Q => tb σ H fun y H2 => r x y H2 Q
def tCh4 (r1 r2 r3 r4 : R2) (ta tb tc td te : TE) : TE := fun σ H Q => ta σ H fun x H1 => tLk r1 tb (tLk r2 tc (tLk r3 td (tLs r4 te))) x σ H1 Q
theorem pe_ch4 {o1 o2 o3 o4 : CmpOp} {r1 r2 r3 r4 : R2} {a b g d e : Expr} {pos : Pos} {ta tb tc td te : TE} (h1 : OpR X (compareOp o1) r1) (h2 : OpR X (compareOp o2) r2) (h3 : OpR X (compareOp o3) r3) (h4 : OpR X (compareOp o4) r4)
    (ha : PE X a ta) (hb : PE X b tb) (hg : PE X g tc) (hd : PE X d td) (he : PE X e te) (hm : lastMarks [o1, o2, o3, o4] [b, g, d, e] = false) : PE X (.Compare a [o1, o2, o3, o4] [b, g, d, e] pos) (tCh4 r1 r2 r3 r4 ta tb tc td te) := by
  refine ⟨fun pins s σ H Q I h => ?_⟩
  refine Compare_chain (thn (ha.run pins s σ H _ I h) fun v s1 ⟨x, H1, I1, k1, q1⟩ => chain_link (thn (hb.run pins s1 σ H1 _ I1 q1) fun u s2 ⟨y, H2, I2, k2, q2⟩ =>
    thn (h1 pins s2 σ H2 x y v u _ I2 k1 k2 q2) fun _ s3 ⟨z, H3, I3, k3, k, e, q3⟩ => ?_)) hm
  subst e
  cases k3
  refine wpAny_truthy_bool ?_
  cases k with
  | false => exact ite_ff ⟨.bl false, H3, I3, rfl, q3⟩
  | true =>
    refine ite_tt (chain_link (thn (hg.run pins s3 σ H3 _ I3 q3) fun w s4 ⟨y2, H4, I4, k4, q4⟩ => thn (h2 pins s4 σ H4 y y2 u w _ I4 k2 k4 q4) fun _ s5 ⟨z, H5, I5, k5, k, e, q5⟩ => ?_))
    subst e
    cases k5
    refine wpAny_truthy_bool ?_
    cases k with
    | false => exact ite_ff ⟨.bl false, H5, I5, rfl, q5⟩
    | true =>
      refine ite_tt (chain_link (thn (hd.run pins s5 σ H5 _ I5 q5) fun w2 s6 ⟨y3, H6, I6, k6, q6⟩ => thn (h3 pins s6 σ H6 y2 y3 w w2 _ I6 k4 k6 q6) fun _ s7 ⟨z, H7, I7, k7, k, e, q7⟩ => ?_))
      subst e
      cases k7
      refine wpAny_truthy_bool ?_
      cases k with
      | false => exact ite_ff ⟨.bl false, H7, I7, rfl, q7⟩
      | true => exact ite_tt (chain_last (thn (he.run pins s7 σ H7 _ I7 q7) fun w3 s8 ⟨y4, H8, I8, k8, q8⟩ => h4 pins s8 σ H8 y3 y4 w2 w3 Q I8 k6 k8 q8))
theorem pt_ch4 {o1 o2 o3 o4 : CmpOp} {r1 r2 r3 r4 : R2} {a b g d e : Expr} {pos : Pos} {ta tb tc td te : TE} (h1 : OpR X (compareOp o1) r1) (h2 : OpR X (compareOp o2) r2) (h3 : OpR X (compareOp o3) r3) (h4 : OpR X (compareOp o4) r4)
    (ha : PE X a ta) (hb : PE X b tb) (hg : PE X g tc) (hd : PE X d td) (he : PE X e te) (hm : lastMarks [o1, o2, o3, o4] [b, g, d, e] = false) : PT X (.Compare a [o1, o2, o3, o4] [b, g, d, e] pos) (tTest (tCh4 r1 r2 r3 r4 ta tb tc td te)) := by
  refine ⟨fun pins s σ H Q I h => ?_⟩
  refine isTrue_chain (thn (ha.run pins s σ H _ I h) fun v s1 ⟨x, H1, I1, k1, q1⟩ => test_link (thn (hb.run pins s1 σ H1 _ I1 q1) fun u s2 ⟨y, H2, I2, k2, q2⟩ =>
    thn (h1 pins s2 σ H2 x y v u _ I2 k1 k2 q2) fun _ s3 ⟨z, H3, I3, k3, k, e, q3⟩ => ?_)) hm
  subst e
  cases k3
  refine wpAny_truthy_bool ?_
  cases k with
  | false =>
    obtain ⟨k', e', q'⟩ := q3
    cases e'
    exact ite_ff ⟨H3, I3, q'⟩
  | true =>
    refine ite_tt (test_link (thn (hg.run pins s3 σ H3 _ I3 q3) fun w s4 ⟨y2, H4, I4, k4, q4⟩ => thn (h2 pins s4 σ H4 y y2 u w _ I4 k2 k4 q4) fun _ s5 ⟨z, H5, I5, k5, k, e, q5⟩ => ?_))
    subst e
    cases k5
    refine wpAny_truthy_bool ?_
    cases k with
    | false =>
      obtain ⟨k', e', q'⟩ := q5
      cases e'
      exact ite_ff ⟨H5, I5, q'⟩
    | true =>
      refine ite_tt (test_link (thn (hd.run pins s5 σ H5 _ I5 q5) fun w2 s6 ⟨y3, H6, I6, k6, q6⟩ => thn (h3 pins s6 σ H6 y2 y3 w w2 _ I6 k4 k6 q6) fun _ s7 ⟨z, H7, I7, k7, k, e, q7⟩ => ?_))
      subst e
      cases k7
      refine wpAny_truthy_bool ?_
      cases k with
      | false =>
        obtain ⟨k', e', q'⟩ := q7
        cases e'
        exact ite_ff ⟨H7, I7, q'⟩
      | true =>
        refine ite_tt (test_last (thn (he.run pins s7 σ H7 _ I7 q7) fun w3 s8 ⟨y4, H8, I8, k8, q8⟩ => thn (h4 pins s8 σ H8 y3 y4 w2 w3 _ I8 k6 k8 q8) fun _ s9 ⟨z, H9, I9, k9, k, e, q9⟩ => ?_))
        subst e
        cases k9
        exact wpAny_truthy_bool ⟨H9, I9, q9⟩
theorem lk_imp {o : COp} {rb : Sl → Mem → R D} {σ : L2.St} {Q : VK} {rest : D → Sl → Mem → R D} {K : V → TE}
    (hK : ∀ (y : D) (u : V) (ι : List Addr) (F : Hp) (ρ : Sl) (M : Mem) (H : Hp), SR X.K ι F ρ M σ H → Rep X.K ι F u y → Res X.K cl W ι F σ H (rest y ρ M) (fun d _ ι' F' H' => ∀ v, Rep X.K ι' F' v d → Q v H') → K u σ H Q)
    {ι : List Addr} {F : Hp} {ρ : Sl} {M : Mem} {H : Hp} (r : SR X.K ι F ρ M σ H) {x : D} {v : V} (hv : Rep X.K ι F v x)
    (z : Res X.K cl W ι F σ H ((rb ρ M).bind fun y M2 => chR (R.of (cmpD o x y) M2) fun M3 => rest y ρ M3) (fun d _ ι' F' H' => ∀ v, Rep X.K ι' F' v d → Q v H')) :
    tLk (rOp X.K (cmpD o)) (tE X.K cl W rb) K v σ H Q := by
  refine ⟨ι, F, ρ, M, r, z.bind.imp fun y M2 ι2 F2 H2 s2 f2 m2 q2 u hu => ?_⟩
  cases e : cmpD o x y with
  | none => rw [e] at q2; exact q2.elim
  | some t =>
    rw [e, R.of_some] at q2
    unfold chR at q2
    rw [R.bind_ok] at q2
    refine ⟨ι2, F2, M2, x, y, t, f2, m2, .inl (s2.rep hv), .inl hu, e, fun F3 H3 k s3 f3 m3 hk => ?_⟩
    split at q2
    · cases hk
      refine ⟨true, rfl, ?_⟩
      rw [if_pos rfl]
      exact hK y u ι2 F3 ρ M2 H3 ((r.step s2 f2 m2).step s3 f3 m3) (s3.rep hu) (q2.later s3)
    · cases hk
      exact ⟨false, rfl, q2 _ _ _ s3 f3 m3 _ (.bl _)⟩
    · exact q2.elim
theorem ls_imp {o : COp} {rb : Sl → Mem → R D} {σ : L2.St} {Q : VK} {ι : List Addr} {F : Hp} {ρ : Sl} {M : Mem} {H : Hp} (r : SR X.K ι F ρ M σ H) {x : D} {v : V} (hv : Rep X.K ι F v x)
    (z : Res X.K cl W ι F σ H ((rb ρ M).bind fun y M2 => R.of (cmpD o x y) M2) (fun d _ ι' F' H' => ∀ v, Rep X.K ι' F' v d → Q v H')) : tLs (rOp X.K (cmpD o)) (tE X.K cl W rb) v σ H Q := by
  refine ⟨ι, F, ρ, M, r, z.bind.imp fun y M2 ι2 F2 H2 s2 f2 m2 q2 u hu => ?_⟩
  obtain ⟨d', e', q5⟩ := s_of q2 f2 m2
  exact ⟨ι2, F2, M2, x, y, d', f2, m2, .inl (s2.rep hv), .inl hu, e', fun F' H' v s f m r => q5 _ _ _ s f m v r⟩
theorem ch4_imp {o1 o2 o3 o4 : COp} {a b g d e : Ex} {σ : L2.St} {H : Hp} {Q : VK} (z : tE X.K cl W (evE c (.ch4 o1 o2 o3 o4 a b g d e)) σ H Q) :
    tCh4 (rOp X.K (cmpD o1)) (rOp X.K (cmpD o2)) (rOp X.K (cmpD o3)) (rOp X.K (cmpD o4)) (tE X.K cl W (evE c a)) (tE X.K cl W (evE c b)) (tE X.K cl W (evE c g)) (tE X.K cl W (evE c d)) (tE X.K cl W (evE c e)) σ H Q := by
  obtain ⟨ι, F, ρ, M, r, z⟩ := z
  simp only [evE] at z
  refine ⟨ι, F, ρ, M, r, z.bind.imp fun x M1 ι1 F1 H1 s1 f1 m1 q1 v hv => ?_⟩
  exact lk_imp (rest := fun y ρ M3 => (evE c g ρ M3).bind fun z M4 => chR (R.of (cmpD o2 y z) M4) fun M5 => (evE c d ρ M5).bind fun u M6 => chR (R.of (cmpD o3 z u) M6) fun M7 => (evE c e ρ M7).bind fun v M8 => R.of (cmpD o4 u v) M8)
    (fun y u ι F ρ M H r hu z => lk_imp (rest := fun z ρ M5 => (evE c d ρ M5).bind fun u M6 => chR (R.of (cmpD o3 z u) M6) fun M7 => (evE c e ρ M7).bind fun v M8 => R.of (cmpD o4 u v) M8)
      (fun y u ι F ρ M H r hu z => lk_imp (rest := fun u ρ M7 => (evE c e ρ M7).bind fun v M8 => R.of (cmpD o4 u v) M8) (fun y u ι F ρ M H r hu z => ls_imp r hu z) r hu z) r hu z) (r.step s1 f1 m1) hv q1
theorem R.bind_inv {α β : Type} {r : R α} {f : α → Mem → R β} {y : β} {M : Mem} (h : r.bind f = .ok y M) : ∃ x M1, r = .ok x M1 ∧ f x M1 = .ok y M := by
  cases r with
  | ok x M1 => exact ⟨x, M1, rfl, h⟩
  | ex _ _ => cases h
  | st => cases h
theorem chR_bl {r : R D} {k : Mem → R D} (hk : ∀ M t M', k M = .ok t M' → ∃ b, t = .bl b) {t : D} {M' : Mem} (h : chR r k = .ok t M') : ∃ b, t = .bl b := by
  unfold chR at h
  obtain ⟨x, M1, _, h⟩ := R.bind_inv h
  split at h
  · exact hk _ _ _ h
  · cases h; exact ⟨_, rfl⟩
  · cases h
theorem of_bl {o : COp} {x y : D} {M M' : Mem} {t : D} (h : R.of (cmpD o x y) M = .ok t M') : ∃ b, t = .bl b := by
  cases e : cmpD o x y with
  | none => rw [e] at h; cases h
  | some k => rw [e, R.of_some] at h; cases h; exact cmpD_bl e
theorem ch4_bl {o1 o2 o3 o4 : COp} {a b g d e : Ex} {ρ : Sl} {M M' : Mem} {t : D} (h : evE c (.ch4 o1 o2 o3 o4 a b g d e) ρ M = .ok t M') : ∃ b, t = .bl b := by
  simp only [evE] at h
  obtain ⟨x, M1, _, h⟩ := R.bind_inv h
  obtain ⟨y, M2, _, h⟩ := R.bind_inv h
  refine chR_bl (fun M t M' h => ?_) h
  obtain ⟨z, M3, _, h⟩ := R.bind_inv h
  refine chR_bl (fun M t M' h => ?_) h
  obtain ⟨u, M4, _, h⟩ := R.bind_inv h
  refine chR_bl (fun M t M' h => ?_) h
  obtain ⟨v, M5, _, h⟩ := R.bind_inv h
  exact of_bl h
end
end VL

/-! V7: the theorem of expressions -/
namespace VL
open PySem PySem.Spec PyProof.Rows L2
section
variable {P : Prog} {nm : Nms} {cl : Nat → Value} {n : Nat}
theorem mE_nst {N : List Str} {sc : Scope} : ∀ {x : Ex} {e : Expr}, mE N nm x sc e = true → nst e = true
  | .bor a, e, h => by
    unfold mE at h
    exact mE_nst h
  | .look a, e, h => by
    unfold mE at h
    exact mE_nst h
  | x, e, h => by
    cases e <;> first | rfl | skip
    exfalso
    cases x <;> (unfold mE at h; first | (cases h; done) | skip)
    all_goals
      have := mE_nst h
      cases this
theorem sO {x : Ex} {X : Cx} {sc : Scope} {W : WXX} {o : Option Expr} (ih : ∀ e, mE X.N nm x sc e = true → PE X e (tE X.K cl W (evE (cfgN P n) x))) (h : mO X.N nm x sc o = true) : PO X o (tPt X.K cl W x (evE (cfgN P n) x)) := by
  cases o with
  | none =>
    cases x <;> first | (simp [mO] at h; done) | skip
    rename_i d
    cases d <;> first | (simp [mO] at h; done) | exact s_po_none
  | some e =>
    unfold mO at h; simp only [Bool.and_eq_true] at h
    refine s_po_some (fun d => ?_) (ih e h.1)
    have h2 := h.2
    clear h
    cases x <;> first | rfl | skip
    rename_i k
    cases k <;> first | rfl | cases h2
theorem evAnd_cc {c : Cfg} {x y : Ex} {ys : List Ex} {ρ : Sl} {M : Mem} : evAnd c (x :: y :: ys) ρ M = (evE c x ρ M).bind fun d M1 => (VL.R.of (truth d) M1).bind fun t M2 => if t = true then evAnd c (y :: ys) ρ M2 else .ok d M2 := by
  rw [evAnd]
theorem evOr_cc {c : Cfg} {x y : Ex} {ys : List Ex} {ρ : Sl} {M : Mem} : evOr c (x :: y :: ys) ρ M = (evE c x ρ M).bind fun d M1 => (VL.R.of (truth d) M1).bind fun t M2 => if t = true then .ok d M2 else evOr c (y :: ys) ρ M2 := by
  rw [evOr]
def CompT (P : Prog) (n : Nat) (cl : Nat → Value) (W : WXX) (X : Cx) (elt : Ex) (p : Pt) (k : ItK) (args conds : List Ex) (own : List Nat) (ee tg iter : Expr) (ifs : List Expr) (scope : Scope) : Prop :=
  ∃ t : TE, (∀ pos, PE X (.ListComp ee [⟨tg, iter, ifs, 0⟩] scope pos) t) ∧
      (∀ {i : Nat} {y : Str} {py pos spos : Pos}, X.N[i]? = some y → X.env.scope.names.lookup y = some .local → swapsWith (.ListComp ee [⟨tg, iter, ifs, 0⟩] scope pos) (some (.Name y py)) spos.line X.env = pure true → PS X (.Assign [.Name y py] (.ListComp ee [⟨tg, iter, ifs, 0⟩] scope pos) spos) (tAsg t (gName i))) ∧
      ∀ σ H Q, tL X.K cl W (evE (cfgN P n) (.comp elt p k args conds own)) σ H Q → t σ H Q
theorem compOf {elt : Ex} {p : Pt} {k : ItK} {args conds : List Ex} {own : List Nat} {X : Cx} {sc : Scope} {W : WXX} {ee tg iter : Expr} {ifs : List Expr} {scope : Scope} {pos : Pos} (w : XW P nm cl n X sc W)
    (ihe : ∀ {X : Cx} {sc : Scope} {W : WXX} {e : Expr}, XW P nm cl n X sc W → mE X.N nm elt sc e = true → SE P n cl W X elt e)
    (ihc : ∀ y, conds = [y] → ∀ {X : Cx} {sc : Scope} {W : WXX} {e : Expr}, XW P nm cl n X sc W → mE X.N nm y sc e = true → SE P n cl W X y e)
    (iha : ∀ a, args = [a] → ∀ {X : Cx} {sc : Scope} {W : WXX} {e : Expr}, XW P nm cl n X sc W → mE X.N nm a sc e = true → SE P n cl W X a e)
    (ihas : ∀ {X : Cx} {sc : Scope} {W : WXX} {es : List Expr}, XW P nm cl n X sc W → mEs X.N nm args sc es = true → PA X es (tA X.K cl W (evEs (cfgN P n) args)))
    (h : mE X.N nm (.comp elt p k args conds own) sc (.ListComp ee [⟨tg, iter, ifs, 0⟩] scope pos) = true) : CompT P n cl W X elt p k args conds own ee tg iter ifs scope := by
  unfold mE at h
  dsimp only at h
  simp only [Bool.and_eq_true, decide_eq_true_eq] at h
  obtain ⟨⟨⟨⟨⟨⟨⟨⟨hb, hp⟩, hpo⟩, hown⟩, hcl⟩, htb⟩, hco⟩, hel⟩, hit⟩ := h
  have he : ∀ (X' : Cx), X'.N = X.N → X'.K = X.K → XW P nm cl n X' scope (fun _ _ _ _ => False) → PE X' ee (tE X'.K cl (fun _ _ _ _ => False) (evE (cfgN P n) elt)) := fun X' hN _ w' => (ihe w' (by rw [hN]; exact hel)).1
  have hc : ∀ (X' : Cx), X'.N = X.N → X'.K = X.K → XW P nm cl n X' scope (fun _ _ _ _ => False) → ∀ x e, conds = [x] → ifs = [e] → PT X' e (tT X'.K cl (fun _ _ _ _ => False) (evT (cfgN P n) x)) := fun X' hN _ w' x e e1 e2 => by
    subst e2
    have ht : tstB x = true := by rw [e1] at htb; simpa [tstBs] using htb
    cases conds with
    | nil => cases e1
    | cons y ys =>
      have e3 := (List.cons.inj e1).1
      subst e3
      have hm : mE X.N nm y scope e = true := by
        simp only [mEs, Bool.and_eq_true] at hco
        exact hco.1.2
      exact (ihc y e1 w' (by rw [hN]; exact hm)).2 ht
  have hl2 : conds.length = ifs.length := mEs_len hco
  have fin : ∀ {ri : Sl → Mem → VL.R (List D)}, (∀ a b c, iter ≠ .Set a b c) → PI X tg iter (tI X.K cl W ri) → (∀ ρ M, ri ρ M = (evEs (cfgN P n) args ρ M).bind fun ds M1 => R.of (itD k ds) M1) → CompT P n cl W X elt p k args conds own ee tg iter ifs scope := fun hs hi hr =>
    s_compParts w hb hp hpo hs hi hr hcl hl2 he hc
  cases k with
  | seq =>
    cases args with
    | nil => cases hit
    | cons a as =>
      cases as with
      | cons _ _ => cases hit
      | nil =>
        simp only [Bool.and_eq_true] at hit
        refine fin (fun a b c e => by rw [e] at hit; cases hit.2) (s_iseq (iha a rfl w hit.1).1) fun ρ M => ?_
        simp only [evEs, R.bind_assoc, R.bind_ok]
  | keys =>
    dsimp only at hit
    split at hit
    · split at hit
      · exact s_compK w hb hp hpo hit hcl hl2 he hc
      · cases hit
    · cases hit
  | _ =>
    dsimp only at hit
    split at hit <;> try (cases hit; done)
    split at hit <;> try (cases hit; done)
    rename_i es kws _ _ x _
    simp only [Bool.and_eq_true, List.isEmpty_iff] at hit
    obtain ⟨⟨⟨h1, h2⟩, h3⟩, h4⟩ := hit
    subst h2
    obtain ⟨ri, hi, hr⟩ := walk_call w h1 h4 h3 (ihas w h3) (fun a ha e hm => (iha a ha w hm).1)
    exact fin (fun a b c e => by cases e) hi hr
/-- where a walk comes from -/
theorem walkOf {X : Cx} {sc : Scope} {W : WXX} {k : ItK} {args : List Ex} {tg iter : Expr} (w : XW P nm cl n X sc W)
    (iha : ∀ a, args = [a] → ∀ {X : Cx} {sc : Scope} {W : WXX} {e : Expr}, XW P nm cl n X sc W → mE X.N nm a sc e = true → SE P n cl W X a e)
    (ihas : ∀ {X : Cx} {sc : Scope} {W : WXX} {es : List Expr}, XW P nm cl n X sc W → mEs X.N nm args sc es = true → PA X es (tA X.K cl W (evEs (cfgN P n) args)))
    (hs : itShp sc k tg iter = true) (hm : mEs X.N nm args sc (itArgs k iter) = true) :
    (∀ a b c, iter ≠ .Set a b c) ∧ PI X tg iter (tI X.K cl W fun ρ M => (evEs (cfgN P n) args ρ M).bind fun ds M1 => R.of (itD k ds) M1) := by
  have fin : ∀ {ri : Sl → Mem → VL.R (List D)}, PI X tg iter (tI X.K cl W ri) → (∀ ρ M, ri ρ M = (evEs (cfgN P n) args ρ M).bind fun ds M1 => R.of (itD k ds) M1) → PI X tg iter (tI X.K cl W fun ρ M => (evEs (cfgN P n) args ρ M).bind fun ds M1 => R.of (itD k ds) M1) := fun hi hr => PI.cong hi fun ρ M => (hr ρ M).symm
  refine ⟨fun a b c e => (by rw [e] at hs; cases hs), ?_⟩
  by_cases hk : k = .seq
  · subst hk
    have hm : mEs X.N nm args sc [iter] = true := hm
    cases args with
    | nil => simp [mEs] at hm
    | cons a as =>
      simp only [mEs, Bool.and_eq_true] at hm
      have e0 : as = [] := by
        cases as with
        | nil => rfl
        | cons _ _ => simp [mEs] at hm
      subst e0
      refine fin (s_iseq (iha a rfl w hm.1.2).1) fun ρ M => ?_
      simp only [evEs, R.bind_assoc, R.bind_ok]
  · unfold itShp at hs
    split at hs
    · rename_i x pp es kws pos
      have e1 : itArgs k (.Call (.Name x pp) es kws pos) = es := by cases k <;> first | rfl | exact absurd rfl hk
      rw [e1] at hm
      split at hs
      · exact absurd rfl hk
      · cases hs
      · simp only [Bool.and_eq_true, List.isEmpty_iff] at hs
        obtain ⟨⟨h1, h2⟩, h4⟩ := hs
        subst h2
        obtain ⟨ri, hi, hr⟩ := walk_call w h1 h4 hm (ihas w hm) (fun a ha e hm => (iha a ha w hm).1)
        exact fin hi hr
    · cases hs
    · cases hs
    · cases hs
    · cases hs
    · split at hs
      · exact absurd rfl hk
      · cases hs
theorem condOf {X : Cx} {conds : List Ex} {ifs : List Expr} {scope : Scope}
    (ihc : ∀ y, conds = [y] → ∀ {X : Cx} {sc : Scope} {W : WXX} {e : Expr}, XW P nm cl n X sc W → mE X.N nm y sc e = true → SE P n cl W X y e) (htb : tstBs conds = true) (hco : mEs X.N nm conds scope ifs = true) :
    ∀ (X' : Cx), X'.N = X.N → X'.K = X.K → XW P nm cl n X' scope (fun _ _ _ _ => False) → ∀ x e, conds = [x] → ifs = [e] → PT X' e (tT X'.K cl (fun _ _ _ _ => False) (evT (cfgN P n) x)) := fun X' hN _ w' x e e1 e2 => by
  subst e2
  have ht : tstB x = true := by rw [e1] at htb; simpa [tstBs] using htb
  subst e1
  have hm : mE X.N nm x scope e = true := by
    simp only [mEs, Bool.and_eq_true] at hco
    exact hco.1.2
  exact (ihc x rfl w' (by rw [hN]; exact hm)).2 ht
def Comp2T (P : Prog) (n : Nat) (cl : Nat → Value) (W : WXX) (X : Cx) (x : Ex) (ee tg iter : Expr) (ifs : List Expr) (tg2 iter2 : Expr) (ifs2 : List Expr) (scope : Scope) : Prop :=
  ∃ t : TE, (∀ pos, PE X (.ListComp ee [⟨tg, iter, ifs, 0⟩, ⟨tg2, iter2, ifs2, 0⟩] scope pos) t) ∧
      (∀ {i : Nat} {y : Str} {py pos spos : Pos}, X.N[i]? = some y → X.env.scope.names.lookup y = some .local → swapsWith (.ListComp ee [⟨tg, iter, ifs, 0⟩, ⟨tg2, iter2, ifs2, 0⟩] scope pos) (some (.Name y py)) spos.line X.env = pure true → PS X (.Assign [.Name y py] (.ListComp ee [⟨tg, iter, ifs, 0⟩, ⟨tg2, iter2, ifs2, 0⟩] scope pos) spos) (tAsg t (gName i))) ∧
      ∀ σ H Q, tL X.K cl W (evE (cfgN P n) x) σ H Q → t σ H Q
theorem comp2Of {elt : Ex} {p p2 : Pt} {k k2 : ItK} {args args2 conds conds2 : List Ex} {own own2 : List Nat} {X : Cx} {sc : Scope} {W : WXX} {ee tg iter tg2 iter2 : Expr} {ifs ifs2 : List Expr} {scope : Scope} {pos : Pos} (w : XW P nm cl n X sc W)
    (ihe : ∀ {X : Cx} {sc : Scope} {W : WXX} {e : Expr}, XW P nm cl n X sc W → mE X.N nm elt sc e = true → SE P n cl W X elt e)
    (ihc : ∀ y, conds = [y] → ∀ {X : Cx} {sc : Scope} {W : WXX} {e : Expr}, XW P nm cl n X sc W → mE X.N nm y sc e = true → SE P n cl W X y e)
    (ihd : ∀ y, conds2 = [y] → ∀ {X : Cx} {sc : Scope} {W : WXX} {e : Expr}, XW P nm cl n X sc W → mE X.N nm y sc e = true → SE P n cl W X y e)
    (iha : ∀ a, args = [a] → ∀ {X : Cx} {sc : Scope} {W : WXX} {e : Expr}, XW P nm cl n X sc W → mE X.N nm a sc e = true → SE P n cl W X a e)
    (ihas : ∀ {X : Cx} {sc : Scope} {W : WXX} {es : List Expr}, XW P nm cl n X sc W → mEs X.N nm args sc es = true → PA X es (tA X.K cl W (evEs (cfgN P n) args)))
    (ihb : ∀ a, args2 = [a] → ∀ {X : Cx} {sc : Scope} {W : WXX} {e : Expr}, XW P nm cl n X sc W → mE X.N nm a sc e = true → SE P n cl W X a e)
    (ihbs : ∀ {X : Cx} {sc : Scope} {W : WXX} {es : List Expr}, XW P nm cl n X sc W → mEs X.N nm args2 sc es = true → PA X es (tA X.K cl W (evEs (cfgN P n) args2)))
    (h : mE X.N nm (.comp2 elt p k args conds own p2 k2 args2 conds2 own2) sc (.ListComp ee [⟨tg, iter, ifs, 0⟩, ⟨tg2, iter2, ifs2, 0⟩] scope pos) = true) : Comp2T P n cl W X (.comp2 elt p k args conds own p2 k2 args2 conds2 own2) ee tg iter ifs tg2 iter2 ifs2 scope := by
  unfold mE at h
  simp only [c2Of, Bool.and_eq_true] at h
  obtain ⟨⟨⟨⟨⟨hc2, ha⟩, hb2⟩, hco⟩, hdo⟩, hel⟩ := h
  unfold c2B at hc2
  simp only [Bool.and_eq_true, decide_eq_true_eq] at hc2
  obtain ⟨⟨⟨⟨⟨⟨⟨⟨⟨⟨⟨⟨hb, hp⟩, hpo⟩, hown⟩, hcl⟩, htb⟩, hp2⟩, hpo2⟩, hsub⟩, hdl⟩, htd⟩, hs1⟩, hs2⟩ := hc2
  obtain ⟨hn1, hi1⟩ := walkOf (k := k) (args := args) (tg := tg) (iter := iter) w iha ihas hs1 ha
  refine s_comp2 w hb hp hpo hn1 (fun a b c e => by rw [e] at hs2; cases hs2) hi1 (fun _ _ => rfl) hcl (mEs_len hco) hp2 hpo2 hsub hdl (mEs_len hdo) (fun X' hN hK w' => ?_) (fun X' hN _ w' => (ihe w' (by rw [hN]; exact hel)).1) (condOf ihc htb hco) (condOf ihd htd hdo)
  exact (walkOf (k := k2) (args := args2) (tg := tg2) (iter := iter2) w' ihb ihbs hs2 (by rw [hN]; exact hb2)).2
theorem c2Of_eq {e : Expr} {q : C2} (h : c2Of e = some q) : ∃ pos, e = .ListComp q.ee [⟨q.tg, q.iter, q.ifs, 0⟩, ⟨q.tg2, q.iter2, q.ifs2, 0⟩] q.scope pos := by
  unfold c2Of at h
  split at h
  · cases h; exact ⟨_, rfl⟩
  · cases h
mutual
theorem sE : ∀ (x : Ex) {X : Cx} {sc : Scope} {W : WXX} {e : Expr}, XW P nm cl n X sc W → mE X.N nm x sc e = true → SE P n cl W X x e
  | .var i, X, sc, W, e, w, h => by
    have h0 := h
    unfold mE at h
    split at h
    · simp only [Bool.and_eq_true, decide_eq_true_eq] at h
      exact SE.plain w (s_varE (s_var w h.1 h.2)) h0 fun _ => rfl
    · cases h
  | .lit d, X, sc, W, e, w, h => by
    have h0 := h
    unfold mE at h
    split at h
    · exact SE.plain w (s_lit h) h0 fun _ => rfl
    · cases h
  | .glob k, X, sc, W, e, w, h => by
    have h0 := h
    unfold mE at h
    split at h
    · simp only [Bool.and_eq_true, decide_eq_true_eq] at h
      exact SE.plain w (s_glob w h.1 h.2) h0 fun _ => rfl
    · cases h
  | .tup xs, X, sc, W, e, w, h => by
    have h0 := h
    unfold mE at h
    split at h
    · simp only [Bool.and_eq_true, decide_eq_true_eq] at h
      exact SE.plain w (s_tup (sEs xs w h.1) h.2) h0 fun _ => rfl
    · cases h
  | .lst xs, X, sc, W, e, w, h => by
    have h0 := h
    unfold mE at h
    split at h
    · simp only [Bool.and_eq_true, decide_eq_true_eq] at h
      exact SE.plain w (s_lst (sEs xs w h.1) h.2) h0 fun _ => rfl
    · cases h
  | .dict0, X, sc, W, e, w, h => by unfold mE at h; cases h
  | .bin o a b, X, sc, W, e, w, h => by
    have h0 := h
    unfold mE at h
    split at h
    · simp only [Bool.and_eq_true] at h
      obtain ⟨⟨ho, ha⟩, hb⟩ := h
      rw [mOp_eq ho] at h0 ⊢
      refine SE.plain w (PE.cong (s_op (fun ta tb h1 h2 => pe_op (op_bin o) h1 h2) (SE.rd w (sE a w ha).1 ha) (SE.rd w (sE b w hb).1 hb)) fun ρ M => ?_) h0 fun _ => rfl
      simp only [evE]
    · cases h
  | .neg a, X, sc, W, e, w, h => by
    have h0 := h
    unfold mE at h
    split at h
    · simp only [Bool.and_eq_true] at h
      obtain ⟨ho, ha⟩ := h
      split at ho
      · exact SE.plain w (s_neg (sE a w ha).1) h0 fun _ => rfl
      · cases ho
    · cases h
  | .cmp o a b, X, sc, W, e, w, h => by
    unfold mE at h
    split at h
    · split at h
      · simp only [Bool.and_eq_true, Bool.not_eq_true'] at h
        obtain ⟨⟨⟨ho, hm⟩, ha⟩, hb⟩ := h
        rw [mCmp_eq ho] at hm ⊢
        refine ⟨PE.cong (s_op (fun ta tb h1 h2 => pe_cmpR (op_cmp w.hu o) h1 h2 hm) (SE.rd w (sE a w ha).1 ha) (SE.rd w (sE b w hb).1 hb)) fun ρ M => by simp only [evE], fun _ => ?_⟩
        refine PT.cong (s_tcmp w hm (SE.rd w (sE a w ha).1 ha) (SE.rd w (sE b w hb).1 hb)) fun ρ M => ?_
        rw [evT_other fun i e => Ex.noConfusion e]
        simp only [evE]
      · cases h
    · cases h
  | .chain o o2 a b d, X, sc, W, e, w, h => by
    unfold mE at h
    split at h
    · split at h
      · simp only [Bool.and_eq_true, Bool.not_eq_true'] at h
        obtain ⟨⟨⟨⟨⟨ho, ho2⟩, hm⟩, ha⟩, hb⟩, hd⟩ := h
        rw [mCmp_eq ho, mCmp_eq ho2] at hm ⊢
        refine ⟨PE.cong (s_chain w hm (sE a w ha).1 (sE b w hb).1 (sE d w hd).1) fun ρ M => by simp only [evE] <;> rfl, fun _ => ?_⟩
        refine PT.cong (s_tval (ra := evE (cfgN P n) (.chain o o2 a b d)) (pt_chain (op_cmp w.hu o) (op_cmp w.hu o2) (sE a w ha).1 (sE b w hb).1 (sE d w hd).1 hm) (fun σ H Q z => ?_) fun ρ M t M' ht => ?_) fun ρ M => ?_
        · obtain ⟨ι, F, ρ, M, r, z⟩ := z
          simp only [evE] at z
          exact chain_imp ⟨ι, F, ρ, M, r, z⟩
        · simp only [evE] at ht
          cases e1 : evE (cfgN P n) a ρ M with
          | ok x M1 =>
            rw [e1, R.bind_ok] at ht
            cases e2 : evE (cfgN P n) b ρ M1 with
            | ok y M2 =>
              rw [e2, R.bind_ok] at ht
              cases e3 : cmpD o x y with
              | none => rw [e3] at ht; cases ht
              | some k =>
                rw [e3, R.of_some, R.bind_ok] at ht
                obtain ⟨kb, rfl⟩ := cmpD_bl e3
                cases kb with
                | false => cases ht; exact ⟨_, rfl⟩
                | true =>
                  cases e4 : evE (cfgN P n) d ρ M2 with
                  | ok u M3 =>
                    have ht : (evE (cfgN P n) d ρ M2).bind (fun z M4 => VL.R.of (cmpD o2 y z) M4) = .ok t M' := ht
                    rw [e4, R.bind_ok] at ht
                    cases e5 : cmpD o2 y u with
                    | none => rw [e5] at ht; cases ht
                    | some k2 =>
                      rw [e5, R.of_some] at ht
                      cases ht
                      exact cmpD_bl e5
                  | ex _ _ => have ht : (evE (cfgN P n) d ρ M2).bind (fun z M4 => VL.R.of (cmpD o2 y z) M4) = .ok t M' := ht; rw [e4] at ht; cases ht
                  | st => have ht : (evE (cfgN P n) d ρ M2).bind (fun z M4 => VL.R.of (cmpD o2 y z) M4) = .ok t M' := ht; rw [e4] at ht; cases ht
            | ex _ _ => rw [e2] at ht; cases ht
            | st => rw [e2] at ht; cases ht
          | ex _ _ => rw [e1] at ht; cases ht
          | st => rw [e1] at ht; cases ht
        · rw [evT_other fun i e => Ex.noConfusion e]
      · cases h
    · cases h
  | .isN a ng, X, sc, W, e, w, h => by
    unfold mE at h
    split at h
    · split at h
      · simp only [Bool.and_eq_true] at h
        obtain ⟨ho, ha⟩ := h
        refine ⟨s_isN ho (sE a w ha).1, fun _ => ?_⟩
        obtain ⟨t, h1, h2⟩ := s_tisN (pos := _) ho (sE a w ha).1
        refine PT.cong (s_tval h1 h2 fun ρ M d M' ht => ?_) fun ρ M => by rw [evT_other fun i e => Ex.noConfusion e]
        simp only [evE] at ht
        cases e1 : evE (cfgN P n) a ρ M with
        | ok x M1 => rw [e1, R.bind_ok] at ht; cases ht; exact ⟨_, rfl⟩
        | ex _ _ => rw [e1] at ht; cases ht
        | st => rw [e1] at ht; cases ht
      · cases h
    · cases h
  | .and xs, X, sc, W, e, w, h => by
    unfold mE at h
    split at h
    · simp only [Bool.and_eq_true] at h
      obtain ⟨ho, ha⟩ := h
      split at ho
      · obtain ⟨h1, h2⟩ := sAnd xs w ha
        refine ⟨PE.cong h1 fun ρ M => by simp only [evE], fun ht => ?_⟩
        simp only [tstB, Bool.and_eq_true, Bool.not_eq_true'] at ht
        refine PT.cong (h2 ht.1 ht.2).pt fun ρ M => ?_
        rw [evT_other fun i e => Ex.noConfusion e]
        simp only [evE]
      · cases ho
    · cases h
  | .or xs, X, sc, W, e, w, h => by
    unfold mE at h
    split at h
    · simp only [Bool.and_eq_true] at h
      obtain ⟨ho, ha⟩ := h
      split at ho
      · obtain ⟨h1, h2⟩ := sOr xs w ha
        refine ⟨PE.cong h1 fun ρ M => by simp only [evE], fun ht => ?_⟩
        simp only [tstB, Bool.and_eq_true, Bool.not_eq_true'] at ht
        refine PT.cong (h2 ht.1 ht.2).pt fun ρ M => ?_
        rw [evT_other fun i e => Ex.noConfusion e]
        simp only [evE]
      · cases ho
    · cases h
  | .not a, X, sc, W, e, w, h => by
    unfold mE at h
    split at h
    · simp only [Bool.and_eq_true] at h
      obtain ⟨ho, ha⟩ := h
      split at ho
      · refine ⟨PE.cong (s_not (SE.rd w (sE a w ha).1 ha)) fun ρ M => by simp only [evE], fun ht => ?_⟩
        simp only [tstB] at ht
        exact PT.cong (s_tnot ((sE a w ha).2 ht)) fun ρ M => evT_not
      · cases ho
    · cases h
  | .ite q a b, X, sc, W, e, w, h => by
    unfold mE at h
    split at h
    · simp only [Bool.and_eq_true] at h
      obtain ⟨⟨⟨ht, hq⟩, ha⟩, hb⟩ := h
      refine ⟨PE.cong (s_ite ((sE q w hq).2 ht) (sE a w ha).1 (sE b w hb).1) fun ρ M => ?_, fun ht => by simp [tstB] at ht⟩
      simp only [evE]
      unfold evT
      rw [R.bind_assoc]
    · cases h
  | .ix a b, X, sc, W, e, w, h => by
    have h0 := h
    unfold mE at h
    split at h
    · simp only [Bool.and_eq_true] at h
      obtain ⟨⟨hp, ha⟩, hb⟩ := h
      refine SE.plain w (PE.cong (s_ix hp (SE.rd w (sE a w ha).1 ha) (sE b w hb).1) fun ρ M => ?_) h0 fun _ => rfl
      simp only [evE]
    · cases h
  | .sl a lo hi, X, sc, W, e, w, h => by
    have h0 := h
    unfold mE at h
    split at h
    · split at h
      · rename_i l u st _
        simp only [Bool.and_eq_true, Option.isNone_iff_eq_none] at h
        obtain ⟨⟨⟨hs, ha⟩, hl⟩, hu⟩ := h
        subst hs
        refine SE.plain w (PE.cong (s_sl (SE.rd w (sE a w ha).1 ha) (sO (fun e h => (sE lo w h).1) hl) (sO (fun e h => (sE hi w h).1) hu)) fun ρ M => ?_) h0 fun _ => rfl
        simp only [evE]
      · cases h
    · cases h
  | .call f xs, X, sc, W, e, w, h => by
    have h0 := h
    unfold mE at h
    split at h
    · split at h
      · simp only [Bool.and_eq_true, decide_eq_true_eq, List.isEmpty_iff] at h
        obtain ⟨⟨⟨h1, h2⟩, h3⟩, h4⟩ := h
        subst h3
        exact SE.plain w (s_call w h1 h2 h4 (sEs xs w h4)) h0 fun _ => rfl
      · cases h
    · cases h
  | .blt b xs, X, sc, W, e, w, h => by
    have h0 := h
    unfold mE at h
    split at h
    · split at h
      · simp only [Bool.and_eq_true, decide_eq_true_eq, List.isEmpty_iff, Bool.not_eq_true'] at h
        obtain ⟨⟨⟨⟨h1, h2⟩, h3⟩, h5⟩, h4⟩ := h
        subst h3
        exact SE.plain w (s_blt w h1 h2 h4 h5 (sRs xs w h4)) h0 fun _ => rfl
      · cases h
    · cases h
  | .mth m a xs, X, sc, W, e, w, h => by
    have h0 := h
    unfold mE at h
    split at h
    · split at h
      · simp only [Bool.and_eq_true, decide_eq_true_eq, List.isEmpty_iff] at h
        obtain ⟨⟨⟨⟨⟨⟨⟨h1, hB⟩, h2⟩, h3⟩, h4⟩, h5⟩, h6⟩, h7⟩ := h
        subst h2
        cases m with
        | index => subst h1; exact SE.plain w (s_mthI w h5 h3 h4 h7 (sE a w h6).1 (sEs xs w h7)) h0 fun _ => rfl
        | indexL => subst h1; exact SE.plain w (s_mthL w h5 h3 h4 h7 (sE a w h6).1 (sEs xs w h7)) h0 fun _ => rfl
        | get => cases hB
      · cases h
    · cases h
  | .fld ks a f, X, sc, W, e, w, h => by
    have h0 := h
    unfold mE at h
    split at h
    · simp only [Bool.and_eq_true, decide_eq_true_eq] at h
      obtain ⟨⟨⟨h1, h2⟩, h3⟩, h4⟩ := h
      subst h1
      exact SE.plain w (s_fld w h2 h3 (sE a w h4).1) h0 fun _ => rfl
    · cases h
  | .mcall k m f a xs, X, sc, W, e, w, h => by
    have h0 := h
    unfold mE at h
    split at h
    · split at h
      · simp only [Bool.and_eq_true, decide_eq_true_eq, List.isEmpty_iff] at h
        obtain ⟨⟨⟨⟨⟨⟨⟨h1, h2⟩, h3⟩, h4⟩, h5⟩, h6⟩, h7⟩, h8⟩ := h
        subst h1 h3
        exact SE.plain w (s_mcall w h2 h4 h5 h6 h8 (sE a w h7).1 (sEs xs w h8)) h0 fun _ => rfl
      · cases h
    · cases h
  | .mk f xs, X, sc, W, e, w, h => by
    have h0 := h
    unfold mE at h
    split at h
    · split at h
      · simp only [Bool.and_eq_true, decide_eq_true_eq, List.isEmpty_iff] at h
        obtain ⟨⟨⟨h1, h2⟩, h3⟩, h4⟩ := h
        subst h2
        exact SE.plain w (s_mk w h3 h1 h4 (sEs xs w h4)) h0 fun _ => rfl
      · cases h
    · cases h
  | .disp ks xs, X, sc, W, e, w, h => by
    have h0 := h
    unfold mE at h
    split at h
    · simp only [Bool.and_eq_true, decide_eq_true_eq, Bool.not_eq_true'] at h
      obtain ⟨⟨⟨⟨h1, h2⟩, h3⟩, h4⟩, h5⟩ := h
      exact SE.plain w (s_disp w h1 h2 h3 h4 h5 fun a ha e hm => sEm xs a ha w hm) h0 fun _ => rfl
    · cases h
  | .dcomp kx vx p k args own, X, sc, W, e, w, h => by
    have h0 := h
    unfold mE at h
    split at h
    · split at h
      · rename_i ek ev scope lpos _ tg iter ifs
        simp only [Bool.and_eq_true, List.isEmpty_iff] at h
        obtain ⟨⟨⟨⟨⟨⟨⟨⟨h1, h2⟩, h3⟩, h4⟩, h5⟩, h6⟩, h7⟩, h8⟩, h9⟩ := h
        subst h1
        obtain ⟨hn1, hi1⟩ := walkOf (k := k) (args := args) (tg := tg) (iter := iter) w (fun a ha => by
          cases args with
          | nil => cases ha
          | cons z zs =>
            have e3 := (List.cons.inj ha).1
            subst e3
            intro X sc W e w h
            exact sE z w h) (sEs args) h6 h7
        exact SE.plain w (s_dcomp w h2 h3 h4 hn1 hi1 (fun X' hN hK w' => (sE kx w' (by rw [hN]; exact h8)).1) (fun X' hN hK w' => (sE vx w' (by rw [hN]; exact h9)).1)) h0 fun _ => rfl
      · cases h
    · cases h
  | .isi a t, X, sc, W, e, w, h => by
    have h0 := h
    unfold mE at h
    split at h
    · split at h
      · simp only [Bool.and_eq_true, decide_eq_true_eq, List.isEmpty_iff] at h
        obtain ⟨⟨⟨⟨⟨⟨h1, h2⟩, h3⟩, h4⟩, h5⟩, h6⟩, h7⟩ := h
        subst h5
        refine SE.plain w (PE.cong (s_isi w h1 h2 h3 h4 h6 (SE.rd w (sE a w h7).1 h7)) fun ρ M => ?_) h0 fun _ => rfl
        simp only [evE]
      · cases h
    · cases h
  | .lrng xs, X, sc, W, e, w, h => by
    have h0 := h
    unfold mE at h
    split at h
    · split at h
      · simp only [Bool.and_eq_true, decide_eq_true_eq, List.isEmpty_iff] at h
        obtain ⟨⟨⟨⟨⟨⟨⟨h1, h2⟩, h3⟩, h4⟩, h5⟩, h6⟩, h7⟩, h8⟩ := h
        subst h3 h6
        refine SE.plain w (PE.weak (s_lrng w h1 h2 h4 h5 h7 h8 fun a ha e hm => sEm xs a ha w hm) fun σ H Q z => tNL_of ?_) h0 fun _ => rfl
        obtain ⟨ι, F, ρ, M, r, z⟩ := z
        simp only [evE] at z
        refine ⟨ι, F, ρ, M, r, ?_⟩
        dsimp only
        rw [R.bind_assoc]
        exact z
      · cases h
    · cases h
  | .dget d k none, X, sc, W, e, w, h => by
    have h0 := h
    unfold mE at h
    split at h
    · simp only [Bool.and_eq_true, decide_eq_true_eq, List.isEmpty_iff] at h
      obtain ⟨⟨⟨⟨⟨h1, h2⟩, h3⟩, h4⟩, h5⟩, h6⟩ := h
      subst h1 h3
      split at h6
      · rename_i ek _
        simp only [Bool.and_eq_true] at h6
        exact SE.plain w (s_dget1 w h2 h4 h6.1 (sE d w h5).1 (sE k w h6.2).1) h0 fun _ => rfl
      · rename_i e0; cases e0
      · cases h6
    · cases h
  | .dget d k (some o), X, sc, W, e, w, h => by
    have h0 := h
    unfold mE at h
    split at h
    · simp only [Bool.and_eq_true, decide_eq_true_eq, List.isEmpty_iff] at h
      obtain ⟨⟨⟨⟨⟨h1, h2⟩, h3⟩, h4⟩, h5⟩, h6⟩ := h
      subst h1 h3
      split at h6
      · rename_i e0; cases e0
      · rename_i f ek ef e0
        cases e0
        simp only [Bool.and_eq_true] at h6
        exact SE.plain w (s_dget2 w h2 h4 h6.1.1.1 h6.1.2 (sE d w h5).1 (sE k w h6.1.1.2).1 (sE o w h6.2).1) h0 fun _ => rfl
      · cases h6
    · cases h
  | .dix d k, X, sc, W, e, w, h => by
    have h0 := h
    unfold mE at h
    split at h
    · simp only [Bool.and_eq_true] at h
      obtain ⟨⟨hp, hd⟩, hk⟩ := h
      exact SE.plain w (s_dix w hp (sE d w hd).1 (sE k w hk).1) h0 fun _ => rfl
    · cases h
  | .din k d ng, X, sc, W, e, w, h => by
    have h0 := h
    unfold mE at h
    split at h
    · split at h
      · simp only [Bool.and_eq_true, Bool.not_eq_true'] at h
        obtain ⟨⟨⟨ho, hm⟩, hk⟩, hd⟩ := h
        rw [mCmp_eq ho] at hm h0 ⊢
        exact ⟨(s_din w hm (sE d w hd).1 (sE k w hk).1).1, fun _ => (s_din w hm (sE d w hd).1 (sE k w hk).1).2⟩
      · cases h
    · cases h
  | .bor a, X, sc, W, e, w, h => by
    unfold mE at h
    have ih := sE a w h
    refine ⟨PE.weak ih.1 fun σ H Q z => tE_bor ?_, fun ht => PT.weak (ih.2 (by simpa only [tstB] using ht)) fun σ H Q z => tT_bor ?_⟩
    · obtain ⟨ι, F, ρ, M, r, z⟩ := z
      simp only [evE] at z
      exact ⟨ι, F, ρ, M, r, z⟩
    · obtain ⟨ι, F, ρ, M, r, z⟩ := z
      simp only [evT, evE] at z
      exact ⟨ι, F, ρ, M, r, z⟩
  | .rpop a, X, sc, W, e, w, h => by
    have h0 := h
    unfold mE at h
    split at h
    · split at h
      · simp only [Bool.and_eq_true, decide_eq_true_eq, List.isEmpty_iff] at h
        obtain ⟨⟨⟨⟨⟨h1, h2⟩, h3⟩, h4⟩, h5⟩, h6⟩ := h
        subst h1 h2 h4
        exact SE.plain w (s_rpop w h5 h3 (sE a w h6).1) h0 fun _ => rfl
      · cases h
    · cases h
  | .rsl a, X, sc, W, e, w, h => by
    have h0 := h
    unfold mE at h
    split at h
    · split at h
      · exact SE.plain w (s_rsl (sE a w h).1) h0 fun _ => rfl
      · cases h
    · cases h
  | .kget k a, X, sc, W, e, w, h => by
    have h0 := h
    unfold mE at h
    split at h
    · split at h
      · simp only [Bool.and_eq_true, decide_eq_true_eq] at h
        obtain ⟨⟨⟨h1, h2⟩, h3⟩, h4⟩ := h
        exact SE.plain w (s_kget w h1 h2 h3 (sE a w h4).1) h0 fun _ => rfl
      · cases h
    · cases h
  | .ch4 o1 o2 o3 o4 a b g d x, X, sc, W, e, w, h => by
    unfold mE at h
    split at h
    · split at h
      · simp only [Bool.and_eq_true, Bool.not_eq_true'] at h
        obtain ⟨⟨⟨⟨⟨⟨⟨⟨⟨k1, k2⟩, k3⟩, k4⟩, hm⟩, ha⟩, hb⟩, hg⟩, hd⟩, hx⟩ := h
        rw [mCmp_eq k1, mCmp_eq k2, mCmp_eq k3, mCmp_eq k4] at hm ⊢
        refine ⟨PE.weak (pe_ch4 (op_cmp w.hu o1) (op_cmp w.hu o2) (op_cmp w.hu o3) (op_cmp w.hu o4) (sE a w ha).1 (sE b w hb).1 (sE g w hg).1 (sE d w hd).1 (sE x w hx).1 hm) fun σ H Q z => ch4_imp z, fun _ => ?_⟩
        refine PT.cong (s_tval (ra := evE (cfgN P n) (.ch4 o1 o2 o3 o4 a b g d x)) (pt_ch4 (op_cmp w.hu o1) (op_cmp w.hu o2) (op_cmp w.hu o3) (op_cmp w.hu o4) (sE a w ha).1 (sE b w hb).1 (sE g w hg).1 (sE d w hd).1 (sE x w hx).1 hm) (fun σ H Q z => ch4_imp z) fun ρ M t M' ht => ch4_bl ht) fun ρ M => ?_
        rw [evT_other fun i e => Ex.noConfusion e]
      · cases h
    · cases h
  | .mxd a d, X, sc, W, e, w, h => by
    have h0 := h
    unfold mE at h
    split at h
    · split at h
      · simp only [Bool.and_eq_true, decide_eq_true_eq] at h
        obtain ⟨⟨⟨⟨⟨⟨h1, h2⟩, h3⟩, h4⟩, h5⟩, h6⟩, h7⟩ := h
        exact SE.plain w (s_mxd w h1 h2 h3 h4 (sE a w h6).1 (sE d w h7).1) h0 fun _ => rfl
      · cases h
    · cases h
  | .newD t, X, sc, W, e, w, h => by
    have h0 := h
    unfold mE at h
    split at h
    · rename_i ks es _
      simp only [Bool.and_eq_true, List.isEmpty_iff] at h
      obtain ⟨rfl, rfl⟩ := h
      exact SE.plain w s_newD h0 fun _ => rfl
    · cases h
  | .rapp a x, X, sc, W, e, w, h => by
    have h0 := h
    unfold mE at h
    split at h
    · split at h
      · split at h
        · simp only [Bool.and_eq_true, decide_eq_true_eq, List.isEmpty_iff] at h
          obtain ⟨⟨⟨⟨⟨⟨h1, h2⟩, h3⟩, h4⟩, h5⟩, h6⟩, h7⟩ := h
          subst h1 h3
          exact SE.plain w (s_rapp w h4 h2 h5 (sE a w h6).1 (sE x w h7).1) h0 fun _ => rfl
        · cases h
      · cases h
    · cases h
  | .look a, X, sc, W, e, w, h => by
    unfold mE at h
    have ih := sE a w h
    refine ⟨PE.weak ih.1 fun σ H Q z => tE_look ?_, fun ht => PT.weak (ih.2 (by simpa only [tstB] using ht)) fun σ H Q z => tT_look ?_⟩
    · obtain ⟨ι, F, ρ, M, r, z⟩ := z
      simp only [evE] at z
      exact ⟨ι, F, ρ, M, r, z⟩
    · obtain ⟨ι, F, ρ, M, r, z⟩ := z
      simp only [evT, evE] at z
      exact ⟨ι, F, ρ, M, r, z⟩
  | .comp elt p k args conds own, X, sc, W, e, w, h => by
    have h0 := h
    unfold mE at h
    split at h
    · split at h
      · rename_i ee scope lpos _ tg iter ifs
        refine SE.plain w ?_ h0 fun _ => rfl
        obtain ⟨t, h1, _, h3⟩ := compOf w (pos := lpos) (sE elt) (fun y hy => by
          cases conds with
          | nil => cases hy
          | cons z zs =>
            have e3 := (List.cons.inj hy).1
            subst e3
            intro X sc W e w h
            exact sE z w h) (fun a ha => by
          cases args with
          | nil => cases ha
          | cons z zs =>
            have e3 := (List.cons.inj ha).1
            subst e3
            intro X sc W e w h
            exact sE z w h) (sEs args) h0
        exact PE.weak (h1 lpos) fun σ H Q z => h3 σ H Q (tL_of z)
      · cases h
    · cases h
  | .comp2 elt p k args conds own p2 k2 args2 conds2 own2, X, sc, W, e, w, h => by
    have h0 := h
    unfold mE at h
    split at h
    · rename_i q eq
      obtain ⟨pos, rfl⟩ := c2Of_eq eq
      refine SE.plain w ?_ h0 fun _ => rfl
      obtain ⟨t, h1, _, h3⟩ := comp2Of w (pos := pos) (sE elt) (fun y hy => by
        cases conds with
        | nil => cases hy
        | cons z zs =>
          have e3 := (List.cons.inj hy).1
          subst e3
          intro X sc W e w h
          exact sE z w h) (fun y hy => by
        cases conds2 with
        | nil => cases hy
        | cons z zs =>
          have e3 := (List.cons.inj hy).1
          subst e3
          intro X sc W e w h
          exact sE z w h) (fun a ha => by
        cases args with
        | nil => cases ha
        | cons z zs =>
          have e3 := (List.cons.inj ha).1
          subst e3
          intro X sc W e w h
          exact sE z w h) (sEs args) (fun a ha => by
        cases args2 with
        | nil => cases ha
        | cons z zs =>
          have e3 := (List.cons.inj ha).1
          subst e3
          intro X sc W e w h
          exact sE z w h) (sEs args2) h0
      exact PE.weak (h1 pos) fun σ H Q z => h3 σ H Q (tL_of z)
    · cases h
theorem sEm : ∀ (xs : List Ex) (a : Ex), a ∈ xs → ∀ {X : Cx} {sc : Scope} {W : WXX} {e : Expr}, XW P nm cl n X sc W → mE X.N nm a sc e = true → PE X e (tE X.K cl W (evE (cfgN P n) a))
  | [], a, ha, _, _, _, _, _, _ => absurd ha (by simp)
  | x :: xs, a, ha, _, _, _, _, w, h => by
    by_cases hx : a ∈ xs
    · exact sEm xs a hx w h
    · have e : x = a := (List.mem_cons.mp ha).elim Eq.symm fun z => absurd z hx
      subst e
      exact (sE x w h).1
theorem sEs : ∀ (xs : List Ex) {X : Cx} {sc : Scope} {W : WXX} {es : List Expr}, XW P nm cl n X sc W → mEs X.N nm xs sc es = true → PA X es (tA X.K cl W (evEs (cfgN P n) xs))
  | [], X, sc, W, es, w, h => by
    simp only [mEs, List.isEmpty_iff] at h
    subst h
    exact PA.cong s_pa_nil fun ρ M => by simp only [evEs]
  | x :: xs, X, sc, W, es, w, h => by
    cases es with
    | nil => simp [mEs] at h
    | cons e es =>
      simp only [mEs, Bool.and_eq_true] at h
      exact PA.cong (s_pa_cons (c := cfgN P n) h.1.1 (sE x w h.1.2).1 (sEs xs w h.2)) fun ρ M => by simp only [evEs]
theorem sRs : ∀ (xs : List Ex) {X : Cx} {sc : Scope} {W : WXX} {es : List Expr}, XW P nm cl n X sc W → mEs X.N nm xs sc es = true → PA X es (tAR X.K cl W (evRs (cfgN P n) xs))
  | [], X, sc, W, es, w, h => by
    simp only [mEs, List.isEmpty_iff] at h
    subst h
    exact PA.congR s_par_nil fun ρ M => by simp only [evRs]
  | x :: xs, X, sc, W, es, w, h => by
    cases es with
    | nil => simp [mEs] at h
    | cons e es =>
      simp only [mEs, Bool.and_eq_true] at h
      exact PA.congR (s_par_cons (c := cfgN P n) h.1.1 (SE.rd w (sE x w h.1.2).1 h.1.2) (sRs xs w h.2)) fun ρ M => by simp only [evRs]
theorem sAnd : ∀ (xs : List Ex) {X : Cx} {sc : Scope} {W : WXX} {es : List Expr} {pos : Pos}, XW P nm cl n X sc W → mEs X.N nm xs sc es = true →
    PE X (.BoolOp .And es pos) (tE X.K cl W (evAnd (cfgN P n) xs)) ∧ (tstBs xs = true → xs.isEmpty = false → PW X (.BoolOp .And es pos) (tT X.K cl W fun ρ M => (evAnd (cfgN P n) xs ρ M).bind fun d M1 => R.of (truth d) M1))
  | [], X, sc, W, es, pos, w, h => ⟨⟨fun pins s σ H Q I z => by obtain ⟨ι, F, ρ, M, r, z⟩ := z; simp only [evAnd] at z; exact z.elim⟩, fun _ h => by cases h⟩
  | x :: xs, X, sc, W, es, pos, w, h => by
    cases es with
    | nil => simp [mEs] at h
    | cons e es' =>
      simp only [mEs, Bool.and_eq_true] at h
      obtain ⟨⟨hn, hx⟩, hs⟩ := h
      have ix := sE x w hx
      have il := sAnd xs (pos := pos) w hs
      cases xs with
      | nil =>
        simp only [mEs, List.isEmpty_iff] at hs
        subst hs
        refine ⟨PE.cong (s_one ix.1) fun ρ M => ?_, fun ht _ => ?_⟩
        · simp only [evAnd]
          cases evE (cfgN P n) x ρ M <;> rfl
        · simp only [tstBs, Bool.and_eq_true] at ht
          refine PW.weak (pw_and1 (ix.2 ht.1)) fun σ H Q z => ?_
          obtain ⟨ι, F, ρ, M, r, z⟩ := z
          refine ⟨ι, F, ρ, M, r, ?_⟩
          simp only [evAnd] at z
          unfold evT
          cases e1 : evE (cfgN P n) x ρ M <;> (rw [e1] at z; exact z)
      | cons y ys =>
        cases es' with
        | nil => simp [mEs] at hs
        | cons e2 es2 =>
          refine ⟨PE.cong (s_and ix.1 il.1) fun ρ M => ?_, fun ht _ => ?_⟩
          · simp only [evAnd]
          · simp only [tstBs, Bool.and_eq_true] at ht
            refine PW.weak (s_wand (ix.2 ht.1) (il.2 (by simp only [tstBs, Bool.and_eq_true]; exact ht.2) rfl)) fun σ H Q z => ?_
            obtain ⟨ι, F, ρ, M, r, z⟩ := z
            refine ⟨ι, F, ρ, M, r, ?_⟩
            unfold evT
            dsimp only
            rw [R.bind_assoc]
            dsimp only at z
            rw [evAnd_cc] at z
            simp only [R.bind_assoc] at z ⊢
            cases e1 : evE (cfgN P n) x ρ M with
            | ok d M1 =>
              rw [e1] at z
              simp only [R.bind_ok] at z ⊢
              cases et : truth d with
              | none => rw [et] at z; exact z
              | some t =>
                rw [et] at z
                cases t with
                | true => exact z
                | false =>
                  simp only [R.of_some, R.bind_ok, if_neg (show ¬ (false = true) by decide)] at z ⊢
                  rw [et] at z
                  exact z
            | ex c' M1 => rw [e1] at z; exact z
            | st => rw [e1] at z; exact z
theorem sOr : ∀ (xs : List Ex) {X : Cx} {sc : Scope} {W : WXX} {es : List Expr} {pos : Pos}, XW P nm cl n X sc W → mEs X.N nm xs sc es = true →
    PE X (.BoolOp .Or es pos) (tE X.K cl W (evOr (cfgN P n) xs)) ∧ (tstBs xs = true → xs.isEmpty = false → PW X (.BoolOp .Or es pos) (tT X.K cl W fun ρ M => (evOr (cfgN P n) xs ρ M).bind fun d M1 => R.of (truth d) M1))
  | [], X, sc, W, es, pos, w, h => ⟨⟨fun pins s σ H Q I z => by obtain ⟨ι, F, ρ, M, r, z⟩ := z; simp only [evOr] at z; exact z.elim⟩, fun _ h => by cases h⟩
  | x :: xs, X, sc, W, es, pos, w, h => by
    cases es with
    | nil => simp [mEs] at h
    | cons e es' =>
      simp only [mEs, Bool.and_eq_true] at h
      obtain ⟨⟨hn, hx⟩, hs⟩ := h
      have ix := sE x w hx
      have il := sOr xs (pos := pos) w hs
      cases xs with
      | nil =>
        simp only [mEs, List.isEmpty_iff] at hs
        subst hs
        refine ⟨PE.cong (s_one ix.1) fun ρ M => ?_, fun ht _ => ?_⟩
        · simp only [evOr]
          cases evE (cfgN P n) x ρ M <;> rfl
        · simp only [tstBs, Bool.and_eq_true] at ht
          refine PW.weak (pw_or1 (ix.2 ht.1)) fun σ H Q z => ?_
          obtain ⟨ι, F, ρ, M, r, z⟩ := z
          refine ⟨ι, F, ρ, M, r, ?_⟩
          simp only [evOr] at z
          unfold evT
          cases e1 : evE (cfgN P n) x ρ M <;> (rw [e1] at z; exact z)
      | cons y ys =>
        cases es' with
        | nil => simp [mEs] at hs
        | cons e2 es2 =>
          refine ⟨PE.cong (s_or ix.1 il.1) fun ρ M => ?_, fun ht _ => ?_⟩
          · simp only [evOr]
          · simp only [tstBs, Bool.and_eq_true] at ht
            refine PW.weak (s_wor (ix.2 ht.1) (il.2 (by simp only [tstBs, Bool.and_eq_true]; exact ht.2) rfl)) fun σ H Q z => ?_
            obtain ⟨ι, F, ρ, M, r, z⟩ := z
            refine ⟨ι, F, ρ, M, r, ?_⟩
            unfold evT
            dsimp only
            rw [R.bind_assoc]
            dsimp only at z
            rw [evOr_cc] at z
            simp only [R.bind_assoc] at z ⊢
            cases e1 : evE (cfgN P n) x ρ M with
            | ok d M1 =>
              rw [e1] at z
              simp only [R.bind_ok] at z ⊢
              cases et : truth d with
              | none => rw [et] at z; exact z
              | some t =>
                rw [et] at z
                cases t with
                | false => exact z
                | true =>
                  simp only [R.of_some, R.bind_ok, if_pos] at z ⊢
                  rw [et] at z
                  exact z
            | ex c' M1 => rw [e1] at z; exact z
            | st => rw [e1] at z; exact z
end
end
end VL

/-! V7A: things of one's own -/
namespace VL
open PySem PySem.Spec PyProof.Rows L2
/-! ### matching -/
def frB : Ex → Bool
  | .lrng _ => true
  | .blt .list _ => true
  | .sl _ _ _ => true
  | .bin .add _ _ => true
  | .rsl _ => true
  | _ => false
def isKeys : ItK → Bool
  | .keys => true
  | _ => false
mutual
def mA (N : List Str) (nm : Nms) : Ax → Scope → Expr → Bool
  | .e x, sc, e => mE N nm x sc e && noDc x
  | .lst as, sc, e => match e with
    | .List es _ => mAs N nm as sc es && decide (as.length ≤ 1000)
    | _ => false
  | .dict0 _, sc, e => match e with
    | .Dict [] [] _ => true
    | _ => false
  | .fr x, sc, e => mE N nm x sc e && frB x
  | .call f xs, sc, e => mE N nm (.call f xs) sc e
  | .mcall k m f o xs, sc, e => mE N nm (.mcall k m f o xs) sc e
  | .ix a k, sc, e => match e with
    | .Subscript ea eb _ => pixB eb && mA N nm a sc ea && mE N nm k sc eb
    | _ => false
  | .bor a, sc, e => mA N nm a sc e
  | .look a, sc, e => mA N nm a sc e
  | .tup as, sc, e => match e with
    | .Tuple es _ _ => mAs N nm as sc es && decide (as.length ≤ 1000)
    | _ => false
  | .dn a, sc, e => mA N nm a sc e
  | .comp elt p k args conds own, sc, e => match e with
    | .ListComp ee gs scope lp => (match gs with
      | [⟨tg, iter, ifs, 0⟩] => mE N nm (.comp (.lit .non) p k args conds own) sc (.ListComp (.Constant .none 0 lp) [⟨tg, iter, ifs, 0⟩] scope lp) && mA N nm elt scope ee && !isKeys k
      | _ => false)
    | _ => false
def mAs (N : List Str) (nm : Nms) : List Ax → Scope → List Expr → Bool
  | [], sc, es => es.isEmpty
  | a :: as, sc, es => match es with
    | e :: es => nst e && mA N nm a sc e && mAs N nm as sc es
    | [] => false
end
section
variable {K : PySem.W.Frag} {ι ι' ι0 : List Addr} {F F' F0 H H' H0 : Hp} {ρ : Sl} {M : Mem} {σ : L2.St} {cl : Nat → Value} {W : WXX}
/-- several things of one's own -/
inductive DRepA (K : PySem.W.Frag) (ι : List Addr) (F H : Hp) : List V → List (Md × D) → (Addr → Prop) → Prop
  | nil {S : Addr → Prop} : DRepA K ι F H [] [] S
  | cons {v : V} {r : Md × D} {vs : List V} {rs : List (Md × D)} {S A B : Addr → Prop} : DRep K ι F H r.1 v r.2 A → DRepA K ι F H vs rs B → (∀ a, A a → S a) → (∀ a, B a → S a) → (∀ a, A a → ¬ B a) → DRepA K ι F H (v :: vs) (r :: rs) S
theorem DRepA.mono (hι : ∀ (n : Nat) a, ι[n]? = some a → ι'[n]? = some a) (hF : ∀ a u, F a = some u → F' a = some u) : ∀ {v : List V} {d : List (Md × D)} {S S' : Addr → Prop}, DRepA K ι F H v d S → (∀ a, S a → S' a ∧ ∀ u, H a = some u → H' a = some u) → DRepA K ι' F' H' v d S'
  | _, _, _, _, .nil, _ => .nil
  | _, _, _, _, .cons h r a b c, q => .cons (h.mono hι hF fun x hx => ⟨hx, (q _ (a x hx)).2⟩) (DRepA.mono hι hF r fun x hx => ⟨hx, (q _ (b x hx)).2⟩) (fun x hx => (q _ (a x hx)).1) (fun x hx => (q _ (b x hx)).1) c
theorem DRepA.length : ∀ {v : List V} {d : List (Md × D)} {S : Addr → Prop}, DRepA K ι F H v d S → v.length = d.length
  | _, _, _, .nil => rfl
  | _, _, _, .cons _ r _ _ _ => congrArg (· + 1) r.length
theorem DRepA.join {m : Md} : ∀ {v : List V} {d : List (Md × D)} {S : Addr → Prop}, DRepA K ι F H v d S → (∀ r ∈ d, r.2.isLD = false ∨ r.1 = m) → DReps K ι F H m v (d.map (·.2)) S
  | _, _, _, .nil, _ => .nil
  | _, _, _, .cons (r := r) h q a b c, e => by
    refine .cons ?_ (DRepA.join q fun x hx => e x (List.mem_cons_of_mem _ hx)) a b c
    rcases e r List.mem_cons_self with z | z
    · exact .fz (h.flat (.inr z)) (.inr z)
    · rw [← z]; exact h
theorem joinM_ok {rs : List (Md × D)} {m : Md} (h : joinM rs = some m) : ∀ r ∈ rs, r.2.isLD = false ∨ r.1 = m := by
  unfold joinM at h
  intro r hr
  cases e : r.2.isLD with
  | false => exact .inl rfl
  | true =>
    refine .inr ?_
    have hm : r ∈ rs.filter (fun r => r.2.isLD) := List.mem_filter.mpr ⟨hr, e⟩
    split at h
    · rename_i e2; rw [e2] at hm; cases hm
    · rename_i q t e2
      split at h
      · rename_i e3
        cases h
        rw [e2] at hm
        rcases List.mem_cons.mp hm with rfl | hm
        · rfl
        · have := List.all_eq_true.mp e3 r hm
          simpa using this
      · cases h
theorem DRepA.append : ∀ {v w : List V} {d e : List (Md × D)} {S T U : Addr → Prop}, DRepA K ι F H v d S → DRepA K ι F H w e T → (∀ a, S a → U a) → (∀ a, T a → U a) → (∀ a, S a → ¬ T a) → DRepA K ι F H (v ++ w) (d ++ e) U
  | _, _, _, _, _, _, _, .nil, q, _, h2, _ => q.mono (fun _ _ h => h) (fun _ _ h => h) fun a h => ⟨h2 a h, fun _ h => h⟩
  | _, _, _, _, _, T, U, .cons (A := A) (B := B) h r a b c, q, h1, h2, h3 => by
    refine .cons (B := fun x => B x ∨ T x) h (r.append q (fun _ h => .inl h) (fun _ h => .inr h) fun x hx => h3 x (b x hx)) (fun x hx => h1 x (a x hx)) (fun x hx => hx.elim (fun hx => h1 x (b x hx)) (h2 x)) fun x hx => ?_
    rintro (z | z)
    · exact c x hx z
    · exact h3 x (a x hx) z
def tAO (K : PySem.W.Frag) (cl : Nat → Value) (W : WXX) (r : Sl → Mem → VL.R (List (Md × D))) : TA := fun σ H Q => ∃ ι F ρ M, SR K ι F ρ M σ H ∧ Res K cl W ι F σ H (r ρ M) fun d _ ι' F' H' => ∀ vs T, DRepA K ι' F' H' vs d T → New ι' F' H H' T → Q vs H'
/-- a new list -/
theorem own_lst {m : Md} {vs : List V} {ds : List D} {T : Addr → Prop} {p : Addr} {Q : VK} (s0 : Stp ι0 F0 H0 ι F H) (f : FSub F H) (mr : MemRep K ι F M H) (hp : H p = none) (r : DReps K ι F H m vs ds T) (hn : New ι F H0 H T)
    (q : Res K cl W ι F σ H (.ok (m.up, .lst ds) M) fun d _ ι' F' H' => ∀ v T, DRep K ι' F' H' d.1 v d.2 T → New ι' F' H0 H' T → Q v H') : Q (.ref p) (upd H p (.lst vs)) := by
  have hF : F p = none := by
    cases e : F p with
    | none => rfl
    | some u => exact absurd hp (f.isSome e)
  have hi : p ∉ ι := fun h => (mr.there h).1 hp
  have nT : ∀ a, T a → a ≠ p := fun a h e => (hn.at_ a h).2.2.2.ne (by rw [e]; exact hp)
  obtain ⟨f2, m2⟩ := out_upd (o := .lst vs) f mr hF hi
  refine q ι F _ (Stp.refl.upd hp) f2 m2 (.ref p) (fun a => a = p ∨ T a) (.lst (T := T) m.up_ne upd_same (.inl rfl) (fun h => nT p h rfl) (fun b h => .inr h) ?_) ⟨fun a ha => ?_⟩
  · rw [Md.dn_up]
    exact r.mono (fun _ _ h => h) (fun _ _ h => h) fun a h => ⟨h, fun u e => by rw [upd_ne (nT a h)]; exact e⟩
  · rcases ha with rfl | ha
    · refine ⟨hF, hi, ?_, .us⟩
      by_cases hh : H0 a = none
      · exact hh
      · exact absurd hp (s0.live a hh)
    · obtain ⟨h1, h2, h3, h4⟩ := hn.at_ a ha
      exact ⟨h1, h2, h3, h4.upd (nT a ha)⟩
/-- a new tuple -/
theorem own_tup {m : Md} {vs : List V} {ds : List D} {T : Addr → Prop} {p : Addr} {Q : VK} (s0 : Stp ι0 F0 H0 ι F H) (f : FSub F H) (mr : MemRep K ι F M H) (hp : H p = none) (r : DReps K ι F H m vs ds T) (hn : New ι F H0 H T)
    (q : Res K cl W ι F σ H (.ok (m.up, .tup ds) M) fun d _ ι' F' H' => ∀ v T, DRep K ι' F' H' d.1 v d.2 T → New ι' F' H0 H' T → Q v H') : Q (.ref p) (upd H p (.tup vs)) := by
  obtain ⟨s2, f2, m2⟩ := new_ok (o := .tup vs) f mr hp
  refine q ι _ _ s2 f2 m2 (.ref p) T (.tup m.up_ne upd_same ?_) (s2.new_ hn)
  rw [Md.dn_up]
  exact r.mono s2.ix s2.subF fun a h => ⟨h, fun u e => s2.keep a u e (hn.at_ a h).2.1⟩
theorem Res.later2 {α : Type} {r : VL.R α} {ι1 : List Addr} {F1 H1 : Hp} {Pd : α → Mem → List Addr → Hp → Hp → Prop} (h : Res K cl W ι F σ H r Pd) (s : Stp ι F H ι1 F1 H1) : Res K cl W ι1 F1 σ H1 r Pd := by
  cases r with
  | ok d M' => exact fun ι' F' H' s' f m => h ι' F' H' (s.trans s') f m
  | ex c M' => exact fun ι' F' H' s' f m => h ι' F' H' (s.trans s') f m
  | st => exact h
theorem New.no : New ι F H0 H fun _ => False := ⟨fun _ h => h.elim⟩
theorem fr_new {vs : List V} {ds : List D} {p : Addr} {Q : VK} (s0 : Stp ι0 F0 H0 ι F H) (f : FSub F H) (mr : MemRep K ι F M H) (hp : H p = none) (r : Reps K ι F vs ds)
    (q : Res K cl W ι F σ H (R.of (frA (.lst ds)) M) fun d _ ι' F' H' => ∀ v T, DRep K ι' F' H' d.1 v d.2 T → New ι' F' H0 H' T → Q v H') : Q (.ref p) (upd H p (.lst vs)) := by
  unfold frA at q
  dsimp only at q
  split at q
  · rename_i h
    exact own_lst (m := .all) s0 f mr hp (DReps.of r (.inr fun x hx => by
      have := List.all_eq_true.mp h x hx
      simpa using this)) New.no q
  · exact own_lst (m := .z) s0 f mr hp (DReps.of r (.inl rfl)) New.no q
theorem tO_e {re : Sl → Mem → VL.R D} {σ : L2.St} {H : Hp} {Q : VK} (z : tO K cl W (fun ρ M => (re ρ M).bind fun d M1 => .ok (Md.z, d) M1) σ H Q) : tE K cl W re σ H Q := by
  obtain ⟨ι, F, ρ, M, r, z⟩ := z
  refine ⟨ι, F, ρ, M, r, ?_⟩
  cases e : re ρ M with
  | st => dsimp only at z; rw [e] at z; exact z
  | ex c M1 => dsimp only at z; rw [e] at z; exact z
  | ok d M1 =>
    dsimp only at z
    rw [e] at z
    exact fun ι1 F1 H1 s1 f1 m1 v hv => z ι1 F1 H1 s1 f1 m1 v (fun _ => False) (.fz hv (.inl rfl)) New.no
theorem DRepk.of_ {S : Addr → Prop} : ∀ {l : List (D × V)} {kds : List (D × D)}, RepK K ι F l kds → DRepk K ι F H .z l kds S
  | _, _, .nil => .nil
  | _, _, .cons h r => .cons (A := fun _ => False) (B := S) (.fz h (.inl rfl)) (DRepk.of_ r) (fun _ h => h.elim) (fun _ h => h) (fun _ h => h.elim)
/-- what is in a list is settled -/
theorem tO_dn {ra : Sl → Mem → VL.R (Md × D)} {σ : L2.St} {H : Hp} {Q : VK} (z : tO K cl W (fun ρ M => (ra ρ M).bind fun r M1 => R.of (dnA r) M1) σ H Q) : tO K cl W ra σ H Q := by
  obtain ⟨ι, F, ρ, M, r, z⟩ := z
  refine ⟨ι, F, ρ, M, r, ?_⟩
  cases e : ra ρ M with
  | st => dsimp only at z; rw [e] at z; exact z
  | ex c M1 => dsimp only at z; rw [e] at z; exact z
  | ok d M1 =>
    dsimp only at z
    rw [e, R.bind_ok] at z
    obtain ⟨m, x⟩ := d
    intro ι1 F1 H1 s1 f1 m1 v T hv hT
    unfold dnA at z
    dsimp only at z hv
    cases x with
    | lst ds =>
      dsimp only at z
      split at z
      · exact z.elim
      · rename_i hz
        cases hv with
        | fz q eq => exact absurd (eq.elim id fun w => by cases w) hz
        | lst n e s t ts q =>
          rename_i a vs T0
          have N0 : New ι1 F1 H H1 T0 := ⟨fun b hb => hT.at_ b (ts b hb)⟩
          obtain ⟨F2, s2, f2, m2, mono, hset, oth⟩ := s1.settle2 f1 m1 N0
          have reps := DReps.settle mono q fun b u hb hu _ => hset b u hb hu
          refine z ι1 F2 H1 s2 f2 m2 (.ref a) (fun b => b = a) (.lst (T := fun _ => False) (fun w => by cases w) e rfl id (fun _ h => h.elim) (DReps.of reps (.inl rfl))) ⟨fun b hb => ?_⟩
          subst hb
          obtain ⟨h1, h2, h3, h4⟩ := hT.at_ b s
          exact ⟨by rw [oth b t]; exact h1, h2, h3, h4⟩
    | dic td kvs =>
      dsimp only at z
      split at z
      · exact z.elim
      · rename_i hz
        cases hv with
        | fz q eq => exact absurd (eq.elim id fun w => by cases w) hz
        | dic n e s t ts q =>
          rename_i a l T0
          have N0 : New ι1 F1 H H1 T0 := ⟨fun b hb => hT.at_ b (ts b hb)⟩
          obtain ⟨F2, s2, f2, m2, mono, hset, oth⟩ := s1.settle2 f1 m1 N0
          have reps := DRepk.settle mono q fun b u hb hu _ => hset b u hb hu
          refine z ι1 F2 H1 s2 f2 m2 (.ref a) (fun b => b = a) (.dic (T := fun _ => False) (fun w => by cases w) e rfl id (fun _ h => h.elim) (DRepk.of_ reps)) ⟨fun b hb => ?_⟩
          subst hb
          obtain ⟨h1, h2, h3, h4⟩ := hT.at_ b s
          exact ⟨by rw [oth b t]; exact h1, h2, h3, h4⟩
    | _ => exact z.elim
theorem New.or {T U : Addr → Prop} {H1 : Hp} (a : New ι F H0 H T) (b : New ι F H1 H U) (h : ∀ a, H1 a = none → H0 a = none) : New ι F H0 H fun a => T a ∨ U a :=
  ⟨fun x hx => hx.elim (a.at_ x) fun hx => let ⟨h1, h2, h3, h4⟩ := b.at_ x hx; ⟨h1, h2, h x h3, h4⟩⟩
theorem DReps.get {m : Md} : ∀ {vs : List V} {ds : List D} {S : Addr → Prop} {n : Nat} {d : D}, DReps K ι F H m vs ds S → ds[n]? = some d → ∃ v A, vs[n]? = some v ∧ DRep K ι F H m v d A ∧ ∀ a, A a → S a
  | _, _, _, n, _, .nil, h => by simp at h
  | _, _, _, 0, _, .cons r _ a _ _, h => by
    simp only [List.getElem?_cons_zero, Option.some.injEq] at h
    subst h; exact ⟨_, _, rfl, r, a⟩
  | _, _, _, n + 1, _, .cons _ r _ b _, h => by
    simp only [List.getElem?_cons_succ] at h
    obtain ⟨v, A, e, q, k⟩ := r.get h
    exact ⟨v, A, by simpa using e, q, fun a ha => b a (k a ha)⟩
theorem DReps.atI {m : Md} {vs : List V} {ds : List D} {S : Addr → Prop} {i : Int} {d : D} (r : DReps K ι F H m vs ds S) (h : L2.atI ds i = some d) : ∃ v A, L2.atI vs i = some v ∧ DRep K ι F H m v d A ∧ ∀ a, A a → S a := by
  unfold L2.atI at h ⊢
  simp only [Option.bind_eq_some_iff] at h ⊢
  obtain ⟨n, e1, e2⟩ := h
  obtain ⟨v, A, e3, q, k⟩ := r.get e2
  exact ⟨v, A, ⟨n, by rw [r.length]; exact e1, e3⟩, q, k⟩
end
section
variable {P : Prog} {nm : Nms} {cl : Nat → Value} {n : Nat} {X : Cx} {sc : Scope} {W : WXX}
theorem PE.congO {e : Expr} {ra rb : Sl → Mem → VL.R (Md × D)} (h : PE X e (tO X.K cl W ra)) (q : ∀ ρ M, rb ρ M = ra ρ M) : PE X e (tO X.K cl W rb) := by
  have : rb = ra := by funext ρ M; exact q ρ M
  rw [this]; exact h
theorem s_pao_nil : PA X [] (tAO X.K cl W fun ρ M => .ok [] M) := by
  refine PA.weak pa_nil fun σ H Q h => ?_
  obtain ⟨ι, F, ρ, M, r, h⟩ := h
  exact Res.of_ok h r.sub r.mem [] (fun _ => False) .nil New.no
theorem s_pao_cons {e : Expr} {es : List Expr} {re : Sl → Mem → VL.R (Md × D)} {rs : Sl → Mem → VL.R (List (Md × D))} (hn : nst e = true) (he : PE X e (tO X.K cl W re)) (hs : PA X es (tAO X.K cl W rs)) :
    PA X (e :: es) (tAO X.K cl W fun ρ M => (re ρ M).bind fun d M1 => (rs ρ M1).bind fun ds M2 => .ok (d :: ds) M2) := by
  refine PA.weak (pa_cons he hs (star_ok hn)) fun σ H Q h => ?_
  obtain ⟨ι, F, ρ, M, r, q⟩ := h
  refine ⟨ι, F, ρ, M, r, q.bind.imp fun d M1 ι1 F1 H1 s1 f1 m1 q1 v T hv hT => ?_⟩
  refine ⟨ι1, F1, ρ, M1, r.step s1 f1 m1, q1.bind.imp fun ds M2 ι2 F2 H2 s2 f2 m2 q2 vs U hvs hU => ?_⟩
  have hT2 := s2.new_ hT
  refine Res.of_ok q2 f2 m2 (v :: vs) (fun a => T a ∨ U a) (.cons (s2.drep hv fun a ha => (hT.at_ a ha).2.1) hvs (fun _ h => .inl h) (fun _ h => .inr h) fun a h1 h2 => (hT.at_ a h1).2.2.2.ne (hU.at_ a h2).2.2.1) (hT2.or hU fun a ha => ?_)
  by_cases hh : H a = none
  · exact hh
  · exact absurd ha (s1.live a hh)
theorem evAs_len {c : Cfg} {ρ : Sl} : ∀ {xs : List Ax} {M M' : Mem} {ds : List (Md × D)}, evAs c xs ρ M = .ok ds M' → ds.length = xs.length
  | [], M, M', ds, h => by simp only [evAs] at h; cases h; rfl
  | x :: xs, M, M', ds, h => by
    simp only [evAs] at h
    cases e1 : evA c x ρ M with
    | ok d M1 =>
      rw [e1, R.bind_ok] at h
      cases e2 : evAs c xs ρ M1 with
      | ok r M2 => rw [e2, R.bind_ok] at h; cases h; simp [evAs_len e2]
      | ex _ _ => rw [e2] at h; cases h
      | st => rw [e2] at h; cases h
    | ex _ _ => rw [e1] at h; cases h
    | st => rw [e1] at h; cases h
theorem res_lstA {ι0 ι : List Addr} {F0 F H0 H : Hp} {σ : L2.St} {M : Mem} {rs : List (Md × D)} {vs : List V} {T : Addr → Prop} {p : Addr} {Q : VK} (s0 : Stp ι0 F0 H0 ι F H) (f : FSub F H) (mr : MemRep X.K ι F M H) (hp : H p = none) (r : DRepA X.K ι F H vs rs T) (hn : New ι F H0 H T)
    (q : Res X.K cl W ι F σ H (lstA rs M) fun d _ ι' F' H' => ∀ v T, DRep X.K ι' F' H' d.1 v d.2 T → New ι' F' H0 H' T → Q v H') : Q (.ref p) (upd H p (.lst vs)) := by
  unfold lstA at q
  split at q
  · rename_i m hm
    exact own_lst s0 f mr hp (r.join (joinM_ok hm)) hn q
  · exact q.elim
theorem s_lstA {xs : List Ax} {es : List Expr} {pos : Pos} {c : Cfg} (h : PA X es (tAO X.K cl W (evAs c xs))) (hl : xs.length ≤ 1000) : PE X (.List es pos) (tO X.K cl W (evA c (.lst xs))) := by
  refine PE.weak (pe_lst h) fun σ H Q q => ?_
  obtain ⟨ι, F, ρ, M, r, q⟩ := q
  simp only [evA] at q
  refine ⟨ι, F, ρ, M, r, q.bind.imp' fun ds M1 el ι1 F1 H1 s1 f1 m1 q1 vs T hvs hT => ⟨?_, fun p hp => res_lstA s1 f1 m1 hp hvs hT q1⟩⟩
  rw [hvs.length, evAs_len el]; exact small1000' hl
theorem res_tupA {ι0 ι : List Addr} {F0 F H0 H : Hp} {σ : L2.St} {M : Mem} {rs : List (Md × D)} {vs : List V} {T : Addr → Prop} {p : Addr} {Q : VK} (s0 : Stp ι0 F0 H0 ι F H) (f : FSub F H) (mr : MemRep X.K ι F M H) (hp : H p = none) (r : DRepA X.K ι F H vs rs T) (hn : New ι F H0 H T)
    (q : Res X.K cl W ι F σ H (tupA rs M) fun d _ ι' F' H' => ∀ v T, DRep X.K ι' F' H' d.1 v d.2 T → New ι' F' H0 H' T → Q v H') : Q (.ref p) (upd H p (.tup vs)) := by
  unfold tupA at q
  split at q
  · rename_i m hm
    exact own_tup s0 f mr hp (r.join (joinM_ok hm)) hn q
  · exact q.elim
theorem s_tupA {xs : List Ax} {es : List Expr} {x1 : Nat} {pos : Pos} {c : Cfg} (h : PA X es (tAO X.K cl W (evAs c xs))) (hl : xs.length ≤ 1000) : PE X (.Tuple es x1 pos) (tO X.K cl W (evA c (.tup xs))) := by
  refine PE.weak (pe_tup h) fun σ H Q q => ?_
  obtain ⟨ι, F, ρ, M, r, q⟩ := q
  simp only [evA] at q
  refine ⟨ι, F, ρ, M, r, q.bind.imp' fun ds M1 el ι1 F1 H1 s1 f1 m1 q1 vs T hvs hT => ⟨?_, fun p hp => res_tupA s1 f1 m1 hp hvs hT q1⟩⟩
  rw [hvs.length, evAs_len el]; exact small1000' hl
theorem s_dict0A {t : Bool} {pos : Pos} {c : Cfg} : PE X (.Dict [] [] pos) (tO X.K cl W (evA c (.dict0 t))) := by
  have key : ∀ {σ : L2.St} {H : Hp} {Q : VK} (o : HO), tO X.K cl W (evA c (.dict0 t)) σ H Q → (∀ p, DicAt (upd H p o) p t []) → ∀ p, H p = none → Q (.ref p) (upd H p o) := fun {σ H Q} o z hd p hp => by
    obtain ⟨ι, F, ρ, M, r, z⟩ := z
    simp only [evA] at z
    have hF : F p = none := by
      cases e : F p with
      | none => rfl
      | some u => exact absurd hp (r.sub.isSome e)
    have hi : p ∉ ι := fun h => (r.mem.there h).1 hp
    obtain ⟨f2, m2⟩ := out_upd (o := o) r.sub r.mem hF hi
    exact z ι F _ (Stp.refl.upd hp) f2 m2 (.ref p) (fun a => a = p) (.dic (T := fun _ => False) (fun z => by cases z) (hd p) rfl (fun h => h) (fun _ h => h.elim) .nil) ⟨fun a ha => by
      subst ha; exact ⟨hF, hi, hp, (hd a).ld⟩⟩
  cases t with
  | false => exact PE.weak pe_dnewK fun σ H Q z => key _ z fun p => ⟨[], upd_same, rfl⟩
  | true => exact PE.weak pe_dnewT fun σ H Q z => key _ z fun p => ⟨[], upd_same, rfl⟩
theorem atI_mem {α : Type} {ds : List α} {i : Int} {d : α} (h : L2.atI ds i = some d) : d ∈ ds := by
  unfold L2.atI at h
  simp only [Option.bind_eq_some_iff] at h
  obtain ⟨n, _, e⟩ := h
  exact List.mem_of_getElem? e
theorem s_ixA {a b : Expr} {pos : Pos} {ra : Sl → Mem → VL.R (Md × D)} {rb : Sl → Mem → VL.R D} (hp : pixB b = true) (ha : PE X a (tO X.K cl W ra)) (hb : PE X b (tE X.K cl W rb)) :
    PE X (.Subscript a b pos) (tO X.K cl W fun ρ M => (ra ρ M).bind fun x M1 => (rb ρ M1).bind fun y M2 => R.of (ixA x y) M2) := by
  refine PE.weak (pe_ix ix_seq ha hb (pix_ok hp)) fun σ H Q q => ?_
  obtain ⟨ι, F, ρ, M, r, q⟩ := q
  refine ⟨ι, F, ρ, M, r, q.bind.imp fun x M1 ι1 F1 H1 s1 f1 m1 q1 v T hv hT => ?_⟩
  refine ⟨ι1, F1, ρ, M1, r.step s1 f1 m1, q1.bind.imp fun y M2 ι2 F2 H2 s2 f2 m2 q2 w hw => ?_⟩
  have hv2 := s2.drep hv fun a ha => (hT.at_ a ha).2.1
  have hT2 := s2.new_ hT
  unfold ixA at q2
  split at q2
  · rename_i ds i e1
    cases e2 : L2.atI ds i with
    | none => rw [e2] at q2; exact q2.elim
    | some d =>
      rw [e2] at q2
      rw [e1] at hv2
      rw [hw.getInt]
      cases hv2 with
      | fz hr e =>
        cases hr with
        | lst a1 r1 =>
          obtain ⟨z, e3, r2⟩ := r1.atI e2
          refine .inl ⟨_, _, _, z, rfl, rfl, f2.sqL a1, e3, Res.of_ok q2 f2 m2 z (fun _ => False) (.fz r2 ?_) New.no⟩
          rcases e with e | e
          · rw [e]; exact .inl rfl
          · cases e
      | lst k1 k2 k3 k4 k5 k6 =>
        obtain ⟨z, A, e3, r2, kA⟩ := k6.atI e2
        exact .inl ⟨_, _, _, z, rfl, rfl, .inl (.inl k2), e3, Res.of_ok q2 f2 m2 z A r2 ⟨fun a ha => hT2.at_ a (k5 a (kA a ha))⟩⟩
  · rename_i ds i e1
    cases e2 : L2.atI ds i with
    | none => rw [e2] at q2; exact q2.elim
    | some d =>
      rw [e2] at q2
      rw [e1] at hv2
      rw [hw.getInt]
      cases hv2 with
      | fz hr e =>
        cases hr with
        | tup a1 r1 =>
          obtain ⟨z, e3, r2⟩ := r1.atI e2
          refine .inr (.inl ⟨_, _, _, z, rfl, rfl, f2.sqT (.inl (.inl a1)), e3, Res.of_ok q2 f2 m2 z (fun _ => False) (.fz r2 ?_) New.no⟩)
          rcases e with e | e
          · rw [e]; exact .inl rfl
          · exact .inr (isLDs_all (by simpa only [D.isLD] using e) d (atI_mem e2))
      | tup k1 k2 k6 =>
        obtain ⟨z, A, e3, r2, kA⟩ := k6.atI e2
        exact .inr (.inl ⟨_, _, _, z, rfl, rfl, f2.sqT (.inl (.inl k2)), e3, Res.of_ok q2 f2 m2 z A r2 ⟨fun a ha => hT2.at_ a (kA a ha)⟩⟩)
  · exact q2.elim
/-- a new list of settled parts -/
theorem s_fr (w : XW P nm cl n X sc W) {x : Ex} {e : Expr} (h : mE X.N nm x sc e = true) (hf : frB x = true) : PE X e (tO X.K cl W (evA (cfgN P n) (.fr x))) := by
  cases x with
  | blt b xs =>
    cases b <;> try (cases hf; done)
    unfold mE at h
    split at h
    · split at h
      · rename_i es _ _ _ x' _
        simp only [Bool.and_eq_true, decide_eq_true_eq, List.isEmpty_iff, Bool.not_eq_true'] at h
        obtain ⟨⟨⟨⟨h3, h4⟩, h5⟩, h6⟩, h7⟩ := h
        subst h5
        obtain ⟨g, o⟩ := w.gl h4
        obtain ⟨a1, b1, c1⟩ := okN_d o
        have hmg : X.mg x' = none := w.fx.blt x' (by rw [h3]; exact blt_mem .list)
        have hv : bootBuiltins x' = some (.type "list") := by rw [h3]; exact boot_blt .list
        cases es with
        | nil => cases h6
        | cons e1 es1 =>
          have hn : nst e1 = true := by
            cases xs with
            | nil => simp [mEs] at h7
            | cons y ys => simp only [mEs, Bool.and_eq_true] at h7; exact h7.1.1
          have hs : ∀ pos, (backTo pos (starEach es1 X.env)).any (·.1) = false := by
            intro pos
            cases xs with
            | nil => simp [mEs] at h7
            | cons y ys => simp only [mEs, Bool.and_eq_true] at h7; exact (star_any (P := P) h7.2).1
          refine PE.weak (pe_callTy (call_list_any w.calm) g hmg hv (sRs xs w h7) c1 a1 (star_ok hn) (hs _)) fun σ H Q z => ?_
          obtain ⟨ι, F, ρ, M, r, z⟩ := z
          simp only [evA, evE, R.bind_assoc] at z
          refine ⟨ι, F, ρ, M, r, Res.imp z.bind fun ds M1 ι1 F1 H1 s1 f1 m1 q vs hvs => ?_⟩
          cases eb : bltD .list ds with
          | none => rw [eb] at q; exact q.elim
          | some d =>
            rw [eb, R.of_some, R.bind_ok] at q
            unfold bltD at eb
            split at eb <;> try (rename_i hk; cases hk; done)
            · cases eb
              obtain ⟨v, rfl, r1⟩ := hvs.one
              obtain ⟨p, us, rfl, a2, r2⟩ := r1.lst f1
              exact .inl ⟨p, us, rfl, .inl a2, fun p hp => fr_new s1 f1 m1 hp r2 q⟩
            · cases eb
              obtain ⟨v, rfl, r1⟩ := hvs.one
              obtain ⟨p, us, rfl, a2, _, r2⟩ := r1.tup f1
              exact .inl ⟨p, us, rfl, .inr a2, fun p hp => fr_new s1 f1 m1 hp r2 q⟩
            · cases eb
              obtain ⟨v, rfl, r1⟩ := hvs.one
              rcases r1.dicA f1 with ⟨p, kvs, rfl, a2, r2⟩ | ⟨p, kvs, rfl, a2, r2⟩
              rotate_left
              · refine .inr (.inr ⟨p, kvs, rfl, a2, fun p bs hp hk => ?_⟩)
                obtain ⟨F2, s2, f2, m2, hk2⟩ := tups_in f1 m1 hk
                exact fr_new (s1.trans s2) f2 m2 hp (keys_reps r2 hk2) (Res.later2 q s2)
              exact .inr (.inl ⟨p, kvs, rfl, a2, fun p hp => fr_new s1 f1 m1 hp (repK_keys r2) q⟩)
            · cases eb
      · cases h
    · cases h
  | lrng xs =>
    unfold mE at h
    split at h
    · split at h
      · simp only [Bool.and_eq_true, decide_eq_true_eq, List.isEmpty_iff] at h
        obtain ⟨⟨⟨⟨⟨⟨⟨h1, h2⟩, h3⟩, h4⟩, h5⟩, h6⟩, h7⟩, h8⟩ := h
        subst h3 h6
        refine PE.weak (s_lrng (c := cfgN P n) w h1 h2 h4 h5 h7 h8 fun a ha e hm => (sE a w hm).1) fun σ H Q z => ?_
        obtain ⟨ι, F, ρ, M, r, z⟩ := z
        simp only [evA, evE, R.bind_assoc, R.bind_ok] at z
        refine ⟨ι, F, ρ, M, r, ?_⟩
        rw [← R.bind_assoc] at z
        exact (Res.bind z).imp fun its M1 ι1 F1 H1 s1 f1 m1 q p vs hp rv => fr_new s1 f1 m1 hp rv q
      · cases h
    · cases h
  | rsl a =>
    unfold mE at h
    split at h
    · split at h
      · refine PE.weak (pe_revL (sE a w h).1) fun σ H Q z => ?_
        obtain ⟨ι, F, ρ, M, r, z⟩ := z
        simp only [evA, evE, R.bind_assoc] at z
        refine ⟨ι, F, ρ, M, r, z.bind.imp fun x M1 ι1 F1 H1 s1 f1 m1 q v hv => ?_⟩
        cases hv with
        | lst a1 rr => exact ⟨_, _, rfl, f1.sqL a1, fun p hp => fr_new s1 f1 m1 hp rr.reverse q⟩
        | _ => exact q.elim
      · cases h
    · cases h
  | sl a lo hi =>
    unfold mE at h
    split at h
    · rename_i ea eb pos
      split at h
      · rename_i l u st p2
        simp only [Bool.and_eq_true, Option.isNone_iff_eq_none] at h
        obtain ⟨⟨⟨h1, ha⟩, hl⟩, hu⟩ := h
        subst h1
        refine PE.weak (pe_slice sl_list (sE a w ha).1 (sO (fun e h => (sE lo w h).1) hl) (sO (fun e h => (sE hi w h).1) hu)) fun σ H Q z => ?_
        obtain ⟨ι, F, ρ, M, r, z⟩ := z
        simp only [evA, evE, R.bind_assoc] at z
        refine ⟨ι, F, ρ, M, r, z.bind.imp fun x M1 ι1 F1 H1 s1 f1 m1 q1 v hv => ?_⟩
        have r1 := r.step s1 f1 m1
        refine ⟨ι1, F1, ρ, M1, r1, q1.bind.imp fun y M2 ι2 F2 H2 s2 f2 m2 q2 => ?_⟩
        have r2 := r1.step s2 f2 m2
        cases ey : partX lo y with
        | none => rw [ey] at q2; exact q2.elim
        | some l =>
          rw [ey, R.of_some, R.bind_ok] at q2
          refine ⟨l, rfl, ι2, F2, ρ, M2, r2, q2.bind.imp fun z M3 ι3 F3 H3 s3 f3 m3 q3 => ?_⟩
          cases ez : partX hi z with
          | none => rw [ez] at q3; exact q3.elim
          | some u =>
            rw [ez, R.of_some, R.bind_ok] at q3
            refine ⟨u, rfl, ?_⟩
            cases x with
            | lst ds =>
              simp only [slD, R.of_some, R.bind_ok] at q3
              cases hv with
              | lst a1 rr =>
                exact ⟨_, _, rfl, f3.sqL (SqL.mono s3.subF (SqL.mono s2.subF a1)), fun p hp => fr_new ((s1.trans s2).trans s3) f3 m3 hp ((s3.reps (s2.reps rr)).cut l u) q3⟩
            | tup ds =>
              exfalso
              simp only [slD] at q3
              split at q3
              · exact q3
              · exact q3
            | _ => exact (show False from q3).elim
      · cases h
    · cases h
  | bin o a b =>
    cases o <;> try (cases hf; done)
    unfold mE at h
    split at h
    · rename_i ea op eb pos
      simp only [Bool.and_eq_true] at h
      obtain ⟨⟨ho, ha⟩, hb⟩ := h
      rw [mOp_eq ho]
      refine PE.weak (pe_op op_addL (sE a w ha).1 (sE b w hb).1) fun σ H Q z => ?_
      obtain ⟨ι, F, ρ, M, r, z⟩ := z
      simp only [evA, evE, R.bind_assoc] at z
      refine ⟨ι, F, ρ, M, r, z.bind.imp fun x M1 ι1 F1 H1 s1 f1 m1 q1 v hv => ?_⟩
      refine ⟨ι1, F1, ρ, M1, r.step s1 f1 m1, q1.bind.imp fun y M2 ι2 F2 H2 s2 f2 m2 q2 u hu => ?_⟩
      cases e : binD .add x y with
      | none => rw [e] at q2; exact q2.elim
      | some d =>
        rw [e, R.of_some, R.bind_ok] at q2
        unfold binD at e
        split at e <;> try (cases e; done)
        all_goals first | (cases e; exact (show False from q2).elim) | skip
        all_goals try (split at e <;> first | (cases e; done) | (cases e; exact (show False from q2).elim) | skip)
        all_goals first
          | (cases e
             rename_i hl
             cases hv with
             | lst a1 r1 => cases hu with
               | lst a2 r2 =>
                 exact ⟨_, _, _, _, rfl, rfl, f2.sqL (SqL.mono s2.subF a1), f2.sqL a2, by rw [r1.length, r2.length]; exact hl, fun p hp => fr_new (s1.trans s2) f2 m2 hp ((s2.reps r1).append r2) q2⟩)
          | skip
    · cases h
  | _ => cases hf
end
end VL

/-! V7B: comprehensions of things of one's own; the theorem of things of one's own -/
namespace VL
open PySem PySem.Spec PyProof.Rows L2
section
variable {P : Prog} {nm : Nms} {cl : Nat → Value} {n : Nat} {X : Cx} {sc : Scope} {W : WXX}
/-- where a walk comes from -/
theorem walk_of (w : XW P nm cl n X sc W) {k : ItK} {args : List Ex} {tg iter : Expr}
    (hit : (match k with
            | .seq => (match args with | [a] => mE X.N nm a sc iter && (match iter with | .Set _ _ _ => false | _ => true) | _ => false)
            | _ => (match iter with
              | .Call fn es kws _ => (match fn with
                | .Name x _ => glB sc x && kws.isEmpty && mEs X.N nm args sc es && itB k x es.length tg
                | _ => false)
              | _ => false)) = true) :
    (∀ a b c, iter ≠ .Set a b c) ∧ ∃ ri, PI X tg iter (tI X.K cl W ri) ∧ ∀ ρ M, ri ρ M = (evEs (cfgN P n) args ρ M).bind fun ds M1 => R.of (itD k ds) M1 := by
  cases k with
  | seq =>
    cases args with
    | nil => cases hit
    | cons a as =>
      cases as with
      | cons _ _ => cases hit
      | nil =>
        simp only [Bool.and_eq_true] at hit
        refine ⟨fun a b c e => (by rw [e] at hit; cases hit.2), _, s_iseq (sE a w hit.1).1, fun ρ M => ?_⟩
        simp only [evEs, R.bind_assoc, R.bind_ok]
  | _ =>
    dsimp only at hit
    split at hit <;> try (cases hit; done)
    split at hit <;> try (cases hit; done)
    rename_i es kws _ _ x _
    simp only [Bool.and_eq_true, List.isEmpty_iff] at hit
    obtain ⟨⟨⟨h1, h2⟩, h3⟩, h4⟩ := hit
    subst h2
    exact ⟨fun a b c e => (by cases e), walk_call w h1 h4 h3 (sEs args w h3) fun a ha e hm => (sE a w hm).1⟩

theorem New.step {ι ι' : List Addr} {F F' H H' H0 : Hp} {T : Addr → Prop} (s : Stp ι F H ι' F' H') (n : New ι F H0 H T) : New ι' F' H0 H' T := s.new_ n
def compG (c : Cfg) (elt : Ax) (p : Pt) (conds : List Ex) (own : List Nat) (ρ : Sl) : D → Mem → VL.R (Option (Md × D)) := fun d M3 => match bindP p d (killS ρ own) with
  | some ρ' => (evAll c conds ρ' M3).bind fun b M4 => if b = true then (evA c elt ρ' M4).bind fun y M5 => .ok (some y) M5 else .ok none M4
  | none => .st
structure CompAtA (K : PySem.W.Frag) (f : D → Mem → VL.R (Option (Md × D))) (items : List D) (rs : List (Md × D)) (M3 : Mem) (ι2 : List Addr) (F2 H2 : Hp) (D : Addr) (i : Nat) (H : Hp) : Prop where
  ex : ∃ ι F Mi vs acc rest T, Stp ι2 F2 H2 ι F H ∧ FSub F H ∧ MemRep K ι F Mi H ∧ H D = some (.lst vs) ∧ DRepA K ι F H vs acc T ∧ New ι F H2 H T ∧ ¬ T D ∧ F D = none ∧ D ∉ ι ∧ acc.length ≤ i ∧ compL f (items.drop i) Mi = .ok rest M3 ∧ acc ++ rest = rs
theorem compA_run {K : PySem.W.Frag} {c : Cfg} {ρ : Sl} {σ : L2.St} {elt : Ax} {p : Pt} {conds : List Ex} {own : List Nat} {items : List D} {rs : List (Md × D)} {M3 : Mem} {ι2 : List Addr} {F2 H2 : Hp} {J : It} {D : Addr} {Q : VK} {Mz : Mem} {te : TE} {tt : TT}
    (r : SR K ι2 F2 ρ Mz σ H2) (wk : Wk K J ι2 F2 H2 items) (hl : items.length ≤ sizeLine) (hD : H2 D = none) (he : compL (compG c elt p conds own ρ) items Mz = .ok rs M3) (hp : ∀ i ∈ ptV p, i ∈ own)
    (hte : ∀ σ H Q, tO K cl (fun _ _ _ _ => False) (evA c elt) σ H Q → te σ H Q) (htt : ∀ σ H Q, tT K cl (fun _ _ _ _ => False) (evAll c conds) σ H Q → tt σ H Q)
    (q : ∀ ι' F' H' vs T, Stp ι2 F2 H2 ι' F' H' → FSub F' H' → MemRep K ι' F' M3 H' → H' D = some (.lst vs) → DRepA K ι' F' H' vs rs T → New ι' F' H2 H' T → ¬ T D → F' D = none → D ∉ ι' → Q (.ref D) H') :
    ∃ W : Nat → Nat → Hp → Prop, (∃ m, W 0 m (upd H2 D (.lst []))) ∧ ∀ i m H, W i m H →
      (J.stop i H ∧ Q (.ref D) H) ∨ (J.go i H ∧ ∃ Nx : Hp → Prop, (∀ H', Nx H' → ∃ m', m' < m ∧ W (i + 1) m' H') ∧ ∀ x H', J.yld i H x H' → tG K p x (wipe σ own) H' fun σ2 H2 => wipe σ2 own = wipe σ own ∧ tt σ2 H2 fun b H3 =>
        if b = true then te σ2 H3 fun y H4 => ∃ acc, H4 D = some (.lst acc) ∧ acc.length < sizeLine ∧ Nx (upd H4 D (.lst (acc ++ [y]))) else Nx H3) := by
  have hF2 : F2 D = none := by
    cases e : F2 D with
    | none => rfl
    | some u => exact absurd hD (r.sub.isSome e)
  have hi2 : D ∉ ι2 := fun h => (r.mem.there h).1 hD
  refine ⟨fun i m H => m = items.length - i ∧ i ≤ items.length ∧ CompAtA K (compG c elt p conds own ρ) items rs M3 ι2 F2 H2 D i H, ⟨items.length, rfl, Nat.zero_le _, ?_⟩, ?_⟩
  · obtain ⟨a1, a2⟩ := out_upd (o := .lst []) r.sub r.mem hF2 hi2
    exact ⟨ι2, F2, Mz, [], [], rs, fun _ => False, Stp.refl.upd hD, a1, a2, upd_same, .nil, New.no, fun h => h, hF2, hi2, Nat.le_refl _, by simpa using he, rfl⟩
  · rintro i m H ⟨rfl, hi, ⟨ι, F, Mi, vs, acc, rest, T, st, f, mr, hd, hv, hT, hTD, hF, hn, ha, hc, er⟩⟩
    by_cases hlt : i < items.length
    · refine .inr ⟨wk.go i F H st.subF f (st.kp r.mem) hlt, fun H' => CompAtA K (compG c elt p conds own ρ) items rs M3 ι2 F2 H2 D (i + 1) H', fun H' h => ⟨items.length - (i + 1), by omega, rfl, by omega, h⟩, fun x H' y => ?_⟩
      obtain ⟨d, F', e1, s1, f1, m1, rx⟩ := wk.yld i ι F H Mi x H' st.ix st.subF f (st.kp r.mem) mr y hlt
      obtain ⟨d1, d2, d3⟩ := s1.own hd hF hn
      have edrop : items.drop i = d :: items.drop (i + 1) := by
        rw [List.drop_eq_getElem_cons hlt]
        rw [List.getElem?_eq_getElem hlt] at e1
        cases e1; rfl
      rw [edrop] at hc
      obtain ⟨o, M1, rr, c1, c2, c3⟩ := compL_cons_ok hc
      unfold compG at c1
      split at c1
      · rename_i ρ' eb
        obtain ⟨O, r1⟩ : SR K ι F' ρ Mi σ H' := (r.step st f mr).step s1 f1 m1
        refine ⟨ι, F', O, killS ρ own, Mi, d, ρ', r1.wipe own, rx, eb, fun σ' r2 out => ⟨out.wipe hp, htt _ _ _ ⟨ι, F', ρ', Mi, ⟨O, r2⟩, ?_⟩⟩⟩
        cases ec : evAll c conds ρ' Mi with
        | ok b M4 =>
          rw [ec, R.bind_ok] at c1
          intro ι4 F4 H4 s4 f4 m4
          obtain ⟨g1, g2, g3⟩ := s4.own d1 d2 d3
          have s14 := s1.trans s4
          have hT4 := s14.new_ hT
          have hv4 : DRepA K ι4 F4 H4 vs acc T := hv.mono s14.ix s14.subF fun a h => ⟨h, fun u e => s14.keep a u e (hT.at_ a h).2.1⟩
          cases b with
          | true =>
            rw [if_pos rfl] at c1 ⊢
            refine hte _ _ _ ⟨ι4, F4, ρ', M4, ⟨O, r2.step s4 f4 m4⟩, ?_⟩
            cases ee : evA c elt ρ' M4 with
            | ok y M5 =>
              rw [ee, R.bind_ok] at c1
              cases c1
              intro ι5 F5 H5 s5 f5 m5 v T5 hv5 hT5
              obtain ⟨k1, k2, k3⟩ := s5.own g1 g2 g3
              have hvs : DRepA K ι5 F5 H5 vs acc T := hv4.mono s5.ix s5.subF fun a h => ⟨h, fun u e => s5.keep a u e (hT4.at_ a h).2.1⟩
              refine ⟨vs, k1, by rw [hvs.length]; omega, ?_⟩
              obtain ⟨a1, a2⟩ := out_upd (o := .lst (vs ++ [v])) f5 m5 k2 k3
              have nT5 : ¬ T5 D := fun h => by
                have := (hT5.at_ D h).2.2.1
                rw [g1] at this; cases this
              have dis : ∀ a, T a → ¬ T5 a := fun a h1 h2 => (hT4.at_ a h1).2.2.2.ne (hT5.at_ a h2).2.2.1
              have hall : DRepA K ι5 F5 H5 (vs ++ [v]) (acc ++ [y]) fun a => T a ∨ T5 a := hvs.append (.cons (B := fun _ => False) hv5 .nil (fun _ h => h) (fun _ h => h.elim) fun _ _ h => h) (fun _ h => .inl h) (fun _ h => .inr h) dis
              have hnT : ∀ a, T a ∨ T5 a → a ≠ D := fun a h e => by
                subst e; exact h.elim hTD nT5
              have sAll := (st.trans s14).trans s5
              have hTn : New ι5 F5 H2 H5 fun a => T a ∨ T5 a := (s5.new_ hT4).or hT5 fun a h => by
                by_cases hh : H2 a = none
                · exact hh
                · exact absurd h ((st.trans s14).live a hh)
              exact ⟨ι5, F5, M1, vs ++ [v], acc ++ [y], rr, fun a => T a ∨ T5 a, sAll.upd hD, a1, a2, upd_same, hall.mono (fun _ _ h => h) (fun _ _ h => h) fun a h => ⟨h, fun u e => by rw [upd_ne (hnT a h)]; exact e⟩,
                ⟨fun a h => let ⟨h1, h2, h3, h4⟩ := hTn.at_ a h; ⟨h1, h2, h3, h4.upd (hnT a h)⟩⟩, fun h => h.elim hTD nT5, k2, k3, by simp; omega, c2, by rw [← er, c3]; simp⟩
            | ex _ _ => rw [ee] at c1; cases c1
            | st => rw [ee] at c1; cases c1
          | false =>
            rw [if_neg (by decide)] at c1 ⊢
            cases c1
            exact ⟨ι4, F4, M1, vs, acc, rr, T, st.trans s14, f4, m4, g1, hv4, hT4, hTD, g2, g3, by omega, c2, by rw [← er, c3]⟩
        | ex _ _ => rw [ec] at c1; cases c1
        | st => rw [ec] at c1; cases c1
      · cases c1
    · have e : i = items.length := by omega
      subst e
      refine .inl ⟨wk.stop F H st.subF f (st.kp r.mem), ?_⟩
      rw [List.drop_length] at hc
      simp only [compL] at hc
      cases hc
      rw [List.append_nil] at er
      subst er
      exact q ι F H vs T st f mr hd hv hT hTD hF hn
def CompTA (P : Prog) (n : Nat) (cl : Nat → Value) (W : WXX) (X : Cx) (elt : Ax) (p : Pt) (k : ItK) (args conds : List Ex) (own : List Nat) (ee tg iter : Expr) (ifs : List Expr) (scope : Scope) : Prop :=
  ∃ t : TE, (∀ pos, PE X (.ListComp ee [⟨tg, iter, ifs, 0⟩] scope pos) t) ∧
      (∀ {i : Nat} {y : Str} {py pos spos : Pos}, X.N[i]? = some y → X.env.scope.names.lookup y = some .local → swapsWith (.ListComp ee [⟨tg, iter, ifs, 0⟩] scope pos) (some (.Name y py)) spos.line X.env = pure true → PS X (.Assign [.Name y py] (.ListComp ee [⟨tg, iter, ifs, 0⟩] scope pos) spos) (tAsg t (gName i))) ∧
      ∀ σ H Q, tO X.K cl W (evA (cfgN P n) (.comp elt p k args conds own)) σ H Q → t σ H Q
theorem s_compPartsA (w : XW P nm cl n X sc W) {elt : Ax} {p : Pt} {conds : List Ex} {own : List Nat} {k : ItK} {args : List Ex} {ee tg iter : Expr} {ifs : List Expr} {scope : Scope} {ri : Sl → Mem → VL.R (List D)}
    (hb : blkC X.N sc scope (own.map fun i => (X.N.getD i "", i)) = true) (hp : mP X.N scope p tg = true) (hpo : (ptV p).all (fun i => own.contains i) = true) (hset : ∀ a b c, iter ≠ .Set a b c)
    (hi : PI X tg iter (tI X.K cl W ri)) (hri : ∀ ρ M, ri ρ M = (evEs (cfgN P n) args ρ M).bind fun ds M1 => R.of (itD k ds) M1) (hcl : conds.length ≤ 1) (hcl2 : conds.length = ifs.length)
    (he : ∀ (X' : Cx), X'.N = X.N → X'.K = X.K → XW P nm cl n X' scope (fun _ _ _ _ => False) → PE X' ee (tO X'.K cl (fun _ _ _ _ => False) (evA (cfgN P n) elt)))
    (hc : ∀ (X' : Cx), X'.N = X.N → X'.K = X.K → XW P nm cl n X' scope (fun _ _ _ _ => False) → ∀ x e, conds = [x] → ifs = [e] → PT X' e (tT X'.K cl (fun _ _ _ _ => False) (evT (cfgN P n) x))) :
    CompTA P n cl W X elt p k args conds own ee tg iter ifs scope := by
  have eown : (own.map fun i => (X.N.getD i "", i)).map (·.2) = own := by rw [List.map_map]; exact List.map_id' own
  have hw := fun s H C cs fp => w.blk (scope := scope) s H C cs fp
  have hpts : ∀ (s : Shared) (H : Hp) (C : Addr) (cs : List (Str × Addr)) (fp : List Addr), PTs (X.blk s H scope (compEnvC scope cs C X.env) fp) ifs (ttOf X.K cl (fun _ _ _ _ => False) (cfgN P n) conds) := fun s H C cs fp =>
    s_pts (X := X.blk s H scope (compEnvC scope cs C X.env) fp) (W := fun _ _ _ _ => False) hcl hcl2 (hc _ rfl rfl (hw s H C cs fp))
  refine ⟨tLc (tI X.K cl W ri) (tG X.K p) (ttOf X.K cl (fun _ _ _ _ => False) (cfgN P n) conds) (tO X.K cl (fun _ _ _ _ => False) (evA (cfgN P n) elt)) own, fun pos => ?_, fun {i y py pos spos} h1 h2 h3 => ?_, fun σ H Q z => ?_⟩
  · have base := pe_lc (X := X) (elt := ee) (tg := tg) (iter := iter) (ifs := ifs) (scope := scope) (pos := pos) (own := own.map fun i => (X.N.getD i "", i)) (g := tG X.K p) (tt := ttOf X.K cl (fun _ _ _ _ => False) (cfgN P n) conds) (te := tO X.K cl (fun _ _ _ _ => False) (evA (cfgN P n) elt)) w.calm w.nd hi (blk_ok w hb)
      (fun s H C cs fp => s_pat (hw s H C cs fp) hp) hpts (fun s H C cs fp => he _ rfl rfl (hw s H C cs fp)) (set_ok hset)
    rw [eown] at base
    exact base
  · have base := ps_setLc (X := X) (elt := ee) (tg := tg) (iter := iter) (ifs := ifs) (scope := scope) (pos := pos) (spos := spos) (own := own.map fun i => (X.N.getD i "", i)) (g := tG X.K p) (tt := ttOf X.K cl (fun _ _ _ _ => False) (cfgN P n) conds) (te := tO X.K cl (fun _ _ _ _ => False) (evA (cfgN P n) elt)) w.calm w.nd h1 h2 h3 hi (blk_ok w hb)
      (fun s H C cs fp => s_pat (hw s H C cs fp) hp) hpts (fun s H C cs fp => he _ rfl rfl (hw s H C cs fp)) (set_ok hset)
    rw [eown] at base
    exact base
  obtain ⟨ι, F, ρ, M, r, z⟩ := z
  have z : Res X.K cl W ι F σ H ((ri ρ M).bind fun items M2 => ((compL (compG (cfgN P n) elt p conds own ρ) items M2).nox).bind fun rs M3 => lstA rs M3) (fun d _ ι' F' H' => ∀ v T, DRep X.K ι' F' H' d.1 v d.2 T → New ι' F' H H' T → Q v H') := by
    rw [hri, R.bind_assoc]
    simp only [evA] at z
    exact z
  refine ⟨ι, F, ρ, M, r, z.bind.imp fun items M2 ι2 F2 H2 s2 f2 m2 q J wk hl D hD => ?_⟩
  cases e : compL (compG (cfgN P n) elt p conds own ρ) items M2 with
  | ok rs M3 =>
    rw [e] at q
    refine compA_run (r.step s2 f2 m2) wk hl hD e (fun i hi => by
      have := List.all_eq_true.mp hpo i hi
      simpa using this) (fun _ _ _ z => z) (tt_imp hcl) fun ι' F' H' vs T s f m hd hv hT hTD hF hn => ?_
    have q' : Res X.K cl W ι2 F2 σ H2 (lstA rs M3) _ := q
    unfold lstA at q'
    split at q'
    · rename_i md hmd
      refine q' ι' F' H' s f m (.ref D) (fun a => a = D ∨ T a) (.lst (T := T) md.up_ne hd (.inl rfl) hTD (fun b h => .inr h) ?_) ⟨fun a ha => ?_⟩
      · rw [Md.dn_up]; exact hv.join (joinM_ok hmd)
      · have back : ∀ a, H2 a = none → H a = none := fun a h => by
          by_cases hh : H a = none
          · exact hh
          · exact absurd h (s2.live a hh)
        rcases ha with rfl | ha
        · exact ⟨hF, hn, back _ hD, ⟨⟨_, hd, rfl⟩⟩⟩
        · obtain ⟨h1, h2, h3, h4⟩ := hT.at_ a ha
          exact ⟨h1, h2, back a h3, h4⟩
    · exact q'.elim
  | ex _ _ => rw [e] at q; exact q.elim
  | st => rw [e] at q; exact q.elim
theorem compOfA {elt : Ax} {p : Pt} {k : ItK} {args conds : List Ex} {own : List Nat} {ee tg iter : Expr} {ifs : List Expr} {scope : Scope} {pos : Pos} (w : XW P nm cl n X sc W)
    (ihe : ∀ {X : Cx} {sc : Scope} {W : WXX} {e : Expr}, XW P nm cl n X sc W → mA X.N nm elt sc e = true → PE X e (tO X.K cl W (evA (cfgN P n) elt)))
    (h : mA X.N nm (.comp elt p k args conds own) sc (.ListComp ee [⟨tg, iter, ifs, 0⟩] scope pos) = true) : CompTA P n cl W X elt p k args conds own ee tg iter ifs scope := by
  unfold mA at h
  simp only [Bool.and_eq_true] at h
  obtain ⟨⟨h, hel⟩, hnk⟩ := h
  unfold mE at h
  dsimp only at h
  simp only [Bool.and_eq_true, decide_eq_true_eq] at h
  obtain ⟨⟨⟨⟨⟨⟨⟨⟨hb, hp⟩, hpo⟩, hown⟩, hcl⟩, htb⟩, hco⟩, _⟩, hit⟩ := h
  have hc : ∀ (X' : Cx), X'.N = X.N → X'.K = X.K → XW P nm cl n X' scope (fun _ _ _ _ => False) → ∀ x e, conds = [x] → ifs = [e] → PT X' e (tT X'.K cl (fun _ _ _ _ => False) (evT (cfgN P n) x)) := fun X' hN _ w' x e e1 e2 => by
    subst e2
    have ht : tstB x = true := by rw [e1] at htb; simpa [tstBs] using htb
    subst e1
    have hm : mE X.N nm x scope e = true := by
      simp only [mEs, Bool.and_eq_true] at hco
      exact hco.1.2
    exact (sE x w' (by rw [hN]; exact hm)).2 ht
  obtain ⟨hs, ri, hi, hr⟩ := walk_of (k := k) (args := args) (tg := tg) (iter := iter) w (by
    cases k <;> first | exact hit | (cases hnk; done) | skip
    cases args with
    | nil => exact hit
    | cons a as =>
      cases as with
      | cons _ _ => exact hit
      | nil =>
        simp only [Bool.and_eq_true] at hit ⊢
        exact ⟨hit.1, by
          have h2 := hit.2
          clear hit
          cases iter <;> first | rfl | exact h2⟩)
  exact s_compPartsA w hb hp hpo hs hi hr hcl (mEs_len hco) (fun X' hN _ w' => ihe w' (by rw [hN]; exact hel)) hc
mutual
theorem sA : ∀ (x : Ax) {X : Cx} {sc : Scope} {W : WXX} {e : Expr}, XW P nm cl n X sc W → mA X.N nm x sc e = true → PE X e (tO X.K cl W (evA (cfgN P n) x))
  | .e x, X, sc, W, e, w, h => by
    unfold mA at h
    refine PE.weak (sE x w (Bool.and_eq_true_iff.mp h).1).1 fun σ H Q z => tO_e ?_
    obtain ⟨ι, F, ρ, M, r, z⟩ := z
    simp only [evA] at z
    exact ⟨ι, F, ρ, M, r, z⟩
  | .lst as, X, sc, W, e, w, h => by
    unfold mA at h
    split at h
    · simp only [Bool.and_eq_true, decide_eq_true_eq] at h
      exact s_lstA (sAs as w h.1) h.2
    · cases h
  | .tup as, X, sc, W, e, w, h => by
    unfold mA at h
    split at h
    · simp only [Bool.and_eq_true, decide_eq_true_eq] at h
      exact s_tupA (sAs as w h.1) h.2
    · cases h
  | .dict0 _, X, sc, W, e, w, h => by
    unfold mA at h
    split at h
    · exact s_dict0A
    · cases h
  | .fr x, X, sc, W, e, w, h => by
    unfold mA at h
    rw [Bool.and_eq_true] at h
    exact s_fr w h.1 h.2
  | .call f xs, X, sc, W, e, w, h => by
    unfold mA at h
    unfold mE at h
    split at h
    · split at h
      · simp only [Bool.and_eq_true, decide_eq_true_eq, List.isEmpty_iff] at h
        obtain ⟨⟨⟨h1, h2⟩, h3⟩, h4⟩ := h
        subst h3
        exact PE.congO (s_callO w h1 h2 h4 (sEs xs w h4)) fun ρ M => by simp only [evA]
      · cases h
    · cases h
  | .mcall k m f a xs, X, sc, W, e, w, h => by
    unfold mA at h
    unfold mE at h
    split at h
    · split at h
      · simp only [Bool.and_eq_true, decide_eq_true_eq, List.isEmpty_iff] at h
        obtain ⟨⟨⟨⟨⟨⟨⟨h1, h2⟩, h3⟩, h4⟩, h5⟩, h6⟩, h7⟩, h8⟩ := h
        subst h1 h3
        exact PE.congO (s_mcallO w h2 h4 h5 h6 h8 (sE a w h7).1 (sEs xs w h8)) fun ρ M => by
          simp only [evA]
          rfl
      · cases h
    · cases h
  | .ix a k, X, sc, W, e, w, h => by
    unfold mA at h
    split at h
    · simp only [Bool.and_eq_true] at h
      exact PE.congO (s_ixA h.1.1 (sA a w h.1.2) (sE k w h.2).1) fun ρ M => by simp only [evA]
    · cases h
  | .bor a, X, sc, W, e, w, h => by
    unfold mA at h
    refine PE.weak (sA a w h) fun σ H Q z => tO_bor ?_
    obtain ⟨ι, F, ρ, M, r, z⟩ := z
    simp only [evA] at z
    exact ⟨ι, F, ρ, M, r, z⟩
  | .look a, X, sc, W, e, w, h => by
    unfold mA at h
    refine PE.weak (sA a w h) fun σ H Q z => tO_look ?_
    obtain ⟨ι, F, ρ, M, r, z⟩ := z
    simp only [evA] at z
    exact ⟨ι, F, ρ, M, r, z⟩
  | .dn a, X, sc, W, e, w, h => by
    unfold mA at h
    refine PE.weak (sA a w h) fun σ H Q z => tO_dn ?_
    obtain ⟨ι, F, ρ, M, r, z⟩ := z
    simp only [evA] at z
    exact ⟨ι, F, ρ, M, r, z⟩
  | .comp elt p k args conds own, X, sc, W, e, w, h => by
    have h0 := h
    unfold mA at h
    split at h
    · split at h
      · rename_i ee scope lpos _ tg iter ifs
        obtain ⟨t, h1, _, h3⟩ := compOfA w (pos := lpos) (sA elt) h0
        exact PE.weak (h1 lpos) h3
      · cases h
    · cases h
theorem sAs : ∀ (xs : List Ax) {X : Cx} {sc : Scope} {W : WXX} {es : List Expr}, XW P nm cl n X sc W → mAs X.N nm xs sc es = true → PA X es (tAO X.K cl W (evAs (cfgN P n) xs))
  | [], X, sc, W, es, w, h => by
    simp only [mAs, List.isEmpty_iff] at h
    subst h
    have e : evAs (cfgN P n) [] = fun ρ M => .ok [] M := by funext ρ M; simp only [evAs]
    rw [e]
    exact s_pao_nil
  | x :: xs, X, sc, W, es, w, h => by
    cases es with
    | nil => simp [mAs] at h
    | cons e es =>
      simp only [mAs, Bool.and_eq_true] at h
      have e2 : evAs (cfgN P n) (x :: xs) = fun ρ M => (evA (cfgN P n) x ρ M).bind fun d M1 => (evAs (cfgN P n) xs ρ M1).bind fun ds M2 => .ok (d :: ds) M2 := by funext ρ M; simp only [evAs]
      rw [e2]
      exact s_pao_cons h.1.1 (sA x w h.1.2) (sAs xs w h.2)
end
end
end VL

/-! V8: statements: readings; what is one's own, on a path -/
namespace VL
open PySem PySem.Spec PyProof.Rows L2
section
variable {K : PySem.W.Frag} {ι ι' ι1 ι2 : List Addr} {F F' F1 F2 H H' H1 H2 : Hp} {O O' O1 O2 : Addr → Prop} {ρ ρ' ρ1 ρ2 : Sl} {M M' : Mem} {σ σ' σ1 σ2 : L2.St} {cl : Nat → Value} {W : WXX}
structure StS (ι : List Addr) (F : Hp) (O : Addr → Prop) (H : Hp) (ι' : List Addr) (F' : Hp) (O' : Addr → Prop) (H' : Hp) : Prop where
  pre : ∃ more, ι' = ι ++ more ∧ ∀ a ∈ more, H a = none ∨ O a
  subF : ∀ a u, F a = some u → F' a = some u
  newF : ∀ a, Ld H a → a ∉ ι → ¬ O a → F a = none → F' a = none
  newO : ∀ a, O' a → H a = none ∨ O a
  keep : ∀ a u, H a = some u → a ∉ ι → ¬ O a → H' a = some u
  live : ∀ a, H a ≠ none → H' a ≠ none
theorem Stp.preS (s : Stp ι F H ι' F' H') : ∃ more, ι' = ι ++ more ∧ ∀ a ∈ more, H a = none ∨ O a :=
  let ⟨m, e, f⟩ := s.pre; ⟨m, e, fun a h => .inl (f a h)⟩
theorem Stp.toS (s : Stp ι F H ι' F' H') : StS ι F O H ι' F' O H' := ⟨s.preS, s.subF, fun a h n _ e => s.newF a h n e, fun a h => .inr h, fun a u h n _ => s.keep a u h n, s.live⟩
theorem StS.refl : StS ι F O H ι F O H := Stp.refl.toS
theorem StS.ix (s : StS ι F O H ι' F' O' H') : ∀ (n : Nat) a, ι[n]? = some a → ι'[n]? = some a := by
  obtain ⟨m, e, _⟩ := s.pre
  intro n a h
  rw [e, List.getElem?_append_left]
  · exact h
  · exact (List.getElem?_eq_some_iff.mp h).1
theorem StS.nin (s : StS ι F O H ι' F' O' H') {a : Addr} (h : a ∉ ι) (q : H a ≠ none) (no : ¬ O a) : a ∉ ι' := by
  obtain ⟨m, e, f⟩ := s.pre
  rw [e, List.mem_append]
  rintro (z | z)
  · exact h z
  · exact (f _ z).elim q no
theorem StS.dead (s : StS ι F O H ι' F' O' H') {a : Addr} (h : H' a = none) : H a = none := by
  by_cases hh : H a = none
  · exact hh
  · exact absurd h (s.live a hh)
theorem StS.trans (s : StS ι F O H ι1 F1 O1 H1) (t : StS ι1 F1 O1 H1 ι2 F2 O2 H2) : StS ι F O H ι2 F2 O2 H2 := by
  refine ⟨?_, fun a u h => t.subF a u (s.subF a u h), fun a h n no e => ?_, fun a h => ?_, fun a u h n no => ?_, fun a h => t.live a (s.live a h)⟩
  · obtain ⟨m, e, f⟩ := s.pre
    obtain ⟨m', e', f'⟩ := t.pre
    refine ⟨m ++ m', by rw [e', e, List.append_assoc], fun a h => ?_⟩
    rcases List.mem_append.mp h with z | z
    · exact f a z
    · rcases f' a z with q | q
      · exact .inl (s.dead q)
      · exact s.newO a q
  · refine t.newF a (h.to fun u q => s.keep a u q n no) (s.nin n h.ne no) (fun q => ?_) (s.newF a h n no e)
    rcases s.newO a q with z | z
    · exact h.ne z
    · exact no z
  · rcases t.newO a h with q | q
    · exact .inl (s.dead q)
    · exact s.newO a q
  · refine t.keep a u (s.keep a u h n no) (s.nin n (by rw [h]; exact fun z => by cases z) no) fun q => ?_
    rcases s.newO a q with z | z
    · rw [h] at z; cases z
    · exact no z
/-- a statement's result -/
def ResS (K : PySem.W.Frag) (cl : Nat → Value) (W : WXX) (ι : List Addr) (F : Hp) (O : Addr → Prop) (σ : L2.St) (H : Hp) (r : RS) (D : Ends) : Prop :=
  match r with
  | .nx ρ' M' => ∀ ι' F' O' H' σ', StS ι F O H ι' F' O' H' → SRO K ι' F' O' ρ' M' σ' H' → D.nx σ' H'
  | .rt d M' => ∀ ι' F' O' H' v T, StS ι F O H ι' F' O' H' → FSub F' H' → MemRep K ι' F' M' H' → DRep K ι' F' H' d.1 v d.2 T → (∀ a, T a → O' a ∧ F' a = none ∧ a ∉ ι' ∧ Ld H' a) → D.rt v H'
  | .bk ρ' M' => ∀ ι' F' O' H' σ', StS ι F O H ι' F' O' H' → SRO K ι' F' O' ρ' M' σ' H' → D.bk σ' H'
  | .ct ρ' M' => ∀ ι' F' O' H' σ', StS ι F O H ι' F' O' H' → SRO K ι' F' O' ρ' M' σ' H' → D.ct σ' H'
  | .ex c ρ' M' => ∀ ι' F' O' H' σ', StS ι F O H ι' F' O' H' → SRO K ι' F' O' ρ' M' σ' H' → W (cl c) none σ' H'
  | .st => False
def tS (K : PySem.W.Frag) (cl : Nat → Value) (W : WXX) (r : Sl → Mem → RS) : TS := fun D σ H => ∃ ι F O ρ M, SRO K ι F O ρ M σ H ∧ ResS K cl W ι F O σ H (r ρ M) D
variable {D : Ends} {r : RS}
theorem ResS.later (h : ResS K cl W ι F O σ H r D) (s : StS ι F O H ι1 F1 O1 H1) : ResS K cl W ι1 F1 O1 σ1 H1 r D := by
  cases r with
  | nx ρ' M' => exact fun ι' F' O' H' σ' s' r' => h _ _ _ _ _ (s.trans s') r'
  | rt d M' => exact fun ι' F' O' H' v T s' f m hv hT => h _ _ _ _ _ _ (s.trans s') f m hv hT
  | bk ρ' M' => exact fun ι' F' O' H' σ' s' r' => h _ _ _ _ _ (s.trans s') r'
  | ct ρ' M' => exact fun ι' F' O' H' σ' s' r' => h _ _ _ _ _ (s.trans s') r'
  | ex c ρ' M' => exact fun ι' F' O' H' σ' s' r' => h _ _ _ _ _ (s.trans s') r'
  | st => exact h
theorem ResS.to {α : Type} {e : VL.R α} {f : α → Mem → RS} (r0 : SRO K ι F O ρ M σ H) (h : ResS K cl W ι F O σ H (e.to ρ f) D) :
    Res K cl W ι F σ H e fun d M1 ι1 F1 H1 => ResS K cl W ι1 F1 O σ H1 (f d M1) D := by
  cases e with
  | ok d M1 => exact fun ι1 F1 H1 s1 f1 m1 => ResS.later h s1.toS
  | ex c M1 => exact fun ι1 F1 H1 s1 f1 m1 => h _ _ _ _ _ s1.toS (r0.step s1 f1 m1)
  | st => exact h
theorem ResS.seq {f : Sl → Mem → RS} (h : ResS K cl W ι F O σ H (r.seq f) D) : ResS K cl W ι F O σ H r { D with nx := tS K cl W f D } := by
  cases r with
  | nx ρ' M' => exact fun ι' F' O' H' σ' s' r' => ⟨ι', F', O', ρ', M', r', ResS.later h s'⟩
  | rt d M' => exact h
  | bk ρ' M' => exact h
  | ct ρ' M' => exact h
  | ex c ρ' M' => exact h
  | st => exact h
/-- things of one's own that are apart from all slots -/
structure Sep (ι : List Addr) (F : Hp) (O : Addr → Prop) (H : Hp) (T : Addr → Prop) : Prop where
  at_ : ∀ a, T a → ¬ O a ∧ F a = none ∧ a ∉ ι ∧ Ld H a
theorem New.sep {H0 : Hp} {T : Addr → Prop} (n : New ι F H0 H T) (h : ∀ a, O a → H0 a ≠ none) : Sep ι F O H T := ⟨fun a ha => let ⟨h1, h2, h3, h4⟩ := n.at_ a ha; ⟨fun z => h a z h3, h1, h2, h4⟩⟩
theorem Stp.sep {T : Addr → Prop} (s : Stp ι F H ι' F' H') (n : Sep ι F O H T) : Sep ι' F' O H' T :=
  ⟨fun a ha => let ⟨h1, h2, h3, h4⟩ := n.at_ a ha; ⟨h1, s.noneF h2 h4 h3, s.nin h3 h4.ne, s.ld h4 h3⟩⟩
/-- a slot's thing is settled -/
theorem SRO.freeze {i : Nat} {m : Md} {d : VL.D} (r : SRO K ι F O ρ M σ H) (h : ρ[i]? = some (.ow m d)) : ∃ F' O', StS ι F O H ι F' O' H ∧ SRO K ι F' O' (ρ.set i (.fz d)) M σ H := by
  classical
  obtain ⟨S, h1, h2, h3⟩ := r.ow
  obtain ⟨v, e1, dr⟩ := h1 i m d h
  have mono : ∀ b w, F b = some w → (if S i b then H b else F b) = some w := fun b w hb => by
    rw [if_neg (fun z => by rw [(r.own b (h2 i b z)).1] at hb; cases hb)]; exact hb
  have hi : i < ρ.length := (List.getElem?_eq_some_iff.mp h).1
  refine ⟨fun b => if S i b then H b else F b, fun b => O b ∧ ¬ S i b, ⟨⟨[], by simp, by simp⟩, mono, fun b hb _ no e => ?_, fun b hb => .inr hb.1, fun b w hb _ _ => hb, fun _ hb => hb⟩, ⟨fun b w hb => ?_, ⟨r.mem.len, r.mem.nd, fun k b mo g1 g2 => ?_⟩, by simp [r.len], fun j d' hj => ?_, fun a ha => ?_, fun j a => j ≠ i ∧ S j a, fun j m' d' hj => ?_, fun j a ha => ?_, fun j k a z1 z2 => h3 j k a z1.2 z2.2⟩⟩
  · show (if S i b then H b else F b) = none
    rw [if_neg fun z => no (h2 i b z)]; exact e
  · have hb : (if S i b then H b else F b) = some w := hb
    by_cases z : S i b
    · rw [if_pos z] at hb; exact .inl hb
    · rw [if_neg z] at hb; exact r.sub b w hb
  · obtain ⟨q1, q2⟩ := r.mem.at_ k b mo g1 g2
    refine ⟨?_, q2.mono (fun _ _ h => h) mono fun _ h => h⟩
    show (if S i b then H b else F b) = none
    rw [if_neg (fun z => (r.own b (h2 i b z)).2.1 (List.mem_of_getElem? g1))]; exact q1
  · by_cases ej : i = j
    · subst ej
      rw [List.getElem?_set_self hi] at hj
      cases hj
      exact ⟨v, e1, dr.settle mono fun a u ha hu _ => by rw [if_pos ha]; exact hu⟩
    · rw [List.getElem?_set_ne ej] at hj
      obtain ⟨w, e2, rv⟩ := r.fz j d' hj
      exact ⟨w, e2, rv.mono (fun _ _ h => h) mono⟩
  · obtain ⟨g1, g2, g3⟩ := r.own a ha.1
    refine ⟨?_, g2, g3⟩
    show (if S i a then H a else F a) = none
    rw [if_neg ha.2]; exact g1
  · have ej : i ≠ j := fun e => by
      subst e; rw [List.getElem?_set_self hi] at hj; cases hj
    rw [List.getElem?_set_ne ej] at hj
    obtain ⟨w, e2, q⟩ := h1 j m' d' hj
    exact ⟨w, e2, q.mono (fun _ _ h => h) mono fun a ha => ⟨⟨fun e => ej e.symm, ha⟩, fun _ h => h⟩⟩
  · exact ⟨h2 j a ha.2, fun z => ha.1 (h3 j i a ha.2 z)⟩
/-- a slot's list goes to memory -/
theorem SRO.toRef {i : Nat} {m : Md} {ds : List VL.D} (r : SRO K ι F O ρ M σ H) (h : ρ[i]? = some (.ow m (.lst ds))) (hm : m ≠ .z) :
    ∃ ι' F' O', StS ι F O H ι' F' O' H ∧ SRO K ι' F' O' (ρ.set i (.fz (.ref M.length))) (M ++ [.lst ds]) σ H := by
  classical
  obtain ⟨S, h1, h2, h3⟩ := r.ow
  obtain ⟨v, e1, dr⟩ := h1 i m _ h
  have hi : i < ρ.length := (List.getElem?_eq_some_iff.mp h).1
  cases dr with
  | fz rr e => exact absurd (e.resolve_right (by intro z; cases z)) hm
  | lst hn e s t ts rr =>
    rename_i a vs T
    obtain ⟨o1, o2, o3⟩ := r.own a (h2 i a s)
    have mono : ∀ b w, F b = some w → (if T b then H b else F b) = some w := fun b w hb => by
      rw [if_neg (fun z => by rw [(r.own b (h2 i b (ts b z))).1] at hb; cases hb)]; exact hb
    have ix : ∀ (n : Nat) b, ι[n]? = some b → (ι ++ [a])[n]? = some b := fun n b hb => by
      rw [List.getElem?_append_left (List.getElem?_eq_some_iff.mp hb).1]; exact hb
    have rs := DReps.settle (F' := fun b => if T b then H b else F b) mono rr fun b u hb hu _ => by
      show (if T b then H b else F b) = some u
      rw [if_pos hb]; exact hu
    refine ⟨ι ++ [a], fun b => if T b then H b else F b, fun b => O b ∧ ¬ S i b, ⟨⟨[a], rfl, fun b hb => by rw [List.mem_singleton.mp hb]; exact .inr (h2 i a s)⟩, mono, fun b hb _ no e => ?_, fun b hb => .inr hb.1, fun b w hb _ _ => hb, fun _ hb => hb⟩, ⟨fun b w hb => ?_, ⟨?_, ?_, fun k b mo g1 g2 => ?_⟩, by rw [List.length_set]; exact r.len, fun j d' hj => ?_, fun b hb => ?_, fun j b => j ≠ i ∧ S j b, fun j m' d' hj => ?_, fun j b hb => ?_, fun j k b ha hb => h3 j k b ha.2 hb.2⟩⟩
    · show (if T b then H b else F b) = none
      rw [if_neg fun z => no (h2 i b (ts b z))]; exact e
    · have hb : (if T b then H b else F b) = some w := hb
      by_cases z : T b
      · rw [if_pos z] at hb; exact .inl hb
      · rw [if_neg z] at hb; exact r.sub b w hb
    · rw [List.length_append, List.length_append, r.mem.len]; rfl
    · rw [List.nodup_append]
      exact ⟨r.mem.nd, by simp, fun x hx y hy e => by rw [List.mem_singleton.mp hy] at e; exact o2 (e ▸ hx)⟩
    · by_cases z : k < ι.length
      · rw [List.getElem?_append_left z] at g1
        rw [List.getElem?_append_left (by rw [← r.mem.len]; exact z)] at g2
        obtain ⟨q1, q2⟩ := r.mem.at_ k b mo g1 g2
        refine ⟨?_, q2.mono ix mono fun _ h => h⟩
        show (if T b then H b else F b) = none
        rw [if_neg (fun z => (r.own b (h2 i b (ts b z))).2.1 (List.mem_of_getElem? g1))]; exact q1
      · have hk : k = ι.length := by
          have := (List.getElem?_eq_some_iff.mp g1).1
          simp at this; omega
        subst hk
        rw [List.getElem?_append_right (Nat.le_refl _), Nat.sub_self] at g1
        rw [r.mem.len, List.getElem?_append_right (Nat.le_refl _), Nat.sub_self] at g2
        cases g1
        cases g2
        refine ⟨?_, vs, e, rs.mono ix fun _ _ h => h⟩
        show (if T a then H a else F a) = none
        rw [if_neg t]; exact o1
    · by_cases ej : i = j
      · subst ej
        rw [List.getElem?_set_self hi] at hj
        cases hj
        exact ⟨_, e1, .ref (by rw [← r.mem.len, List.getElem?_append_right (Nat.le_refl _), Nat.sub_self]; rfl)⟩
      · rw [List.getElem?_set_ne ej] at hj
        obtain ⟨w, e2, rv⟩ := r.fz j d' hj
        exact ⟨w, e2, rv.mono ix mono⟩
    · obtain ⟨g1, g2, g3⟩ := r.own b hb.1
      refine ⟨?_, ?_, g3⟩
      · show (if T b then H b else F b) = none
        rw [if_neg fun z => hb.2 (ts b z)]; exact g1
      · rw [List.mem_append]
        rintro (z | z)
        · exact g2 z
        · rw [List.mem_singleton.mp z] at hb; exact hb.2 s
    · have ej : i ≠ j := fun e => by
        subst e; rw [List.getElem?_set_self hi] at hj; cases hj
      rw [List.getElem?_set_ne ej] at hj
      obtain ⟨w, e2, q⟩ := h1 j m' d' hj
      exact ⟨w, e2, q.mono ix mono fun a ha => ⟨⟨fun e => ej e.symm, ha⟩, fun _ h => h⟩⟩
    · exact ⟨h2 j b hb.2, fun z => hb.1 (h3 j i b hb.2 z)⟩
/-- a slot's dict goes to memory -/
theorem SRO.toRefD {i : Nat} {m : Md} {td : Bool} {ds : List (VL.D × VL.D)} (r : SRO K ι F O ρ M σ H) (h : ρ[i]? = some (.ow m (.dic td ds))) (hm : m ≠ .z) :
    ∃ ι' F' O', StS ι F O H ι' F' O' H ∧ SRO K ι' F' O' (ρ.set i (.fz (.ref M.length))) (M ++ [.dic td ds]) σ H := by
  classical
  obtain ⟨S, h1, h2, h3⟩ := r.ow
  obtain ⟨v, e1, dr⟩ := h1 i m _ h
  have hi : i < ρ.length := (List.getElem?_eq_some_iff.mp h).1
  cases dr with
  | fz rr e => exact absurd (e.resolve_right (by intro z; cases z)) hm
  | dic hn e s t ts rr =>
    rename_i a vs T
    obtain ⟨o1, o2, o3⟩ := r.own a (h2 i a s)
    have mono : ∀ b w, F b = some w → (if T b then H b else F b) = some w := fun b w hb => by
      rw [if_neg (fun z => by rw [(r.own b (h2 i b (ts b z))).1] at hb; cases hb)]; exact hb
    have ix : ∀ (n : Nat) b, ι[n]? = some b → (ι ++ [a])[n]? = some b := fun n b hb => by
      rw [List.getElem?_append_left (List.getElem?_eq_some_iff.mp hb).1]; exact hb
    have rs := DRepk.settle (F' := fun b => if T b then H b else F b) mono rr fun b u hb hu _ => by
      show (if T b then H b else F b) = some u
      rw [if_pos hb]; exact hu
    refine ⟨ι ++ [a], fun b => if T b then H b else F b, fun b => O b ∧ ¬ S i b, ⟨⟨[a], rfl, fun b hb => by rw [List.mem_singleton.mp hb]; exact .inr (h2 i a s)⟩, mono, fun b hb _ no e => ?_, fun b hb => .inr hb.1, fun b w hb _ _ => hb, fun _ hb => hb⟩, ⟨fun b w hb => ?_, ⟨?_, ?_, fun k b mo g1 g2 => ?_⟩, by rw [List.length_set]; exact r.len, fun j d' hj => ?_, fun b hb => ?_, fun j b => j ≠ i ∧ S j b, fun j m' d' hj => ?_, fun j b hb => ?_, fun j k b ha hb => h3 j k b ha.2 hb.2⟩⟩
    · show (if T b then H b else F b) = none
      rw [if_neg fun z => no (h2 i b (ts b z))]; exact e
    · have hb : (if T b then H b else F b) = some w := hb
      by_cases z : T b
      · rw [if_pos z] at hb; exact .inl hb
      · rw [if_neg z] at hb; exact r.sub b w hb
    · rw [List.length_append, List.length_append, r.mem.len]; rfl
    · rw [List.nodup_append]
      exact ⟨r.mem.nd, by simp, fun x hx y hy e => by rw [List.mem_singleton.mp hy] at e; exact o2 (e ▸ hx)⟩
    · by_cases z : k < ι.length
      · rw [List.getElem?_append_left z] at g1
        rw [List.getElem?_append_left (by rw [← r.mem.len]; exact z)] at g2
        obtain ⟨q1, q2⟩ := r.mem.at_ k b mo g1 g2
        refine ⟨?_, q2.mono ix mono fun _ h => h⟩
        show (if T b then H b else F b) = none
        rw [if_neg (fun z => (r.own b (h2 i b (ts b z))).2.1 (List.mem_of_getElem? g1))]; exact q1
      · have hk : k = ι.length := by
          have := (List.getElem?_eq_some_iff.mp g1).1
          simp at this; omega
        subst hk
        rw [List.getElem?_append_right (Nat.le_refl _), Nat.sub_self] at g1
        rw [r.mem.len, List.getElem?_append_right (Nat.le_refl _), Nat.sub_self] at g2
        cases g1
        cases g2
        refine ⟨?_, vs, e, rs.mono ix fun _ _ h => h⟩
        show (if T a then H a else F a) = none
        rw [if_neg t]; exact o1
    · by_cases ej : i = j
      · subst ej
        rw [List.getElem?_set_self hi] at hj
        cases hj
        exact ⟨_, e1, .ref (by rw [← r.mem.len, List.getElem?_append_right (Nat.le_refl _), Nat.sub_self]; rfl)⟩
      · rw [List.getElem?_set_ne ej] at hj
        obtain ⟨w, e2, rv⟩ := r.fz j d' hj
        exact ⟨w, e2, rv.mono ix mono⟩
    · obtain ⟨g1, g2, g3⟩ := r.own b hb.1
      refine ⟨?_, ?_, g3⟩
      · show (if T b then H b else F b) = none
        rw [if_neg fun z => hb.2 (ts b z)]; exact g1
      · rw [List.mem_append]
        rintro (z | z)
        · exact g2 z
        · rw [List.mem_singleton.mp z] at hb; exact hb.2 s
    · have ej : i ≠ j := fun e => by
        subst e; rw [List.getElem?_set_self hi] at hj; cases hj
      rw [List.getElem?_set_ne ej] at hj
      obtain ⟨w, e2, q⟩ := h1 j m' d' hj
      exact ⟨w, e2, q.mono ix mono fun a ha => ⟨⟨fun e => ej e.symm, ha⟩, fun _ h => h⟩⟩
    · exact ⟨h2 j b hb.2, fun z => hb.1 (h3 j i b hb.2 z)⟩
/-- a slot gives up its thing -/
theorem SRO.take {i : Nat} {m : Md} {d : VL.D} (r : SRO K ι F O ρ M σ H) (h : ρ[i]? = some (.ow m d)) :
    ∃ v T, σ[i]? = some (some v) ∧ DRep K ι F H m v d T ∧ (∀ a, T a → O a) ∧ Sep ι F (fun b => O b ∧ ¬ T b) H T ∧ SRO K ι F (fun b => O b ∧ ¬ T b) (ρ.set i .un) M σ H := by
  obtain ⟨S, h1, h2, h3⟩ := r.ow
  obtain ⟨v, e1, dr⟩ := h1 i m d h
  refine ⟨v, S i, e1, dr, h2 i, ⟨fun a ha => ⟨fun z => z.2 ha, r.own a (h2 i a ha)⟩⟩, ⟨r.sub, r.mem, by simp [r.len], fun j d' hj => ?_, fun a ha => r.own a ha.1, fun j a => j ≠ i ∧ S j a, fun j m' d' hj => ?_, fun j a ha => ⟨h2 j a ha.2, fun z => ha.1 (h3 j i a ha.2 z)⟩, fun j k a z1 z2 => h3 j k a z1.2 z2.2⟩⟩
  · have ej : i ≠ j := fun e => by
      subst e; rw [List.getElem?_set, if_pos rfl] at hj
      split at hj <;> cases hj
    rw [List.getElem?_set_ne ej] at hj; exact r.fz j d' hj
  · have ej : i ≠ j := fun e => by
      subst e; rw [List.getElem?_set, if_pos rfl] at hj
      split at hj <;> cases hj
    rw [List.getElem?_set_ne ej] at hj
    obtain ⟨w, e2, q⟩ := h1 j m' d' hj
    exact ⟨w, e2, q.mono (fun _ _ h => h) (fun _ _ h => h) fun a ha => ⟨⟨fun e => ej e.symm, ha⟩, fun _ h => h⟩⟩
/-- a slot gets a thing -/
theorem SRO.put {i : Nat} {r0 : Md × VL.D} {v : V} {T : Addr → Prop} (r : SRO K ι F O ρ M σ H) (hd : DRep K ι F H r0.1 v r0.2 T) (hT : Sep ι F O H T) : SRO K ι F (fun a => O a ∨ T a) (ρ.set i (slM r0)) M (σ.set i (some v)) H := by
  obtain ⟨S, h1, h2, h3⟩ := r.ow
  refine ⟨r.sub, r.mem, by simp [r.len], fun j d' h => ?_, fun a ha => ha.elim (r.own a) fun ha => (hT.at_ a ha).2, fun j a => (j = i ∧ T a) ∨ (j ≠ i ∧ S j a), fun j m' d' h => ?_, fun j a ha => ha.elim (fun z => .inr z.2) fun z => .inl (h2 j a z.2), fun j k a z1 z2 => ?_⟩
  · rw [List.getElem?_set] at h ⊢
    by_cases e : i = j
    · subst e
      rw [if_pos rfl] at h ⊢
      rw [← r.len]
      split at h
      · rename_i hl
        rw [if_pos hl]
        unfold slM at h
        split at h
        · rename_i hm; cases h; exact ⟨v, rfl, hd.flat hm⟩
        · cases h
      · cases h
    · rw [if_neg e] at h ⊢; exact r.fz j d' h
  · rw [List.getElem?_set] at h ⊢
    by_cases e : i = j
    · subst e
      rw [if_pos rfl] at h ⊢
      rw [← r.len]
      split at h
      · rename_i hl
        rw [if_pos hl]
        unfold slM at h
        split at h
        · cases h
        · cases h
          exact ⟨v, rfl, hd.mono (fun _ _ h => h) (fun _ _ h => h) fun a ha => ⟨.inl ⟨rfl, ha⟩, fun _ h => h⟩⟩
      · cases h
    · rw [if_neg e] at h ⊢
      obtain ⟨w, e2, q⟩ := h1 j m' d' h
      exact ⟨w, e2, q.mono (fun _ _ h => h) (fun _ _ h => h) fun a ha => ⟨.inr ⟨fun z => e z.symm, ha⟩, fun _ h => h⟩⟩
  · rcases z1 with ⟨e1, t1⟩ | ⟨e1, t1⟩ <;> rcases z2 with ⟨e2, t2⟩ | ⟨e2, t2⟩
    · rw [e1, e2]
    · exact absurd (h2 k a t2) (hT.at_ a t1).1
    · exact absurd (h2 j a t1) (hT.at_ a t2).1
    · exact h3 j k a t1 t2
theorem StS.kp (s : StS ι F O H ι' F' O' H') (r : SRO K ι F O ρ M σ H) : Kp F H H' := fun a u n e => s.keep a u e (fun z => n (r.mem.there z).2) fun z => n (r.own a z).1
/-! ### paths -/
/-- from v along ks to w -/
def PathO (ι : List Addr) (H : Hp) : V → List VL.D → V → Prop
  | v, [], w => v = w
  | v, k :: ks, w => ∃ p xs j w1, v = .ref p ∧ (H p = some (.lst xs) ∨ H p = some (.tup xs)) ∧ p ∉ ι ∧ k = .int j ∧ L2.atI xs j = some w1 ∧ PathO ι H w1 ks w
theorem PathO.step (s : Stp ι F H ι' F' H') : ∀ {ks : List VL.D} {v w : V}, PathO ι H v ks w → PathO ι' H' v ks w
  | [], _, _, h => h
  | k :: ks, v, w, ⟨p, xs, j, w1, e1, e2, e3, e4, e5, h⟩ => ⟨p, xs, j, w1, e1, e2.imp (fun e2 => s.keep p _ e2 e3) (fun e2 => s.keep p _ e2 e3), s.nin e3 (by rcases e2 with e2 | e2 <;> (rw [e2]; exact fun z => by cases z)), e4, e5, PathO.step s h⟩
theorem PathO.uniq : ∀ {ks : List VL.D} {v w w' : V}, PathO ι H v ks w → PathO ι H v ks w' → w = w'
  | [], _, _, _, h, h' => h.symm.trans h'
  | k :: ks, v, w, w', ⟨p, xs, j, w1, e1, e2, e3, e4, e5, h⟩, ⟨p', xs', j', w1', e1', e2', e3', e4', e5', h'⟩ => by
    subst e1; cases e1'
    have ex : xs = xs' := by
      rcases e2 with e2 | e2 <;> rcases e2' with e2' | e2' <;> (rw [e2] at e2'; cases e2'; try rfl)
    subst ex
    subst e4; cases e4'
    rw [e5] at e5'; cases e5'
    exact h.uniq h'
theorem PathO.snoc : ∀ {ks : List VL.D} {k : VL.D} {v w : V}, PathO ι H v (ks ++ [k]) w → ∃ w1, PathO ι H v ks w1 ∧ PathO ι H w1 [k] w
  | [], k, v, w, h => ⟨v, rfl, h⟩
  | k0 :: ks, k, v, w, ⟨p, xs, j, w1, e1, e2, e3, e4, e5, h⟩ => by
    obtain ⟨w2, h1, h2⟩ := PathO.snoc h
    exact ⟨w2, ⟨p, xs, j, w1, e1, e2, e3, e4, e5, h1⟩, h2⟩
theorem dnP_z : ∀ ks, dnP .z ks = .z
  | [] => rfl
  | _ :: ks => dnP_z ks
theorem DReps.focus {m : Md} : ∀ {vs : List V} {ds : List VL.D} {S : Addr → Prop} {n : Nat} {d : VL.D}, DReps K ι F H m vs ds S → ds[n]? = some d → ∃ v A, vs[n]? = some v ∧ DRep K ι F H m v d A ∧ (∀ a, A a → S a) ∧
      ∀ H' v' d' A' (U : Addr → Prop), (∀ b u, S b → ¬ A b → H b = some u → H' b = some u) → DRep K ι F H' m v' d' A' → (∀ b, A' b → A b ∨ U b) → (∀ b, U b → ¬ S b) → DReps K ι F H' m (vs.set n v') (ds.set n d') fun b => S b ∨ U b
  | _, _, _, n, _, .nil, h => by simp at h
  | _, _, _, 0, _, .cons (A := A) (B := B) r q a b c, h => by
    simp only [List.getElem?_cons_zero, Option.some.injEq] at h
    subst h
    refine ⟨_, A, rfl, r, a, fun H' v' d' A' U h1 h2 h3 h4 => ?_⟩
    refine .cons (A := A') (B := B) h2 (q.mono (fun _ _ h => h) (fun _ _ h => h) fun x hx => ⟨hx, fun u e => h1 x u (b x hx) (fun z => c x z hx) e⟩) (fun x hx => (h3 x hx).imp (a x) id) (fun x hx => .inl (b x hx)) fun x hx hb => ?_
    rcases h3 x hx with z | z
    · exact c x z hb
    · exact h4 x z (b x hb)
  | _, _, _, n + 1, _, .cons (A := A0) (B := B) r q a b c, h => by
    simp only [List.getElem?_cons_succ] at h
    obtain ⟨v, A, e, dr, k, go⟩ := DReps.focus q h
    refine ⟨v, A, by simpa using e, dr, fun x hx => b x (k x hx), fun H' v' d' A' U h1 h2 h3 h4 => ?_⟩
    have := go H' v' d' A' U (fun x u hx hn e => h1 x u (b x hx) hn e) h2 h3 fun x hx hb => h4 x hx (b x hb)
    refine .cons (A := A0) (B := fun x => B x ∨ U x) (r.mono (fun _ _ h => h) (fun _ _ h => h) fun x hx => ⟨hx, fun u e => h1 x u (a x hx) (fun z => c x hx (k x z)) e⟩) this (fun x hx => .inl (a x hx)) (fun x hx => hx.imp (b x) id) fun x hx => ?_
    rintro (z | z)
    · exact c x hx z
    · exact h4 x z (a x hx)
theorem set_same {α : Type} {xs : List α} {n : Nat} {x : α} (h : xs[n]? = some x) : xs.set n x = xs := by
  apply List.ext_getElem?
  intro j
  rw [List.getElem?_set]
  split
  · rename_i e; subst e
    rw [if_pos (List.getElem?_eq_some_iff.mp h).1, h]
  · rfl
/-- what a change at a does -/
def Chg (H : Hp) (a : Addr) (H' : Hp) : Prop := ∀ b, b ≠ a → H' b = H b
theorem path_ok : ∀ {ks : List VL.D} {m : Md} {v : V} {d : VL.D} {S : Addr → Prop} {ds : List VL.D}, FSub F H → (∀ a u, F a = some u → a ∉ ι) → DRep K ι F H m v d S → (∀ a, S a → a ∉ ι ∧ F a = none) → getP d ks = some (.lst ds) → dnP m ks ≠ .z →
    ∃ a vs T0, PathO ι H v ks (.ref a) ∧ H a = some (.lst vs) ∧ DReps K ι F H (dnP m ks).dn vs ds T0 ∧ S a ∧ ¬ T0 a ∧ (∀ b, T0 b → S b) ∧
      ∀ H' m' vs' ds' (T1 U : Addr → Prop), Chg H a H' → H' a = some (.lst vs') → m' ≠ .z → (ks ≠ [] → m' = dnP m ks) → DReps K ι F H' m'.dn vs' ds' T1 → ¬ T1 a → (∀ b, T1 b → T0 b ∨ U b) → (∀ b, U b → ¬ S b) → DRep K ι F H' (if ks.isEmpty = true then m' else m) v (setP d ks (.lst ds')) fun b => S b ∨ U b
  | [], m, v, d, S, ds, fs, fm, h, hS, hg, hm => by
    simp only [getP, Option.some.injEq] at hg
    subst hg
    cases h with
    | fz r e => rcases e with e | e; exact absurd e hm; cases e
    | lst k1 k2 k3 k4 k5 k6 =>
      refine ⟨_, _, _, rfl, k2, k6, k3, k4, k5, fun H' m' vs' ds' T1 U hc h1 h2 h3 h4 h5 h6 h7 => ?_⟩
      exact .lst (T := T1) h2 h1 (.inl k3) h5 (fun b hb => (h6 b hb).imp (k5 b) id) h4
  | k :: ks, m, v, d, S, ds, fs, fm, h, hS, hg, hm => by
    have hmz : m ≠ .z := fun e => hm (by rw [e]; exact dnP_z _)
    cases d <;> try (simp [getP] at hg; done)
    · rename_i ds0
      cases k <;> try (simp [getP] at hg; done)
      rename_i j
      simp only [getP] at hg
      split at hg
      · rename_i n en
        split at hg
        · rename_i d1 ed
          have hd0 : ∃ a0 vs0, v = .ref a0 ∧ F a0 = some (.tup vs0) ∧ DReps K ι F H m.dn vs0 ds0 S := by
            cases h with
            | fz r e =>
              cases r with
              | tup e0 r => exact ⟨_, _, rfl, e0, DReps.of r (.inr (isLDs_all (by simpa only [D.isLD] using e.resolve_left hmz)))⟩
            | tup k1 k2 k6 => exact ⟨_, _, rfl, k2, k6⟩
          obtain ⟨a0, vs0, rfl, k2, k6⟩ := hd0
          obtain ⟨v1, A, e1, dr, hA, go⟩ := k6.focus ed
          obtain ⟨a, vs, T0, q1, q2, q3, q4, q5, q6, q7⟩ := path_ok fs fm dr (fun a ha => hS a (hA a ha)) hg hm
          have hat : L2.atI vs0 j = some v1 := by
            unfold L2.atI
            rw [k6.length, en]; exact e1
          have hHt : H a0 = some (.tup vs0) := by
            rcases fs _ _ k2 with z | ⟨z, _⟩
            · exact z
            · cases z
          refine ⟨a, vs, T0, ⟨_, _, _, v1, rfl, .inr hHt, fm _ _ k2, rfl, hat, q1⟩, q2, q3, hA _ q4, q5, fun b hb => hA b (q6 b hb), fun H' m' vs' ds' T1 U hc h1 h2 h3 h4 h5 h6 h7 => ?_⟩
          have sub := q7 H' m' vs' ds' T1 U hc h1 h2 (fun _ => h3 (by simp)) h4 h5 h6 fun b hb hA' => h7 b hb (hA b hA')
          have em : (if ks.isEmpty = true then m' else m.dn) = m.dn := by
            cases ks with
            | nil => exact h3 (by simp)
            | cons _ _ => rfl
          rw [em] at sub
          have all := go H' v1 (setP d1 ks (.lst ds')) (fun b => A b ∨ U b) U (fun b u hb hn e => by
            rw [hc b (fun e => hn (by rw [e]; exact q4))]; exact e) sub (fun b hb => hb) fun b hb hT => h7 b hb hT
          rw [set_same e1] at all
          have es : setP (.tup ds0) (.int j :: ks) (.lst ds') = .tup (ds0.set n (setP d1 ks (.lst ds'))) := by
            simp only [setP, en, ed]
          rw [es]
          show DRep K ι F H' m (.ref a0) _ _
          exact .tup hmz k2 all
        · cases hg
      · cases hg
    · rename_i ds0
      cases k <;> try (simp [getP] at hg; done)
      rename_i j
      simp only [getP] at hg
      split at hg
      · rename_i n en
        split at hg
        · rename_i d1 ed
          cases h with
          | fz r e => rcases e with e | e; exact absurd e hmz; cases e
          | lst k1 k2 k3 k4 k5 k6 =>
            rename_i a0 vs0 T'
            obtain ⟨v1, A, e1, dr, hA, go⟩ := k6.focus ed
            obtain ⟨a, vs, T0, q1, q2, q3, q4, q5, q6, q7⟩ := path_ok fs fm dr (fun a ha => hS a (k5 a (hA a ha))) hg hm
            have hat : L2.atI vs0 j = some v1 := by
              unfold L2.atI
              rw [k6.length, en]; exact e1
            have nea : a0 ≠ a := fun e => k4 (hA _ (by rw [e]; exact q4))
            refine ⟨a, vs, T0, ⟨_, _, _, v1, rfl, .inl k2, (hS _ k3).1, rfl, hat, q1⟩, q2, q3, k5 _ (hA _ q4), q5, fun b hb => k5 b (hA b (q6 b hb)), fun H' m' vs' ds' T1 U hc h1 h2 h3 h4 h5 h6 h7 => ?_⟩
            have sub := q7 H' m' vs' ds' T1 U hc h1 h2 (fun _ => h3 (by simp)) h4 h5 h6 fun b hb hA' => h7 b hb (k5 b (hA b hA'))
            have em : (if ks.isEmpty = true then m' else m.dn) = m.dn := by
              cases ks with
              | nil => exact h3 (by simp)
              | cons _ _ => rfl
            rw [em] at sub
            have all := go H' v1 (setP d1 ks (.lst ds')) (fun b => A b ∨ U b) U (fun b u hb hn e => by
              rw [hc b (fun e => hn (by rw [e]; exact q4))]; exact e) sub (fun b hb => hb) fun b hb hT => h7 b hb (k5 b hT)
            rw [set_same e1] at all
            have es : setP (.lst ds0) (.int j :: ks) (.lst ds') = .lst (ds0.set n (setP d1 ks (.lst ds'))) := by
              simp only [setP, en, ed]
            rw [es]
            show DRep K ι F H' m (.ref a0) _ _
            exact .lst (T := fun b => T' b ∨ U b) hmz (by rw [hc a0 nea]; exact k2) (.inl k3) (fun z => z.elim k4 fun z => h7 a0 z k3) (fun b hb => hb.imp (k5 b) id) all
        · cases hg
      · cases hg
/-- parts -/
theorem DReps.weak {m : Md} {vs : List V} {ds : List VL.D} {S T : Addr → Prop} (r : DReps K ι F H m vs ds S) (h : ∀ a, S a → T a) : DReps K ι F H m vs ds T := r.mono (fun _ _ h => h) (fun _ _ h => h) fun a ha => ⟨h a ha, fun _ h => h⟩
theorem DReps.append {m : Md} : ∀ {vs ws : List V} {ds es : List VL.D} {S T U : Addr → Prop}, DReps K ι F H m vs ds S → DReps K ι F H m ws es T → (∀ a, S a → U a) → (∀ a, T a → U a) → (∀ a, S a → ¬ T a) → DReps K ι F H m (vs ++ ws) (ds ++ es) U
  | _, _, _, _, _, _, _, .nil, q, _, h2, _ => q.weak h2
  | _, _, _, _, _, T, U, .cons (A := A) (B := B) h r a b c, q, h1, h2, h3 => by
    refine .cons (B := fun x => B x ∨ T x) h (r.append q (fun _ h => .inl h) (fun _ h => .inr h) fun x hx => h3 x (b x hx)) (fun x hx => h1 x (a x hx)) (fun x hx => hx.elim (fun hx => h1 x (b x hx)) (h2 x)) fun x hx => ?_
    rintro (z | z)
    · exact c x hx z
    · exact h3 x (a x hx) z
theorem DReps.one {m : Md} {v : V} {d : VL.D} {S : Addr → Prop} (h : DRep K ι F H m v d S) : DReps K ι F H m [v] [d] S := .cons (B := fun _ => False) h .nil (fun _ h => h) (fun _ h => h.elim) fun _ _ h => h
theorem DReps.split {m : Md} : ∀ {vs : List V} {ds : List VL.D} {S : Addr → Prop} (n : Nat), DReps K ι F H m vs ds S → ∃ A B, DReps K ι F H m (vs.take n) (ds.take n) A ∧ DReps K ι F H m (vs.drop n) (ds.drop n) B ∧ (∀ a, A a → S a) ∧ (∀ a, B a → S a) ∧ ∀ a, A a → ¬ B a
  | _, _, S, 0, r => ⟨fun _ => False, S, by simpa using DReps.nil, by simpa using r, fun _ h => h.elim, fun _ h => h, fun _ h => h.elim⟩
  | _, _, S, _ + 1, .nil => ⟨fun _ => False, fun _ => False, by simpa using DReps.nil, by simpa using DReps.nil, fun _ h => h.elim, fun _ h => h.elim, fun _ h => h.elim⟩
  | _, _, S, n + 1, .cons (A := A0) (B := B0) h r a b c => by
    obtain ⟨A, B, q1, q2, q3, q4, q5⟩ := r.split n
    refine ⟨fun x => A0 x ∨ A x, B, ?_, by simpa using q2, fun x hx => hx.elim (a x) fun hx => b x (q3 x hx), fun x hx => b x (q4 x hx), fun x hx hb => hx.elim (fun hx => c x hx (q4 x hb)) fun hx => q5 x hx hb⟩
    simp only [List.take_succ_cons]
    exact .cons h q1 (fun _ h => .inl h) (fun _ h => .inr h) fun x hx hA => c x hx (q3 x hA)
theorem DReps.reverse {m : Md} : ∀ {vs : List V} {ds : List VL.D} {S : Addr → Prop}, DReps K ι F H m vs ds S → DReps K ι F H m vs.reverse ds.reverse S
  | _, _, _, .nil => .nil
  | _, _, S, .cons (A := A) (B := B) h r a b c => by
    simp only [List.reverse_cons]
    exact (r.reverse).append (.one h) b a fun x h1 h2 => c x h2 h1
theorem DReps.erase {m : Md} : ∀ {vs : List V} {ds : List VL.D} {S : Addr → Prop} (n : Nat), DReps K ι F H m vs ds S → DReps K ι F H m (vs.eraseIdx n) (ds.eraseIdx n) S
  | _, _, _, _, .nil => by simpa using DReps.nil
  | _, _, S, 0, .cons h r a b c => by simpa using r.weak b
  | _, _, S, n + 1, .cons h r a b c => by
    simp only [List.eraseIdx_cons_succ]
    exact .cons h (r.erase n) a b c
/-- a part that is put in -/
theorem put_parts {m m' : Md} {top : Bool} {vs : List V} {ds : List VL.D} {S : Addr → Prop} {r : Md × VL.D} (h : DReps K ι F H m.dn vs ds S) (e : putM m top ds r = some m') :
    DReps K ι F H m'.dn vs ds S ∧ (∀ v T, DRep K ι F H r.1 v r.2 T → DRep K ι F H m'.dn v r.2 T) ∧ (m ≠ .z → m' ≠ .z) ∧ (top = false → m' = m) := by
  unfold putM at e
  split at e
  · rename_i hc
    cases e
    refine ⟨h, fun v T hd => ?_, id, fun _ => rfl⟩
    rcases hc with hc | hc
    · exact .fz (hd.flat (.inr hc)) (.inr hc)
    · rw [← hc]; exact hd
  · split at e
    · rename_i hc
      cases e
      have hf : ∀ x ∈ ds, x.isLD = false := fun x hx => by
        have := List.all_eq_true.mp hc.2 x hx
        simpa using this
      refine ⟨DReps.of (h.flat (.inr hf)) (.inr hf), fun v T hd => by rw [Md.dn_up]; exact hd, fun _ => Md.up_ne _, fun z => by rw [hc.1] at z; cases z⟩
    · cases e
/-- a slot's thing on a path -/
theorem SRO.path {i : Nat} {m : Md} {d : VL.D} {ks : List VL.D} (r : SRO K ι F O ρ M σ H) (h : ρ[i]? = some (.ow m d)) (hb : pathB m d ks = true) :
    ∃ v a vs ds, σ[i]? = some (some v) ∧ PathO ι H v ks (.ref a) ∧ H a = some (.lst vs) ∧ getP d ks = some (.lst ds) ∧ dnP m ks ≠ .z := by
  unfold pathB at hb
  simp only [Bool.and_eq_true, Bool.not_eq_true', decide_eq_false_iff_not] at hb
  obtain ⟨hb, hm⟩ := hb
  split at hb
  · rename_i ds hg
    obtain ⟨S, h1, h2, h3⟩ := r.ow
    obtain ⟨v, e, dr⟩ := h1 i m d h
    obtain ⟨a, vs, T0, q1, q2, _⟩ := path_ok r.sub (fun b u hb hi => by rw [(r.mem.there hi).2] at hb; cases hb) dr (fun b hb => ⟨(r.own b (h2 i b hb)).2.1, (r.own b (h2 i b hb)).1⟩) hg hm
    exact ⟨v, a, vs, ds, e, q1, q2, hg, hm⟩
  · cases hb
/-- what stands there -/
theorem SRO.there {i : Nat} {m : Md} {d : VL.D} {ks : List VL.D} {ds : List VL.D} {v : V} {a : Addr} (r : SRO K ι F O ρ M σ H) (h : ρ[i]? = some (.ow m d)) (hg : getP d ks = some (.lst ds)) (hm : dnP m ks ≠ .z) (hv : σ[i]? = some (some v)) (hp : PathO ι H v ks (.ref a)) :
    ∃ vs T0, H a = some (.lst vs) ∧ DReps K ι F H (dnP m ks).dn vs ds T0 ∧ ∀ b, T0 b → O b := by
  obtain ⟨S, h1, h2, h3⟩ := r.ow
  obtain ⟨v0, e, dr⟩ := h1 i m d h
  rw [hv] at e; cases e
  obtain ⟨a', vs, T0, q1, q2, q3, q4, q5, q6, _⟩ := path_ok r.sub (fun b u hb hi => by rw [(r.mem.there hi).2] at hb; cases hb) dr (fun b hb => ⟨(r.own b (h2 i b hb)).2.1, (r.own b (h2 i b hb)).1⟩) hg hm
  have := q1.uniq hp; cases this
  exact ⟨vs, T0, q2, q3, fun b hb => h2 i b (q6 b hb)⟩
/-- a change of a slot's thing -/
theorem SRO.change {i : Nat} {m m' : Md} {d : VL.D} {ks : List VL.D} {ds ds' : List VL.D} {vs' : List V} {U : Addr → Prop} {a : Addr} {v : V} (r : SRO K ι F O ρ M σ H) (h : ρ[i]? = some (.ow m d)) (hg : getP d ks = some (.lst ds)) (hm : dnP m ks ≠ .z)
    (hv : σ[i]? = some (some v)) (hp : PathO ι H v ks (.ref a)) (hU : Sep ι F O H U) (hm' : m' ≠ .z) (hk : ks ≠ [] → m' = dnP m ks)
    (hn : ∀ vs T0, H a = some (.lst vs) → DReps K ι F H (dnP m ks).dn vs ds T0 → (∀ b, T0 b → O b) → ∃ T1 : Addr → Prop, DReps K ι F H m'.dn vs' ds' T1 ∧ ∀ b, T1 b → T0 b ∨ U b) :
    StS ι F (fun b => O b ∨ U b) H ι F (fun b => O b ∨ U b) (upd H a (.lst vs')) ∧ SRO K ι F (fun b => O b ∨ U b) (ρ.set i (.ow (if ks.isEmpty = true then m' else m) (setP d ks (.lst ds')))) M σ (upd H a (.lst vs')) := by
  obtain ⟨S, h1, h2, h3⟩ := r.ow
  obtain ⟨v0, e0, dr⟩ := h1 i m d h
  rw [hv] at e0; cases e0
  have hS : ∀ b, S i b → b ∉ ι ∧ F b = none := fun b hb => ⟨(r.own b (h2 i b hb)).2.1, (r.own b (h2 i b hb)).1⟩
  obtain ⟨a', vs, T0, q1, q2, q3, q4, q5, q6, q7⟩ := path_ok r.sub (fun b u hb hi => by rw [(r.mem.there hi).2] at hb; cases hb) dr hS hg hm
  have ea : a' = a := by have := q1.uniq hp; cases this; rfl
  subst ea
  obtain ⟨T1, n1, n2⟩ := hn vs T0 q2 q3 fun b hb => h2 i b (q6 b hb)
  obtain ⟨hF, hi, hl⟩ := r.own a' (h2 i a' q4)
  have hil : i < ρ.length := (List.getElem?_eq_some_iff.mp h).1
  have nT1 : ¬ T1 a' := fun z => (n2 a' z).elim q5 fun z => (hU.at_ a' z).1 (h2 i a' q4)
  have chg : Chg H a' (upd H a' (.lst vs')) := fun b hb => upd_ne hb
  have n1' : DReps K ι F (upd H a' (.lst vs')) m'.dn vs' ds' T1 := n1.mono (fun _ _ h => h) (fun _ _ h => h) fun b hb => ⟨hb, fun u e => by rw [upd_ne (fun e => nT1 (by rw [← e]; exact hb))]; exact e⟩
  have new := q7 (upd H a' (.lst vs')) m' vs' ds' T1 U chg upd_same hm' hk n1' nT1 n2 fun b hb hs => (hU.at_ b hb).1 (h2 i b hs)
  obtain ⟨f2, m2⟩ := out_upd (o := .lst vs') r.sub r.mem hF hi
  have live : ∀ b, H b ≠ none → upd H a' (.lst vs') b ≠ none := fun b hb => by
    by_cases e : b = a'
    · subst e; rw [upd_same]; exact fun z => by cases z
    · rw [upd_ne e]; exact hb
  refine ⟨⟨⟨[], by simp, by simp⟩, fun _ _ h => h, fun _ _ _ _ h => h, fun b hb => ?_, fun b u hb _ no => ?_, live⟩, ⟨f2, m2, by simp [r.len], fun j d' hj => ?_, fun b hb => ?_, fun j b => (j = i ∧ (S i b ∨ U b)) ∨ (j ≠ i ∧ S j b), fun j mj dj hj => ?_, fun j b hb => ?_, fun j k b z1 z2 => ?_⟩⟩
  · exact .inr hb
  · rw [upd_ne (fun e => no (by rw [e]; exact .inl (h2 i a' q4)))]; exact hb
  · have ne : i ≠ j := fun e => by
      subst e; rw [List.getElem?_set_self hil] at hj; cases hj
    rw [List.getElem?_set_ne ne] at hj; exact r.fz j d' hj
  · rcases hb with hb | hb
    · obtain ⟨g1, g2, g3⟩ := r.own b hb
      exact ⟨g1, g2, g3.any .us⟩
    · obtain ⟨_, g1, g2, g3⟩ := hU.at_ b hb
      exact ⟨g1, g2, g3.any .us⟩
  · by_cases e : i = j
    · subst e
      rw [List.getElem?_set_self hil] at hj
      cases hj
      exact ⟨v, hv, new.mono (fun _ _ h => h) (fun _ _ h => h) fun b hb => ⟨.inl ⟨rfl, hb⟩, fun _ h => h⟩⟩
    · rw [List.getElem?_set_ne e] at hj
      obtain ⟨w, e2, q⟩ := h1 j mj dj hj
      exact ⟨w, e2, q.mono (fun _ _ h => h) (fun _ _ h => h) fun b hb => ⟨.inr ⟨fun z => e z.symm, hb⟩, fun u hu => by
        rw [upd_ne (fun z => e (h3 i j a' q4 (by rw [← z]; exact hb)))]; exact hu⟩⟩
  · rcases hb with ⟨rfl, hb⟩ | ⟨_, hb⟩
    · exact hb.imp (h2 j b) id
    · exact .inl (h2 j b hb)
  · rcases z1 with ⟨e1, t1⟩ | ⟨e1, t1⟩ <;> rcases z2 with ⟨e2, t2⟩ | ⟨e2, t2⟩
    · rw [e1, e2]
    · rcases t1 with t1 | t1
      · exact e1.trans (h3 i k b t1 t2)
      · exact absurd (h2 k b t2) (hU.at_ b t1).1
    · rcases t2 with t2 | t2
      · exact (h3 j i b t1 t2).trans e2.symm
      · exact absurd (h2 j b t1) (hU.at_ b t2).1
    · exact h3 j k b t1 t2
/-! ### a dict of one's own, its values settled -/
theorem DRepk.flatZ : ∀ {l : List (VL.D × V)} {kds : List (VL.D × VL.D)} {S : Addr → Prop}, DRepk K ι F H .z l kds S → RepK K ι F l kds
  | _, _, _, .nil => .nil
  | _, _, _, .cons h r _ _ _ => .cons (h.flat (.inl rfl)) (DRepk.flatZ r)
theorem SRO.dict {i : Nat} {t : Bool} {kvs : List (VL.D × VL.D)} (r : SRO K ι F O ρ M σ H) (h : ρ[i]? = some (.ow (.s .z) (.dic t kvs))) : ∃ a l, σ[i]? = some (some (.ref a)) ∧ DicAt H a t l ∧ RepK K ι F l kvs ∧ O a := by
  obtain ⟨S, h1, h2, h3⟩ := r.ow
  obtain ⟨v, e, dr⟩ := h1 i _ _ h
  cases dr with
  | fz q eq => rcases eq with eq | eq <;> cases eq
  | dic n e1 s t ts q => exact ⟨_, _, e, e1, DRepk.flatZ q, h2 i _ s⟩
theorem SRO.dchange {i : Nat} {t : Bool} {a : Addr} {o : HO} {kvs kvs' : List (VL.D × VL.D)} {l' : List (VL.D × V)} (r : SRO K ι F O ρ M σ H) (h : ρ[i]? = some (.ow (.s .z) (.dic t kvs))) (hv : σ[i]? = some (some (.ref a))) (hd : DicAt (upd H a o) a t l') (hr : RepK K ι F l' kvs') :
    StS ι F O H ι F O (upd H a o) ∧ SRO K ι F O (ρ.set i (.ow (.s .z) (.dic t kvs'))) M σ (upd H a o) := by
  obtain ⟨S, h1, h2, h3⟩ := r.ow
  obtain ⟨v0, e0, dr⟩ := h1 i _ _ h
  rw [hv] at e0; cases e0
  have hil : i < ρ.length := (List.getElem?_eq_some_iff.mp h).1
  have sa : S i a := by
    cases dr with
    | fz q eq => rcases eq with eq | eq <;> cases eq
    | dic n e1 s t ts q => exact s
  obtain ⟨hF, hi, hl⟩ := r.own a (h2 i a sa)
  obtain ⟨f2, m2⟩ := out_upd (o := o) r.sub r.mem hF hi
  have live : ∀ b, H b ≠ none → upd H a o b ≠ none := fun b hb => by
    by_cases e : b = a
    · subst e; rw [upd_same]; exact fun z => by cases z
    · rw [upd_ne e]; exact hb
  refine ⟨⟨⟨[], by simp, by simp⟩, fun _ _ h => h, fun _ _ _ _ h => h, fun b hb => .inr hb, fun b u hb _ no => ?_, live⟩, ⟨f2, m2, by simp [r.len], fun j d' hj => ?_, fun b hb => ?_, S, fun j mj dj hj => ?_, h2, h3⟩⟩
  · rw [upd_ne (fun e => no (by rw [e]; exact h2 i a sa))]; exact hb
  · have ne : i ≠ j := fun e => by
      subst e; rw [List.getElem?_set_self hil] at hj; cases hj
    rw [List.getElem?_set_ne ne] at hj; exact r.fz j d' hj
  · obtain ⟨g1, g2, g3⟩ := r.own b hb
    exact ⟨g1, g2, g3.any hd.ld⟩
  · by_cases e : i = j
    · subst e
      rw [List.getElem?_set_self hil] at hj
      cases hj
      exact ⟨_, hv, .dic (T := fun _ => False) (fun z => by cases z) hd sa id (fun _ h => h.elim) (DRepk.of_ hr)⟩
    · rw [List.getElem?_set_ne e] at hj
      obtain ⟨w, e2, q⟩ := h1 j mj dj hj
      exact ⟨w, e2, q.mono (fun _ _ h => h) (fun _ _ h => h) fun b hb => ⟨hb, fun u hu => by
        rw [upd_ne (fun z => e (h3 i j a sa (by rw [← z]; exact hb)))]; exact hu⟩⟩
end
end VL

/-! V9: statements are served by the evaluator -/
namespace VL
open PySem PySem.Spec PyProof.Rows L2

/-! ### matching -/
def ghostB : Sm → Bool
  | .freeze _ => true
  | .kill _ => true
  | .toRef _ => true
  | _ => false
def compB : Expr → Bool
  | .ListComp _ _ _ _ | .SetComp _ _ _ _ | .DictComp _ _ _ _ _ => true
  | _ => false
def tupB : Expr → Bool
  | .Tuple _ _ _ => true
  | _ => false
/-- a path, its last part first -/
def mPth (N : List Str) (nm : Nms) (sc : Scope) (i : Nat) : List Ex → Expr → Bool
  | [], e => mE N nm (.var i) sc e
  | p :: r, e => match e with
    | .Subscript o ek _ => pixB ek && mPth N nm sc i r o && mE N nm p sc ek
    | _ => false
def mEl (N : List Str) (nm : Nms) (sc : Scope) : El → Expr → Bool
  | .a a, e => mA N nm a sc e
  | .mv j, e => mE N nm (.var j) sc e
def mEls (N : List Str) (nm : Nms) (sc : Scope) : List El → List Expr → Bool
  | [], es => es.isEmpty
  | el :: els, es => match es with
    | e :: es => nst e && mEl N nm sc el e && mEls N nm sc els es
    | [] => false
def mMu (N : List Str) (nm : Nms) (sc : Scope) (mu : Mu) (el : El) (m : Str) (es : List Expr) : Bool :=
  match mu, es with
  | .app, [ea] => decide (m = ("append" : Str)) && nst ea && mEl N nm sc el ea
  | .clear, [] => decide (m = ("clear" : Str)) && (match el with | .a (.e (.lit .non)) => true | _ => false)
  | .rev, [] => decide (m = ("reverse" : Str)) && (match el with | .a (.e (.lit .non)) => true | _ => false)
  | _, _ => false
def callE : Expr → Bool
  | .Call _ (_ :: _) _ _ => true
  | _ => false
theorem callE_base {o : Expr} {m : Str} {env : Env} (h : callE o = true) : attributeBase o m env (eval o env) = eval o env := by
  cases o with
  | Call fn es kws pos =>
    cases es with
    | nil => cases h
    | cons a as => cases fn <;> rfl
  | _ => cases h
def mPop (N : List Str) (nm : Nms) (sc : Scope) (k : Option Ex) (es : List Expr) : Bool :=
  match k, es with
  | none, [] => true
  | some x, [ea] => nst ea && mE N nm x sc ea
  | _, _ => false
mutual
def mS (N : List Str) (nm : Nms) (sc : Scope) : Sm → Stmt → Bool
  | .asg p e, s => match s with
    | .Assign ts ev _ => (match ts with
      | [tg] => mP N sc p tg && mE N nm e sc ev && noDc e && (match tg with
        | .Name _ _ => true
        | _ => !tupB ev && !compB ev)
      | _ => false)
    | _ => false
  | .own i e, s => match s with
    | .Assign ts ev _ => (match ts with
      | [tg] => mP N sc (.v i) tg && mA N nm e sc ev
      | _ => false)
    | _ => false
  | .dset i k v, s => match s with
    | .Assign ts ev _ => (match ts with
      | [tg] => (match tg with
        | .Subscript o ek _ => nameE o && mE N nm (.var i) sc o && true && mE N nm k sc ek && mE N nm v sc ev
        | _ => false)
      | _ => false)
    | _ => false
  | .mut i ps mu el, s => match mu with
    | .setk k => (match s with
      | .Assign ts ev _ => (match ts with
        | [tg] => (match tg with
          | .Subscript o ek _ => mPth N nm sc i ps.reverse o && mE N nm k sc ek && mEl N nm sc el ev && pixB ek
          | _ => false)
        | _ => false)
      | _ => false)
    | mu => (match s with
      | .Expr c _ => (match c with
        | .Call fn es kws cp => (match fn with
          | .Attribute o m ap => kws.isEmpty && (ap.endLine == cp.line) && mPth N nm sc i ps.reverse o && mMu N nm sc mu el m es
          | _ => false)
        | _ => false)
      | _ => false)
  | .pop p i ps k, s => match s with
    | .Assign ts ev _ => (match ts with
      | [tg] => (match ev with
        | .Call fn es kws cp => (match fn with
          | .Attribute o m ap => mP N sc p tg && (match tg with | .Name _ _ => true | .Tuple _ _ _ => true | _ => false) && kws.isEmpty && (ap.endLine == cp.line) && decide (m = ("pop" : Str)) && mPth N nm sc i ps.reverse o && mPop N nm sc k es
          | _ => false)
        | _ => false)
      | _ => false)
    | _ => false
  | .forK p i body, s => match s with
    | .For tg iter sb oe _ => oe.isEmpty && mP N sc p tg && mSs N nm sc body sb && mVar N sc i iter
    | _ => false
  | .popS i ps k, s => match s with
    | .Expr ev _ => (match ev with
      | .Call fn es kws cp => (match fn with
        | .Attribute o m ap => kws.isEmpty && (ap.endLine == cp.line) && decide (m = ("pop" : Str)) && mPth N nm sc i ps.reverse o && mPop N nm sc k es
        | _ => false)
      | _ => false)
    | _ => false
  | .clr a, s => match s with
    | .Expr ev _ => (match ev with
      | .Call fn es kws cp => (match fn with
        | .Attribute o m ap => kws.isEmpty && es.isEmpty && (ap.endLine == cp.line) && decide (m = ("clear" : Str)) && callE o && mA N nm a sc o
        | _ => false)
      | _ => false)
    | _ => false
  | .aug i o e, s => match s with
    | .AugAssign tg op ev _ => mP N sc (.v i) tg && mOp o op && mE N nm e sc ev
    | _ => false
  | .expr e, s => match s with
    | .Expr ev _ => mE N nm e sc ev && !compB ev
    | _ => false
  | .ret e, s => match s with
    | .Return o _ => (match o with
      | some ev => mE N nm e sc ev
      | none => false)
    | _ => false
  | .retN, s => match s with
    | .Return o _ => o.isNone
    | _ => false
  | .retA a, s => match s with
    | .Return o _ => (match o with
      | some ev => mA N nm a sc ev
      | none => false)
    | _ => false
  | .retV i, s => match s with
    | .Return o _ => (match o with
      | some ev => mE N nm (.var i) sc ev
      | none => false)
    | _ => false
  | .ext i ps a, s => match s with
    | .Expr ev _ => (match ev with
      | .Call fn es kws cp => (match fn with
        | .Attribute o m ap => (match es with
          | [ea] => kws.isEmpty && (ap.endLine == cp.line) && decide (m = ("extend" : Str)) && nst ea && mPth N nm sc i ps.reverse o && mA N nm a sc ea
          | _ => false)
        | _ => false)
      | _ => false)
    | _ => false
  | .retT els, s => match s with
    | .Return o _ => (match o with
      | some ev => (match ev with
        | .Tuple es _ _ => mEls N nm sc els es && decide (els.length ≤ 1000)
        | _ => false)
      | none => false)
    | _ => false
  | .ifs q a b, s => match s with
    | .If ec sa sb _ => tstB q && mE N nm q sc ec && mSs N nm sc a sa && mSs N nm sc b sb
    | _ => false
  | .for_ p k args body, s => match s with
    | .For tg iter sb oe _ => oe.isEmpty && mP N sc p tg && mSs N nm sc body sb &&
        (match k with
            | .seq => (match args with | [a] => mE N nm a sc iter && (match iter with | .Set _ _ _ => false | _ => true) | _ => false)
            | _ => (match iter with
              | .Call fn es kws _ => (match fn with
                | .Name x _ => glB sc x && kws.isEmpty && mEs N nm args sc es && itB k x es.length tg
                | _ => false)
              | _ => false))
    | _ => false
  | .while_ q body, s => match s with
    | .While ec sb oe _ => oe.isEmpty && tstB q && mE N nm q sc ec && mSs N nm sc body sb
    | _ => false
  | .brk, s => match s with
    | .Break _ => true
    | _ => false
  | .cnt, s => match s with
    | .Continue _ => true
    | _ => false
  | .pass, s => match s with
    | .Pass _ => true
    | _ => false
  | .raise c, s => match s with
    | .Raise o cause _ => cause.isNone && (match o with
      | some ev => (match ev with
        | .Call fn es kws _ => (match fn, es with
          | .Name x _, [.Constant (.str _) _ _] => decide (nm.excs[c]? = some x) && glB sc x && kws.isEmpty
          | _, _ => false)
        | _ => false)
      | none => false)
    | _ => false
  | .freeze _, _ => false
  | .kill _, _ => false
  | .toRef _, _ => false
  | .mkI _ _, _ => false
  | .rset e k v, s => match s with
    | .Assign ts ev _ => (match ts with
      | [tg] => (match tg with
        | .Subscript o ek _ => mE N nm e sc o && mE N nm k sc ek && mE N nm v sc ev
        | _ => false)
      | _ => false)
    | _ => false
  | .try_ body hs, s => match s with
    | .Try sb hds oe fe _ => oe.isEmpty && fe.isEmpty && !hds.isEmpty && mSs N nm sc body sb && mHd N nm sc hs hds
    | _ => false
def mSs (N : List Str) (nm : Nms) (sc : Scope) : List Sm → List Stmt → Bool
  | [], l => l.isEmpty
  | s :: r, l => if ghostB s = true then mSs N nm sc r l else match l with
    | st :: l' => mS N nm sc s st && mSs N nm sc r l'
    | [] => false
end
/-! ### around a statement -/
structure XS (P : Prog) (nm : Nms) (cl : Nat → Value) (n : Nat) (X : Cx) (sc : Scope) (W : WXX) : Prop where
  w : XW P nm cl n X sc W
  own : PassesOwn (model X.prog X.w) X.A X.env X.xe
  stk : X.stack = X.env :: X.outer
  frm : X.env.frame = some X.env.locals
section
variable {P : Prog} {nm : Nms} {cl : Nat → Value} {n : Nat} {X : Cx} {sc : Scope} {W : WXX} {c : Cfg}
theorem PS.cong {st : Stmt} {ra rb : Sl → Mem → RS} (h : PS X st (tS X.K cl W ra)) (q : ∀ ρ M, rb ρ M = ra ρ M) : PS X st (tS X.K cl W rb) := by
  have : rb = ra := by funext ρ M; exact q ρ M
  rw [this]; exact h
theorem PSs.cong {st : List Stmt} {ra rb : Sl → Mem → RS} (h : PSs X st (tS X.K cl W ra)) (q : ∀ ρ M, rb ρ M = ra ρ M) : PSs X st (tS X.K cl W rb) := by
  have : rb = ra := by funext ρ M; exact q ρ M
  rw [this]; exact h
/-- e; a test; of which a statement is made -/
theorem s_do {ra : Sl → Mem → VL.R D} {f : D → Sl → Mem → RS} {D0 : Ends} {σ : L2.St} {H : Hp} {t : VK} (z : tS X.K cl W (fun ρ M => (ra ρ M).to ρ fun d M1 => f d ρ M1) D0 σ H)
    (q : ∀ ι F O ρ M d H1, SRO X.K ι F O ρ M σ H1 → ResS X.K cl W ι F O σ H1 (f d ρ M) D0 → ∀ v, Rep X.K ι F v d → t v H1) : tE X.K cl W ra σ H t := by
  obtain ⟨ι, F, O, ρ, M, r, z⟩ := z
  exact ⟨ι, F, ρ, M, ⟨O, r⟩, (ResS.to r z).imp fun d M1 ι1 F1 H1 s1 f1 m1 h v hv => q ι1 F1 O ρ M1 d H1 (r.step s1 f1 m1) h v hv⟩
theorem s_ret {e : Expr} {pos : Pos} {ra : Sl → Mem → VL.R D} (h : PE X e (tE X.K cl W ra)) : PS X (.Return (some e) pos) (tS X.K cl W fun ρ M => (ra ρ M).to ρ fun d M1 => .rt (Md.z, d) M1) := by
  refine PS.weak (ps_ret h) fun D σ H z => s_do (f := fun d ρ M1 => .rt (Md.z, d) M1) z fun ι F O ρ M d H1 r q v hv => ?_
  exact q ι F O H1 v (fun _ => False) StS.refl r.sub r.mem (.fz hv (.inl rfl)) fun _ h => h.elim
theorem s_retN {pos : Pos} : PS X (.Return none pos) (tS X.K cl W fun ρ M => .rt (Md.z, .non) M) := by
  refine PS.weak ps_retN fun D σ H z => ?_
  obtain ⟨ι, F, O, ρ, M, r, z⟩ := z
  exact z ι F O H .non (fun _ => False) StS.refl r.sub r.mem (.fz .non (.inl rfl)) fun _ h => h.elim
/-- things that are apart may be owned -/
theorem StS.or {ι ι' : List Addr} {F F' H H' : Hp} {O O' T : Addr → Prop} (s : StS ι F O H ι' F' O' H') (h : ∀ a, T a → H a = none ∨ O a) : StS ι F O H ι' F' (fun a => O' a ∨ T a) H' :=
  ⟨s.pre, s.subF, s.newF, fun a ha => ha.elim (s.newO a) (h a), s.keep, s.live⟩
theorem s_retA {e : Expr} {pos : Pos} {ra : Sl → Mem → VL.R (Md × D)} (h : PE X e (tO X.K cl W ra)) : PS X (.Return (some e) pos) (tS X.K cl W fun ρ M => (ra ρ M).to ρ fun r M1 => .rt r M1) := by
  refine PS.weak (ps_ret h) fun D σ H z => ?_
  obtain ⟨ι, F, O, ρ, M, r, z⟩ := z
  refine ⟨ι, F, ρ, M, ⟨O, r⟩, ?_⟩
  cases e : ra ρ M with
  | st => dsimp only at z; rw [e] at z; exact z
  | ex c M1 => dsimp only at z; rw [e] at z; exact fun ι1 F1 H1 s1 f1 m1 => z _ _ _ _ _ s1.toS (r.step s1 f1 m1)
  | ok d M1 =>
    dsimp only at z
    rw [e] at z
    exact fun ι1 F1 H1 s1 f1 m1 v T hv hT => z ι1 F1 _ H1 v T (s1.toS.or (T := T) fun a ha => .inl (hT.at_ a ha).2.2.1) f1 m1 hv fun a ha => let ⟨h1, h2, h3, h4⟩ := hT.at_ a ha; ⟨.inr ha, h1, h2, h4⟩
theorem s_retV {e : Expr} {pos : Pos} {i : Nat} (h : PE X e (tVar i)) : PS X (.Return (some e) pos) (tS X.K cl W fun ρ M => match ρ[i]? with
    | some (.ow m d) => .rt (m, d) M
    | some (.fz d) => .rt (Md.z, d) M
    | _ => .st) := by
  refine PS.weak (ps_ret h) fun D σ H z => ?_
  obtain ⟨ι, F, O, ρ, M, r, z⟩ := z
  dsimp only at z
  split at z
  · rename_i m d e
    obtain ⟨v, T, e1, dr, hO, hs, _⟩ := r.take e
    exact ⟨v, e1, z ι F O H v T StS.refl r.sub r.mem dr fun a ha => ⟨hO a ha, (hs.at_ a ha).2⟩⟩
  · rename_i d e
    obtain ⟨v, e1, hv⟩ := r.fz i d e
    exact ⟨v, e1, z ι F O H v (fun _ => False) StS.refl r.sub r.mem (.fz hv (.inl rfl)) fun _ h => h.elim⟩
  · exact z.elim
theorem sw_no {e : Expr} {o : Option Expr} {l : Nat} {env : Env} (h : compB e = false) : swapsWith e o l env = pure false := by
  cases e <;> first | rfl | cases h
theorem s_expr {e : Expr} {pos : Pos} {ra : Sl → Mem → VL.R D} (h : PE X e (tE X.K cl W ra)) (hc : compB e = false) : PS X (.Expr e pos) (tS X.K cl W fun ρ M => (ra ρ M).to ρ fun _ M1 => .nx ρ M1) := by
  refine PS.weak (ps_expr h (sw_no hc)) fun D σ H z => s_do (f := fun d ρ M1 => .nx ρ M1) z fun ι F O ρ M d H1 r q v hv => ?_
  exact q ι F O H1 σ StS.refl r
theorem s_if {e : Expr} {sa sb : List Stmt} {pos : Pos} {rt : Sl → Mem → VL.R Bool} {ra rb : Sl → Mem → RS} (h : PT X e (tT X.K cl W rt)) (ha : PSs X sa (tS X.K cl W ra)) (hb : PSs X sb (tS X.K cl W rb)) :
    PS X (.If e sa sb pos) (tS X.K cl W fun ρ M => (rt ρ M).to ρ fun t M1 => if t = true then ra ρ M1 else rb ρ M1) := by
  refine PS.weak (ps_if h ha hb) fun D σ H z => ?_
  obtain ⟨ι, F, O, ρ, M, r, z⟩ := z
  refine ⟨ι, F, ρ, M, ⟨O, r⟩, (ResS.to r z).imp fun t M1 ι1 F1 H1 s1 f1 m1 h => ?_⟩
  cases t with
  | true => exact ⟨ι1, F1, O, ρ, M1, r.step s1 f1 m1, h⟩
  | false => exact ⟨ι1, F1, O, ρ, M1, r.step s1 f1 m1, h⟩
/-- a value is stored in a name -/
theorem s_asgT {st : Stmt} {t : TE} {i : Nat} {ra : Sl → Mem → VL.R D} (h : PS X st (tAsg t (gName i))) (q : ∀ σ H Q, tE X.K cl W ra σ H Q → t σ H Q) :
    PS X st (tS X.K cl W fun ρ M => (ra ρ M).to ρ fun d M1 => match bindP (.v i) d ρ with
      | some ρ' => .nx ρ' M1
      | none => .st) := by
  refine PS.weak h fun D σ H z => q σ H _ (s_do (f := fun d ρ M1 => match bindP (.v i) d ρ with
      | some ρ' => .nx ρ' M1
      | none => .st) z fun ι F O ρ M d H1 r hz v hv => ?_)
  exact hz ι F O H1 _ StS.refl (r.setFz hv)
theorem s_ownT {st : Stmt} {t : TE} {i : Nat} {ra : Sl → Mem → VL.R (Md × D)} (h : PS X st (tAsg t (gName i))) (q : ∀ σ H Q, tO X.K cl W ra σ H Q → t σ H Q) :
    PS X st (tS X.K cl W fun ρ M => (ra ρ M).to ρ fun r M1 => .nx (ρ.set i (slM r)) M1) := by
  refine PS.weak h fun D σ H z => q σ H _ ?_
  obtain ⟨ι, F, O, ρ, M, r, z⟩ := z
  refine ⟨ι, F, ρ, M, ⟨O, r⟩, ?_⟩
  dsimp only at z
  cases e : ra ρ M with
  | st => rw [e] at z; exact z
  | ex c M1 => rw [e] at z; exact fun ι1 F1 H1 s1 f1 m1 => z _ _ _ _ _ s1.toS (r.step s1 f1 m1)
  | ok d M1 =>
    rw [e] at z
    intro ι1 F1 H1 s1 f1 m1 v T hv hT
    have r1 := r.step s1 f1 m1
    exact z ι1 F1 _ H1 _ (s1.toS.or (T := T) fun a ha => .inl (hT.at_ a ha).2.2.1) (r1.put hv (hT.sep fun a ha => (r.own a ha).2.2.ne))
/-- other targets -/
theorem s_asgP {st : Stmt} {t : TE} {p : Pt} {ra : Sl → Mem → VL.R D} (h : PS X st (tAsg t (tG X.K p))) (q : ∀ σ H Q, tE X.K cl W ra σ H Q → t σ H Q) :
    PS X st (tS X.K cl W fun ρ M => (ra ρ M).to ρ fun d M1 => match bindP p d ρ with
      | some ρ' => .nx ρ' M1
      | none => .st) := by
  refine PS.weak h fun D σ H z => q σ H _ (s_do (f := fun d ρ M1 => match bindP p d ρ with
      | some ρ' => .nx ρ' M1
      | none => .st) z fun ι F O ρ M d H1 r hz v hv => ?_)
  cases e : bindP p d ρ with
  | none => simp only [e] at hz; exact hz.elim
  | some ρ' =>
    simp only [e] at hz
    exact ⟨ι, F, O, ρ, M, d, ρ', r, hv, e, fun σ' r' o => hz ι F O H1 σ' StS.refl r'⟩
theorem swt_no {ts : List Expr} {e : Expr} {l : Nat} {env : Env} (h : compB e = false) : swapsWithSole ts e l env = pure false := by
  unfold swapsWithSole
  split
  · exact sw_no h
  · rfl
theorem sws_no {es : List Expr} {k : Nat} {p : Pos} {e : Expr} {env : Env} (h : tupB e = false) : swappedStores [.Tuple es k p] e env = pure none := by
  cases e <;> first | rfl | cases h
theorem sub_assign {o i : Expr} {pos : Pos} {env : Env} (h : pixB i = true) : ∀ v, assign (.Subscript o i pos) env v = (do
      let ov ← holding [v] (eval o env)
      let iv ← holding [v, ov] (eval i env)
      standAt pos
      holding [v, ov, iv] (setItem ov iv v)
      release [v, ov, iv] []) := by
  cases i <;> first | (intro v; rfl) | cases h
/-! ### paths and what is put in -/
theorem nox_res {α : Type} {K : PySem.W.Frag} {ι : List Addr} {F H : Hp} {σ : L2.St} {x : VL.R α} {Pd : α → Mem → List Addr → Hp → Hp → Prop} (h : Res K cl W ι F σ H x.nox Pd) : ∃ d M, x = .ok d M := by
  cases x with
  | ok d M => exact ⟨d, M, rfl⟩
  | ex _ _ => exact h.elim
  | st => exact h.elim
def tPath (K : PySem.W.Frag) (i : Nat) (rp : Sl → Mem → VL.R (List D)) : TE := fun σ H Q => ∃ ι F ρ M ks M' v w, SR K ι F ρ M σ H ∧ rp ρ M = .ok ks M' ∧ σ[i]? = some (some v) ∧ PathO ι H v ks w ∧
  ∀ ι' F' H', Stp ι F H ι' F' H' → FSub F' H' → MemRep K ι' F' M' H' → Q w H'
theorem evEs_snoc {ρ : Sl} {p : Ex} : ∀ {ps : List Ex} {M : Mem}, evEs c (ps ++ [p]) ρ M = (evEs c ps ρ M).bind fun ks M1 => (evE c p ρ M1).bind fun k M2 => .ok (ks ++ [k]) M2
  | [], M => by
    simp only [List.nil_append, evEs, R.bind_ok]
  | q :: ps, M => by
    simp only [List.cons_append, evEs, R.bind_assoc]
    congr 1
    funext d M1
    rw [evEs_snoc (ps := ps)]
    simp only [R.bind_assoc, R.bind_ok, List.cons_append]
theorem s_path (w : XW P nm cl n X sc W) {i : Nat} : ∀ {r : List Ex} {e : Expr}, mPth X.N nm sc i r e = true → PE X e (tPath X.K i (evEs (cfgN P n) r.reverse))
  | [], e, h => by
    unfold mPth at h
    unfold mE at h
    split at h
    · simp only [Bool.and_eq_true, decide_eq_true_eq] at h
      refine PE.weak (s_var w h.1 h.2) fun σ H Q z => ?_
      obtain ⟨ι, F, ρ, M, ks, M', v, w, r, e1, e2, e3, q⟩ := z
      simp only [List.reverse_nil, evEs] at e1
      cases e1
      cases (show v = w from e3)
      exact ⟨v, e2, q _ _ _ Stp.refl r.sub r.mem⟩
    · cases h
  | p :: r, e, h => by
    unfold mPth at h
    split at h
    · simp only [Bool.and_eq_true] at h
      obtain ⟨⟨h1, h2⟩, h3⟩ := h
      refine PE.weak (pe_ix ix_seq (s_path w h2) (sE p w h3).1 (pix_ok h1)) fun σ H Q z => ?_
      obtain ⟨ι, F, ρ, M, ks', M', v, w, r0, ee, ev, hp, q⟩ := z
      rw [List.reverse_cons, evEs_snoc] at ee
      cases e1 : evEs (cfgN P n) r.reverse ρ M with
      | ex _ _ => rw [e1] at ee; cases ee
      | st => rw [e1] at ee; cases ee
      | ok ks M1 =>
        rw [e1, R.bind_ok] at ee
        cases e2 : evE (cfgN P n) p ρ M1 with
        | ex _ _ => rw [e2] at ee; cases ee
        | st => rw [e2] at ee; cases ee
        | ok k M2 =>
          rw [e2, R.bind_ok] at ee
          cases ee
          obtain ⟨w1, p1, p2⟩ := hp.snoc
          refine ⟨ι, F, ρ, M, ks, M1, v, w1, r0, e1, ev, p1, fun ι1 F1 H1 s1 f1 m1 => ⟨ι1, F1, ρ, M1, r0.step s1 f1 m1, ?_⟩⟩
          rw [e2]
          intro ι2 F2 H2 s2 f2 m2 y hy
          obtain ⟨p0, xs, j, w2, g1, g2, g3, g4, g5, g6⟩ := p2.step (s1.trans s2)
          subst g4
          cases (show w2 = w from g6)
          rcases g2 with g2 | g2
          · exact .inl ⟨p0, xs, j, _, g1, hy.getInt, .inl (.inl g2), g5, q _ _ _ (s1.trans s2) f2 m2⟩
          · exact .inr (.inl ⟨p0, xs, j, _, g1, hy.getInt, .inl (.inl g2), g5, q _ _ _ (s1.trans s2) f2 m2⟩)
    · cases h
theorem mPth_base {N : List Str} {i : Nat} {r : List Ex} {o : Expr} {m : Str} {env : Env} (h : mPth N nm sc i r o = true) : attributeBase o m env (eval o env) = eval o env := by
  cases r with
  | nil =>
    unfold mPth mE at h
    split at h
    · rfl
    · cases h
  | cons p r =>
    unfold mPth at h
    split at h
    · rfl
    · cases h
def tEl (K : PySem.W.Frag) (cl : Nat → Value) (W : WXX) (c : Cfg) (el : El) : TE := fun σ H Q => ∃ ι F O ρ M, SRO K ι F O ρ M σ H ∧ Res K cl W ι F σ H (evL c el ρ M) fun r M' ι' F' H' => ∀ v T O', SRO K ι' F' O' (giveS el ρ) M' σ H' → DRep K ι' F' H' r.1 v r.2 T → Sep ι' F' O' H' T →
  (∀ a, O' a → O a) → (∀ a, T a → O a ∨ H a = none) → Q v H'
theorem s_el (w : XW P nm cl n X sc W) {el : El} {e : Expr} (h : mEl X.N nm sc el e = true) : PE X e (tEl X.K cl W (cfgN P n) el) := by
  cases el with
  | a a =>
    refine PE.weak (sA a w h) fun σ H Q z => ?_
    obtain ⟨ι, F, O, ρ, M, r, z⟩ := z
    refine ⟨ι, F, ρ, M, ⟨O, r⟩, Res.imp z fun d M1 ι1 F1 H1 s1 f1 m1 q v T hv hT => ?_⟩
    exact q v T O (r.step s1 f1 m1) hv (hT.sep fun a ha => (r.own a ha).2.2.ne) (fun _ h => h) fun a ha => .inr (hT.at_ a ha).2.2.1
  | mv j =>
    have h : mE X.N nm (.var j) sc e = true := h
    unfold mE at h
    split at h
    · simp only [Bool.and_eq_true, decide_eq_true_eq] at h
      refine PE.weak (s_var w h.1 h.2) fun σ H Q z => ?_
      obtain ⟨ι, F, O, ρ, M, r, z⟩ := z
      simp only [evL] at z
      split at z
      · rename_i m d ej
        obtain ⟨v, T, e1, dr, hO, hs, r1⟩ := r.take ej
        exact ⟨v, e1, Res.of_ok z r.sub r.mem v T _ r1 dr hs (fun a ha => ha.1) fun a ha => .inl (hO a ha)⟩
      · exact z.elim
    · cases h
def tEls (K : PySem.W.Frag) (cl : Nat → Value) (W : WXX) (c : Cfg) (els : List El) : TA := fun σ H Q => ∃ ι F O ρ M, SRO K ι F O ρ M σ H ∧ Res K cl W ι F σ H (evLs c els ρ M) fun rs M' ι' F' H' => ∀ vs T, DRepA K ι' F' H' vs rs T →
  (∀ a, T a → (O a ∨ H a = none) ∧ F' a = none ∧ a ∉ ι' ∧ Ld H' a) → Q vs H'
theorem evLs_len {c : Cfg} : ∀ {xs : List El} {ρ : Sl} {M M' : Mem} {ds : List (Md × D)}, evLs c xs ρ M = .ok ds M' → ds.length = xs.length
  | [], ρ, M, M', ds, h => by simp only [evLs] at h; cases h; rfl
  | x :: xs, ρ, M, M', ds, h => by
    simp only [evLs] at h
    cases e1 : evL c x ρ M with
    | ok d M1 =>
      rw [e1, R.bind_ok] at h
      cases e2 : evLs c xs (giveS x ρ) M1 with
      | ok r M2 => rw [e2, R.bind_ok] at h; cases h; simp [evLs_len e2]
      | ex _ _ => rw [e2] at h; cases h
      | st => rw [e2] at h; cases h
    | ex _ _ => rw [e1] at h; cases h
    | st => rw [e1] at h; cases h
theorem s_els (w : XW P nm cl n X sc W) : ∀ {els : List El} {es : List Expr}, mEls X.N nm sc els es = true → PA X es (tEls X.K cl W (cfgN P n) els)
  | [], es, h => by
    simp only [mEls, List.isEmpty_iff] at h
    subst h
    refine PA.weak pa_nil fun σ H Q z => ?_
    obtain ⟨ι, F, O, ρ, M, r, z⟩ := z
    exact Res.of_ok z r.sub r.mem [] (fun _ => False) .nil fun _ h => h.elim
  | el :: els, es, h => by
    cases es with
    | nil => simp [mEls] at h
    | cons e es =>
      simp only [mEls, Bool.and_eq_true] at h
      refine PA.weak (pa_cons (s_el w h.1.2) (s_els w h.2) (star_ok h.1.1)) fun σ H Q z => ?_
      obtain ⟨ι, F, O, ρ, M, r, z⟩ := z
      simp only [evLs] at z
      refine ⟨ι, F, O, ρ, M, r, z.bind.imp fun d M1 ι1 F1 H1 s1 f1 m1 q1 v T O' r' hv hT hO hTn => ?_⟩
      refine ⟨ι1, F1, O', giveS el ρ, M1, r', q1.bind.imp fun rs M2 ι2 F2 H2 s2 f2 m2 q2 vs U hvs hU => ?_⟩
      have hT2 := s2.sep hT
      refine Res.of_ok q2 f2 m2 (v :: vs) (fun a => T a ∨ U a) (.cons (s2.drep hv fun a ha => (hT.at_ a ha).2.2.1) hvs (fun _ h => .inl h) (fun _ h => .inr h) fun a h1 h2 => ?_) fun a ha => ?_
      · rcases (hU a h2).1 with z | z
        · exact (hT.at_ a h1).1 z
        · exact (hT.at_ a h1).2.2.2.ne z
      · rcases ha with ha | ha
        · exact ⟨hTn a ha, (hT2.at_ a ha).2⟩
        · refine ⟨?_, (hU a ha).2⟩
          rcases (hU a ha).1 with z | z
          · exact .inl (hO a z)
          · refine .inr ?_
            by_cases hh : H a = none
            · exact hh
            · exact absurd z (s1.live a hh)
theorem s_retT (w : XW P nm cl n X sc W) {els : List El} {es : List Expr} {x1 : Nat} {tp pos : Pos} (h : mEls X.N nm sc els es = true) (hl : els.length ≤ 1000) :
    PS X (.Return (some (.Tuple es x1 tp)) pos) (tS X.K cl W fun ρ M => ((evLs (cfgN P n) els ρ M).bind fun rs M1 => tupA rs M1).to ρ fun r M1 => .rt r M1) := by
  refine PS.weak (ps_ret (pe_tup (s_els w h))) fun D0 σ H z => ?_
  obtain ⟨ι, F, O, ρ, M, r, z⟩ := z
  refine ⟨ι, F, O, ρ, M, r, ?_⟩
  dsimp only at z
  cases e : evLs (cfgN P n) els ρ M with
  | st => rw [e] at z; exact z
  | ex c M1 => rw [e] at z; exact fun ι1 F1 H1 s1 f1 m1 => z _ _ _ _ _ s1.toS (r.step s1 f1 m1)
  | ok rs M1 =>
    rw [e, R.bind_ok] at z
    intro ι1 F1 H1 s1 f1 m1 vs T hvs hT
    refine ⟨by rw [hvs.length, evLs_len e]; exact small1000' hl, fun p hp => ?_⟩
    unfold tupA at z
    split at z
    · rename_i m hm
      obtain ⟨s2, f2, m2⟩ := new_ok (o := .tup vs) f1 m1 hp
      have s12 := s1.trans s2
      refine z ι1 _ (fun a => T a) _ (.ref p) T ⟨s12.preS, s12.subF, fun a h n _ e => s12.newF a h n e, fun a ha => (hT a ha).1.symm, fun a u h n _ => s12.keep a u h n, s12.live⟩ f2 m2 (.tup m.up_ne upd_same ?_) fun a ha => ?_
      · rw [Md.dn_up]
        exact (hvs.join (joinM_ok hm)).mono s2.ix s2.subF fun a ha => ⟨ha, fun u e => s2.keep a u e (hT a ha).2.2.1⟩
      · obtain ⟨_, h1, h2, h3⟩ := hT a ha
        exact ⟨ha, s2.noneF h1 h3 h2, h2, s2.ld h3 h2⟩
    · exact z.elim
/-- a change, when all is there -/
theorem mu_go {ι ι' : List Addr} {F F' H H' : Hp} {O O' T : Addr → Prop} {ρ : Sl} {M : Mem} {σ : L2.St} {i : Nat} {m : Md} {d k : D} {ks : List D} {mu : Mu} {r : Md × D} {v y : V} {a : Addr} {D0 : Ends} (s : StS ι F O H ι' F' (fun a => O' a ∨ T a) H')
    (sr : SRO X.K ι' F' O' ρ M σ H') (hi : ρ[i]? = some (.ow m d)) (hv : σ[i]? = some (some v)) (hp : PathO ι' H' v ks (.ref a)) (hm : dnP m ks ≠ .z) (hy : DRep X.K ι' F' H' r.1 y r.2 T) (hT : Sep ι' F' O' H' T) (z : ResS X.K cl W ι F O σ H (muR i m d ks mu k r ρ M) D0) :
    ∃ vs ds, H' a = some (.lst vs) ∧ getP d ks = some (.lst ds) ∧ vs.length = ds.length ∧ ∃ ds', muD mu k ds r.2 = some ds' ∧
      ∀ vs' : List V, (∀ T0 : Addr → Prop, ∀ md, (∀ a, T0 a → ¬ T a) → DReps X.K ι' F' H' md vs ds T0 → DRep X.K ι' F' H' md y r.2 T → ∃ T1 : Addr → Prop, DReps X.K ι' F' H' md vs' ds' T1 ∧ ∀ b, T1 b → T0 b ∨ T b) → D0.nx σ (upd H' a (.lst vs')) := by
  unfold muR at z
  split at z
  · rename_i ds hg
    split at z
    · rename_i m' ds' e1 e2
      obtain ⟨vs, T0, g1, g2, g3⟩ := sr.there hi hg hm hv hp
      refine ⟨vs, ds, g1, hg, g2.length, ds', e2, fun vs' hn => ?_⟩
      have hpp := put_parts g2 e1
      have ch := sr.change (ds' := ds') (vs' := vs') (U := T) (m' := m') hi hg hm hv hp hT (hpp.2.2.1 hm) (fun hk => hpp.2.2.2 (by cases ks; exact absurd rfl hk; rfl)) fun vs0 T00 q1 q2 q3 => by
        rw [g1] at q1; cases q1
        have hq := put_parts q2 e1
        exact hn T00 m'.dn (fun b hb ht => (hT.at_ b ht).1 (q3 b hb)) hq.1 (hq.2.1 y T hy)
      exact z _ _ _ _ _ (s.trans ch.1) ch.2
    · exact z.elim
  · exact z.elim
theorem give_get {el : El} {ρ : Sl} {i : Nat} {m : Md} {d : D} (h : (giveS el ρ)[i]? = some (.ow m d)) : ρ[i]? = some (.ow m d) := by
  cases el with
  | a a => exact h
  | mv j =>
    have h : (ρ.set j .un)[i]? = some (.ow m d) := h
    rw [List.getElem?_set] at h
    split at h
    · split at h <;> cases h
    · exact h
/-- x.append(e) -/
theorem s_app (w : XW P nm cl n X sc W) {i : Nat} {ps : List Ex} {el : El} {o ea : Expr} {ap cp pos : Pos} (hl : (ap.endLine == cp.line) = true) (hn : nst ea = true) (ho : mPth X.N nm sc i ps.reverse o = true) (he : mEl X.N nm sc el ea = true) :
    PS X (.Expr (.Call (.Attribute o "append" ap) [ea] [] cp) pos) (tS X.K cl W (evS (cfgN P n) (.mut i ps .app el))) := by
  have hpath := s_path w ho
  rw [List.reverse_reverse] at hpath
  have hp := pe_bm (X := X) (cpos := cp) (apos := ap) PySem.F.plainAttrs_list PySem.F.slot_list_append PySem.F.type_list_append mt_append hpath (pa_cons (s_el w he) pa_nil (star_ok hn)) (mPth_base ho) (by rw [star_ok hn]; rfl) hl (star_ok hn) rfl
  refine PS.weak (ps_expr hp rfl) fun D σ H z => ?_
  obtain ⟨ι, F, O, ρ, M, r, z⟩ := z
  unfold evS at z
  dsimp only at z
  split at z
  · rename_i m0 d0 hi
    cases e1 : evEs (cfgN P n) ps ρ M with
    | ex _ _ => rw [e1] at z; exact z.elim
    | st => rw [e1] at z; exact z.elim
    | ok ks M1 =>
      rw [e1, R.nox_ok, R.to_ok] at z
      split at z
      · rename_i hb
        obtain ⟨v, a, vs0, ds0, ev, p0, g0, hg0, hm0⟩ := r.path hi hb
        simp only [muK, evE, R.to_ok] at z
        refine ⟨ι, F, ρ, M, ks, M1, v, .ref a, ⟨O, r⟩, e1, ev, p0, fun ι1 F1 H1 s1 f1 m1 => ?_⟩
        have r1 := r.step s1 f1 m1
        obtain ⟨vs1, T1, g1, _, _⟩ := r1.there hi hg0 hm0 ev (p0.step s1)
        refine ⟨.inl ⟨rfl, vs1, .inl (.inl g1)⟩, ι1, F1, O, ρ, M1, r1, ?_⟩
        have z := ResS.later (σ1 := σ) z s1.toS
        cases e2 : evL (cfgN P n) el ρ M1 with
        | st => rw [e2] at z; exact z
        | ex c M2 => rw [e2] at z; exact fun ι2 F2 H2 s2 f2 m2 => z _ _ _ _ _ s2.toS (r1.step s2 f2 m2)
        | ok rr M2 =>
          rw [e2, R.to_ok] at z
          intro ι2 F2 H2 s2 f2 m2 y T O' r' hd hs hO hT
          split at z
          · rename_i m d hi2
            have hi3 := give_get hi2
            rw [hi] at hi3; cases hi3
            obtain ⟨vs, ds, g2, hg, hlen, ds', hmu, go⟩ := mu_go (X := X) (y := y) ⟨s2.preS, s2.subF, fun a h n _ e => s2.newF a h n e, fun a h => h.elim (fun h => .inr (hO a h)) fun h => (hT a h).symm, fun a u h n _ => s2.keep a u h n, s2.live⟩ r' hi2 ev ((p0.step s1).step s2) hm0 hd hs z
            unfold muD at hmu
            dsimp only at hmu
            split at hmu
            · rename_i hlt
              cases hmu
              refine ⟨a, vs, y, rfl, rfl, g2, by rw [hlen]; exact hlt, go _ fun T0 md hd0 q1 q2 => ⟨fun b => T0 b ∨ T b, q1.append (.one q2) (fun _ h => .inl h) (fun _ h => .inr h) hd0, fun _ h => h⟩⟩
            · cases hmu
          · exact z.elim
      · exact z.elim
  · exact z.elim
/-- x.extend(e), e a new list -/
theorem s_ext (w : XW P nm cl n X sc W) {i : Nat} {ps : List Ex} {el : Ax} {o ea : Expr} {ap cp pos : Pos} (hl : (ap.endLine == cp.line) = true) (hn : nst ea = true) (ho : mPth X.N nm sc i ps.reverse o = true) (he : mA X.N nm el sc ea = true) :
    PS X (.Expr (.Call (.Attribute o "extend" ap) [ea] [] cp) pos) (tS X.K cl W (evS (cfgN P n) (.ext i ps el))) := by
  have hpath := s_path w ho
  rw [List.reverse_reverse] at hpath
  have hp := pe_bm (X := X) (cpos := cp) (apos := ap) PySem.F.plainAttrs_list PySem.F.slot_list_extend PySem.F.type_list_extend mt_extend hpath (pa_cons (sA el w he) pa_nil (star_ok hn)) (mPth_base ho) (by rw [star_ok hn]; rfl) hl (star_ok hn) rfl
  refine PS.weak (ps_expr hp rfl) fun D σ H z => ?_
  obtain ⟨ι, F, O, ρ, M, r, z⟩ := z
  unfold evS at z
  split at z
  · rename_i m0 d0 hi
    cases e1 : evEs (cfgN P n) ps ρ M with
    | ex _ _ => rw [e1] at z; exact z.elim
    | st => rw [e1] at z; exact z.elim
    | ok ks M1 =>
      rw [e1, R.nox_ok, R.to_ok] at z
      split at z
      · rename_i hb
        obtain ⟨v, a, vs0, ds0, ev, p0, g0, hg0, hm0⟩ := r.path hi hb
        refine ⟨ι, F, ρ, M, ks, M1, v, .ref a, ⟨O, r⟩, e1, ev, p0, fun ι1 F1 H1 s1 f1 m1 => ?_⟩
        have r1 := r.step s1 f1 m1
        obtain ⟨vs1, T1, g1, _, _⟩ := r1.there hi hg0 hm0 ev (p0.step s1)
        refine ⟨.inl ⟨rfl, vs1, .inl (.inl g1)⟩, ι1, F1, ρ, M1, ⟨O, r1⟩, ?_⟩
        have z := ResS.later (σ1 := σ) z s1.toS
        cases e2 : evA (cfgN P n) el ρ M1 with
        | st => rw [e2] at z; exact z
        | ex c M2 => rw [e2] at z; exact fun ι2 F2 H2 s2 f2 m2 => z _ _ _ _ _ s2.toS (r1.step s2 f2 m2)
        | ok rr M2 =>
          rw [e2, R.to_ok] at z
          obtain ⟨mr, dr⟩ := rr
          intro ι2 F2 H2 s2 f2 m2 y T hd hT
          have r2 := r1.step s2 f2 m2
          have hs : Sep ι2 F2 O H2 T := hT.sep fun a ha => (r1.own a ha).2.2.ne
          unfold extR at z
          rw [hg0] at z
          split at z
          · rename_i ds ys q1 q2
            cases q1
            dsimp only at q2 hd
            subst q2
            split at z
            · rename_i hc
              obtain ⟨c1, c2, c3⟩ := hc
              dsimp only at c1 c2
              cases hd with
              | fz _ e => rcases e with e | e; exact absurd e c1; cases e
              | lst k1 k2 k3 k4 k5 k6 =>
                rename_i b us T0
                obtain ⟨vs2, T2, g2, g3, g4⟩ := r2.there hi hg0 hm0 ev ((p0.step s1).step s2)
                have k7 : DReps X.K ι2 F2 H2 (dnP m0 ks).dn us ys T0 := by
                  rcases c2 with c2 | c2
                  · rw [← c2]; exact k6
                  · have hf : ∀ x ∈ ys, x.isLD = false := fun x hx => by
                      have := List.all_eq_true.mp c2 x hx
                      simpa using this
                    exact DReps.of (k6.flat (.inr hf)) (.inr hf)
                have sub : ∀ a, T0 a → T a := k5
                have ch := r2.change (ds' := ds0 ++ ys) (vs' := vs2 ++ us) (U := T) (m' := dnP m0 ks) hi hg0 hm0 ev ((p0.step s1).step s2) hs hm0 (fun _ => rfl) fun vs0' T00 w1 w2 w3 => by
                  rw [g2] at w1; cases w1
                  exact ⟨fun b => T00 b ∨ T0 b, w2.append k7 (fun _ h => .inl h) (fun _ h => .inr h) fun b h1 h2 => (hs.at_ b (sub b h2)).1 (w3 b h1), fun b h => h.imp id (sub b)⟩
                have em : (if ks.isEmpty = true then dnP m0 ks else m0) = m0 := by
                  cases ks with
                  | nil => rfl
                  | cons _ _ => rfl
                rw [em] at ch
                refine ⟨a, b, vs2, us, rfl, rfl, g2, k2, by rw [g3.length, k6.length]; exact c3, z _ _ _ _ _ ((StS.or s2.toS fun b hb => .inl (hT.at_ b hb).2.2.1).trans ch.1) ch.2⟩
            · exact z.elim
          · exact z.elim
      · exact z.elim
  · exact z.elim
/-- x.clear(), x.reverse() -/
theorem s_mu0 (w : XW P nm cl n X sc W) {i : Nat} {ps : List Ex} {mu : Mu} {m id : Str} {T : String} {o : Expr} {ap cp pos : Pos} {rr : V → List V → Hp → VK → Prop} {g : List V → List V} {g' : List D → List D} (hl : (ap.endLine == cp.line) = true) (ho : mPth X.N nm sc i ps.reverse o = true)
    (hpe : ∀ to, PE X o to → PE X (.Call (.Attribute o m ap) [] [] cp) (tBM0 X.K "list" rr to)) (hr : ∀ l xs H Q, H l = some (.lst xs) → Q .non (upd H l (.lst (g xs))) → rr (.ref l) [] H Q)
    (hmu : ∀ k ds y, muD mu k ds y = some (g' ds)) (hk : ∀ k, mu ≠ .setk k) (hk2 : muK mu = .lit .non)
    (hD : ∀ (ι : List Addr) (F H : Hp) md vs ds T0, DReps X.K ι F H md vs ds T0 → DReps X.K ι F H md (g vs) (g' ds) T0) :
    PS X (.Expr (.Call (.Attribute o m ap) [] [] cp) pos) (tS X.K cl W (evS (cfgN P n) (.mut i ps mu (.a (.e (.lit .non)))))) := by
  have hpath := s_path w ho
  rw [List.reverse_reverse] at hpath
  refine PS.weak (ps_expr (hpe _ hpath) rfl) fun D σ H z => ?_
  obtain ⟨ι, F, O, ρ, M, r, z⟩ := z
  unfold evS at z
  split at z
  · rename_i k; exact absurd rfl (hk k)
  split at z
  · rename_i m0 d0 hi
    cases e1 : evEs (cfgN P n) ps ρ M with
    | ex _ _ => rw [e1] at z; exact z.elim
    | st => rw [e1] at z; exact z.elim
    | ok ks M1 =>
      rw [e1, R.nox_ok, R.to_ok] at z
      split at z
      · rename_i hb
        obtain ⟨v, a, vs0, ds0, ev, p0, g0, hg0, hm0⟩ := r.path hi hb
        rw [hk2] at z
        simp only [evE, R.to_ok, evL, evA, R.bind_ok, giveS, hi] at z
        refine ⟨ι, F, ρ, M, ks, M1, v, .ref a, ⟨O, r⟩, e1, ev, p0, fun ι1 F1 H1 s1 f1 m1 => ?_⟩
        have r1 := r.step s1 f1 m1
        have z := ResS.later (σ1 := σ) z s1.toS
        obtain ⟨vs, ds, g2, hg, hlen, ds', hm, go⟩ := mu_go (X := X) (y := .non) (T := fun _ => False) (O' := O) ⟨⟨[], by simp, by simp⟩, fun _ _ h => h, fun _ _ _ _ h => h, fun a h => h.elim .inr fun h => h.elim, fun a u h _ _ => h, fun _ h => h⟩ r1 hi ev (p0.step s1) hm0 (.fz .non (.inl rfl)) ⟨fun _ h => h.elim⟩ z
        rw [hmu] at hm
        cases hm
        exact ⟨.inl ⟨rfl, vs, .inl (.inl g2)⟩, hr a vs H1 _ g2 (go _ fun T0 md _ q1 _ => ⟨T0, hD _ _ _ _ _ _ _ q1, fun _ h => .inl h⟩)⟩
      · exact z.elim
  · exact z.elim
theorem sw_sub1 {o i e : Expr} {p : Pos} {l : Nat} {env : Env} : swapsWithSole [.Subscript o i p] e l env = pure false := by
  cases e <;> rfl
/-- x[k] = v -/
theorem s_setk (w : XW P nm cl n X sc W) {i : Nat} {ps : List Ex} {k : Ex} {el : El} {o ek ev : Expr} {tp pos : Pos} (ho : mPth X.N nm sc i ps.reverse o = true) (hk : mE X.N nm k sc ek = true) (he : mEl X.N nm sc el ev = true) (hp : pixB ek = true) :
    PS X (.Assign [.Subscript o ek tp] ev pos) (tS X.K cl W (evS (cfgN P n) (.mut i ps (.setk k) el))) := by
  have hpath := s_path w ho
  rw [List.reverse_reverse] at hpath
  refine PS.weak (ps_asg (s_el w he) (pg_sub hpath (sE k w hk).1 set_list (sub_assign hp)) sw_sub1 rfl) fun D σ H z => ?_
  obtain ⟨ι, F, O, ρ, M, r, z⟩ := z
  unfold evS at z
  dsimp only at z
  refine ⟨ι, F, O, ρ, M, r, ?_⟩
  cases e2 : evL (cfgN P n) el ρ M with
  | st => rw [e2] at z; exact z
  | ex c M2 => rw [e2] at z; exact fun ι2 F2 H2 s2 f2 m2 => z _ _ _ _ _ s2.toS (r.step s2 f2 m2)
  | ok rr M1 =>
    rw [e2, R.to_ok] at z
    intro ι1 F1 H1 s1 f1 m1 y T O' r' hd hs hO hT
    split at z
    · rename_i m d hi
      have z := ResS.later (σ1 := σ) z (show StS ι F O H ι1 F1 (fun a => O' a ∨ T a) H1 from ⟨s1.preS, s1.subF, fun a h n _ e => s1.newF a h n e, fun a h => h.elim (fun h => .inr (hO a h)) fun h => (hT a h).symm, fun a u h n _ => s1.keep a u h n, s1.live⟩)
      cases e1 : evEs (cfgN P n) ps (giveS el ρ) M1 with
      | ex _ _ => rw [e1] at z; exact z.elim
      | st => rw [e1] at z; exact z.elim
      | ok ks M2 =>
        rw [e1, R.nox_ok, R.to_ok] at z
        split at z
        · rename_i hb
          obtain ⟨v, a, vs0, ds0, hv, p0, g0, hg0, hm0⟩ := r'.path hi hb
          refine ⟨ι1, F1, giveS el ρ, M1, ks, M2, v, .ref a, ⟨O', r'⟩, e1, hv, p0, fun ι2 F2 H2 s2 f2 m2 => ?_⟩
          have r2 := r'.step s2 f2 m2
          refine ⟨ι2, F2, giveS el ρ, M2, ⟨O', r2⟩, ?_⟩
          cases e3 : evE (cfgN P n) k (giveS el ρ) M2 with
          | st => rw [e3] at z; exact z
          | ex c M3 => rw [e3] at z; exact fun ι3 F3 H3 s3 f3 m3 => z _ _ _ _ _ ⟨(s2.trans s3).preS, (s2.trans s3).subF, fun a h n _ e => (s2.trans s3).newF a h n e, fun a h => .inr (.inl h), fun a u h n _ => (s2.trans s3).keep a u h n, (s2.trans s3).live⟩ (r2.step s3 f3 m3)
          | ok x M3 =>
            rw [e3, R.to_ok] at z
            intro ι3 F3 H3 s3 f3 m3 u hu
            have s23 := s2.trans s3
            obtain ⟨vs, ds, g2, hg, hlen, ds', hmu, go⟩ := mu_go (X := X) (y := y) s23.toS (r2.step s3 f3 m3) hi hv (p0.step s23) hm0 (s23.drep hd fun a ha => (hs.at_ a ha).2.2.1) (s23.sep hs) z
            unfold muD at hmu
            split at hmu <;> try (cases hmu; done)
            · rename_i h; cases h
            · rename_i k' j _
              simp only [Option.map_eq_some_iff] at hmu
              obtain ⟨n', en, rfl⟩ := hmu
              refine ⟨a, vs, j, n', rfl, hu.getInt, g2, by rw [hlen]; exact en, go _ fun T0 md hd0 q1 q2 => ?_⟩
              obtain ⟨_, hlt, _, _⟩ := ixN_seq en
              obtain ⟨v1, A, _, _, _, gf⟩ := q1.focus (List.getElem?_eq_getElem hlt)
              exact ⟨fun b => T0 b ∨ T b, gf _ y rr.2 T T (fun _ _ _ _ h => h) q2 (fun _ h => .inr h) fun b hb h0 => hd0 b h0 hb, fun _ h => h⟩
            · rename_i h; cases h
            · rename_i h; cases h
            · rename_i h; cases h
        · exact z.elim
    · exact z.elim
/-- p = x.pop(k) -/
theorem s_popT {i : Nat} {ps : List Ex} {p : Pt} {k : Ex} {st : Stmt} {t : TE} {ι : List Addr} {F : Hp} {O : Addr → Prop} {ρ : Sl} {M1 M2 : Mem} {σ : L2.St} {H : Hp} {D0 : Ends} {m : Md} {d x : D} {ks : List D} {v : V} {a : Addr} (r : SRO X.K ι F O ρ M2 σ H) (hi : ρ[i]? = some (.ow m d)) (hm : dnP m ks ≠ .z) (hv : σ[i]? = some (some v)) (hp : PathO ι H v ks (.ref a))
    (z : ResS X.K cl W ι F O σ H (match getP d ks, x with
        | some (.lst ds), .int j => (match L2.ixN ds.length j with
          | some n => (match ds[n]? with
            | some y => if y.isLD = false ∧ -(2 ^ 63) ≤ j ∧ j < 2 ^ 63 then (match bindP p y (ρ.set i (.ow m (setP d ks (.lst (ds.eraseIdx n))))) with
              | some ρ' => .nx ρ' M2
              | none => .st) else .st
            | none => .st)
          | none => .st)
        | _, _ => .st) D0) :
    ∃ vs j n y, x = .int j ∧ H a = some (.lst vs) ∧ -(2 ^ 63) ≤ j ∧ j < 2 ^ 63 ∧ L2.ixN vs.length j = some n ∧ vs[n]? = some y ∧ tG X.K p y σ (upd H a (.lst (vs.eraseIdx n))) D0.nx := by
  split at z
  · rename_i ds j hg
    obtain ⟨vs, T0, g1, g2, g3⟩ := r.there hi hg hm hv hp
    split at z
    · rename_i n' en
      split at z
      · rename_i y ey
        split at z
        · rename_i hc
          obtain ⟨hy, h1, h2⟩ := hc
          obtain ⟨u, A, eu, du, _⟩ := g2.get ey
          refine ⟨vs, j, n', u, rfl, g1, h1, h2, by rw [g2.length]; exact en, eu, ?_⟩
          split at z
          · rename_i ρ' eb
            have ch := r.change (ds' := ds.eraseIdx n') (vs' := vs.eraseIdx n') (U := fun _ => False) (m' := dnP m ks) hi hg hm hv hp ⟨fun _ h => h.elim⟩ hm (fun _ => rfl) fun vs1 T1 q1 q2 q3 => by
              rw [g1] at q1; cases q1
              exact ⟨T1, q2.erase n', fun _ h => .inl h⟩
            have em : (if ks.isEmpty = true then dnP m ks else m) = m := by
              cases ks <;> rfl
            rw [em] at ch
            have hr := du.flat (.inr hy)
            refine ⟨ι, F, _, _, M2, y, ρ', ch.2, hr, eb, fun σ' r' o => ?_⟩
            exact z _ _ _ _ _ ((StS.refl.or (T := fun _ => False) fun _ h => h.elim).trans ch.1) r'
          · exact z.elim
        · exact z.elim
      · exact z.elim
    · exact z.elim
  · exact z.elim
/-- x op= e -/
theorem ip_V (o : BOp) : PIp X (pyOp o) (rOp X.K (augD o)) := by
  intro pins s σ H x y v u Q I rx ry h
  obtain ⟨ι, F, M, a, b, d, f, m, ra, rb, e, q⟩ := h
  unfold augD at e
  split at e
  · cases e; rw [ra.int] at rx; rw [rb.int] at ry
    exact iop_add pins s σ H _ _ v u Q I rx ry ⟨_, _, rfl, rfl, fin_same f m q (.int _)⟩
  · cases e; rw [ra.int] at rx; rw [rb.int] at ry
    exact iop_sub pins s σ H _ _ v u Q I rx ry ⟨_, _, rfl, rfl, fin_same f m q (.int _)⟩
  · split at e
    · rename_i hc; cases e; rw [ra.str] at rx; rw [rb.str] at ry
      exact iop_add_str pins s σ H _ _ v u Q I rx ry ⟨_, _, rfl, rfl, hc, fin_same f m q (.str _)⟩
    · cases e
  · cases e
theorem s_aug (w : XW P nm cl n X sc W) {i : Nat} {x : Str} {o : BOp} {e : Expr} {tp pos : Pos} {ra : Sl → Mem → VL.R D} (h1 : X.N[i]? = some x) (h2 : locB sc x = true) (he : PE X e (tE X.K cl W ra)) :
    PS X (.AugAssign (.Name x tp) (pyOp o) e pos) (tS X.K cl W fun ρ M => match ρ[i]? with
    | some (.fz x) => (ra ρ M).to ρ fun y M1 => (R.of (augD o x y) M1).to ρ fun z M2 => .nx (ρ.set i (.fz z)) M2
    | _ => .st) := by
  obtain ⟨l, f⟩ := w.loc h2
  refine PS.weak (ps_aug w.nd h1 l he (ip_V o) f) fun D σ H z => ?_
  obtain ⟨ι, F, O, ρ, M, r, z⟩ := z
  dsimp only at z
  split at z
  · rename_i d ei
    obtain ⟨v, e1, rv⟩ := r.fz i d ei
    refine ⟨v, e1, ι, F, ρ, M, ⟨O, r⟩, (ResS.to r z).imp fun y M1 ι1 F1 H1 s1 f1 m1 h u hu => ?_⟩
    have r1 := r.step s1 f1 m1
    cases e2 : augD o d y with
    | none => rw [e2] at h; exact h.elim
    | some t =>
      rw [e2] at h
      refine ⟨ι1, F1, M1, d, y, t, f1, m1, .inl (s1.rep rv), .inl hu, e2, fun F2 H2 k s2 f2 m2 hk => ?_⟩
      exact h _ _ _ _ _ s2.toS ((r1.step s2 f2 m2).setFz hk)
  · exact z.elim
theorem s_raise (w : XW P nm cl n X sc W) {k : Nat} {x m : Str} {p p2 cp pos : Pos} {j : Nat} (h1 : nm.excs[k]? = some x) (h2 : glB sc x = true) :
    PS X (.Raise (some (.Call (.Name x p) [.Constant (.str m) j p2] [] cp)) none pos) (tS X.K cl W fun ρ M => .ex k ρ M) := by
  obtain ⟨g, o⟩ := w.gl h2
  obtain ⟨a1, b1, _⟩ := okN_d o
  obtain ⟨C, e1, e2, e3, e4, e5, e6⟩ := w.fx.excs k x h1
  refine PS.weak (ps_raise w.calm w.tk (pmk_own PySem.F.excBase_ValueError e4 e2 e3 (raises_own e5 e6) g a1)) fun D σ H z => ?_
  obtain ⟨ι, F, O, ρ, M, r, z⟩ := z
  have z := z ι F O H σ StS.refl r
  rw [e1] at z
  exact z
theorem s_brk {pos : Pos} : PS X (.Break pos) (tS X.K cl W fun ρ M => .bk ρ M) := PS.weak ps_break fun D σ H ⟨ι, F, O, ρ, M, r, z⟩ => z ι F O H σ StS.refl r
theorem s_cnt {pos : Pos} : PS X (.Continue pos) (tS X.K cl W fun ρ M => .ct ρ M) := PS.weak ps_continue fun D σ H ⟨ι, F, O, ρ, M, r, z⟩ => z ι F O H σ StS.refl r
theorem s_pass {pos : Pos} : PS X (.Pass pos) (tS X.K cl W fun ρ M => .nx ρ M) := PS.weak ps_pass fun D σ H ⟨ι, F, O, ρ, M, r, z⟩ => z ι F O H σ StS.refl r
/-- for -/
theorem s_for (w : XS P nm cl n X sc W) {p : Pt} {tg iter : Expr} {body : List Stmt} {pos : Pos} {ri : Sl → Mem → VL.R (List D)} {rb : Sl → Mem → RS} (hset : ∀ a b c, iter ≠ .Set a b c)
    (hi : PI X tg iter (tI X.K cl W ri)) (hg : PG X tg (tG X.K p)) (hb : PSs X body (tS X.K cl W rb)) :
    PS X (.For tg iter body [] pos) (tS X.K cl W fun ρ M => (ri ρ M).to ρ fun items M2 => forL (fun d ρ M => match bindP p d ρ with
        | some ρ' => rb ρ' M
        | none => .st) items ρ M2) := by
  refine PS.weak (ps_for w.own w.w.calm hi hg hb (set_ok hset)) fun D σ H z => ?_
  obtain ⟨ι, F, O, ρ, M, r, z⟩ := z
  refine ⟨ι, F, ρ, M, ⟨O, r⟩, (ResS.to r z).imp fun items M2 ι2 F2 H2 s2 f2 m2 h J wk hl => ?_⟩
  have r2 := r.step s2 f2 m2
  generalize hf : (fun d ρ M => match bindP p d ρ with
        | some ρ' => rb ρ' M
        | none => RS.st : VL.D → Sl → Mem → RS) = f at h
  refine ⟨fun i m σc Hc => m = items.length - i ∧ i ≤ items.length ∧ ∃ ι F O ρc M, SRO X.K ι F O ρc M σc Hc ∧ (∀ (k : Nat) a, ι2[k]? = some a → ι[k]? = some a) ∧ (∀ a u, F2 a = some u → F a = some u) ∧ Kp F2 H2 Hc ∧ ResS X.K cl W ι F O σc Hc (forL f (items.drop i) ρc M) D,
    ⟨items.length, rfl, Nat.zero_le _, ι2, F2, O, ρ, M2, r2, fun _ _ h => h, fun _ _ h => h, Kp.refl, by simpa using h⟩, ?_⟩
  rintro i m σc Hc ⟨rfl, hi, ι3, F3, O3, ρc, M3, rc, hι, hF, hk, hc⟩
  by_cases hlt : i < items.length
  · refine .inr ⟨wk.go i F3 Hc hF rc.sub hk hlt, fun σ' H' => ∃ ι F O ρc M, SRO X.K ι F O ρc M σ' H' ∧ (∀ (k : Nat) a, ι2[k]? = some a → ι[k]? = some a) ∧ (∀ a u, F2 a = some u → F a = some u) ∧ Kp F2 H2 H' ∧ ResS X.K cl W ι F O σ' H' (forL f (items.drop (i + 1)) ρc M) D, fun σ' H' hN => ⟨items.length - (i + 1), by omega, rfl, by omega, hN⟩, fun x H' y => ?_⟩
    obtain ⟨d, F4, e1, s4, f4, m4, rx⟩ := wk.yld i ι3 F3 Hc M3 x H' hι hF rc.sub hk rc.mem y hlt
    have edrop : items.drop i = d :: items.drop (i + 1) := by
      rw [List.drop_eq_getElem_cons hlt]
      rw [List.getElem?_eq_getElem hlt] at e1
      cases e1; rfl
    rw [edrop] at hc
    have r4 := rc.step s4 f4 m4
    have hc := ResS.later (σ1 := σc) hc s4.toS
    have efd : f d ρc M3 = (match bindP p d ρc with | some ρ' => rb ρ' M3 | none => RS.st) := by rw [← hf]
    cases eb : bindP p d ρc with
    | none =>
      rw [eb] at efd
      simp only [forL, efd] at hc
      exact hc.elim
    | some ρ' =>
      rw [eb] at efd
      refine ⟨ι3, F4, O3, ρc, M3, d, ρ', r4, rx, eb, fun σ5 r5 o5 => ⟨ι3, F4, O3, ρ', M3, r5, ?_⟩⟩
      have hc := ResS.later (σ1 := σ5) hc StS.refl
      simp only [forL, efd] at hc
      have hF4 : ∀ a u, F2 a = some u → F4 a = some u := fun a u h => s4.subF a u (hF a u h)
      cases er : rb ρ' M3 with
      | nx ρ6 M6 =>
        rw [er] at hc
        exact fun ι6 F6 O6 H6 σ6 s6 r6 => ⟨ι6, F6, O6, ρ6, M6, r6, fun k a h => s6.ix k a (hι k a h), fun a u h => s6.subF a u (hF4 a u h), (hk.trans (s4.kp rc.mem) hF).trans (s6.kp r5) hF4, ResS.later hc s6⟩
      | ct ρ6 M6 =>
        rw [er] at hc
        exact fun ι6 F6 O6 H6 σ6 s6 r6 => ⟨ι6, F6, O6, ρ6, M6, r6, fun k a h => s6.ix k a (hι k a h), fun a u h => s6.subF a u (hF4 a u h), (hk.trans (s4.kp rc.mem) hF).trans (s6.kp r5) hF4, ResS.later hc s6⟩
      | bk ρ6 M6 => rw [er] at hc; exact hc
      | rt d6 M6 => rw [er] at hc; exact hc
      | ex c6 ρ6 M6 => rw [er] at hc; exact hc
      | st => rw [er] at hc; exact hc
  · have e : i = items.length := by omega
    subst e
    rw [List.drop_length] at hc
    exact .inl ⟨wk.stop F3 Hc hF rc.sub hk, hc ι3 F3 O3 Hc σc StS.refl rc⟩
/-- for, over a dict -/
theorem s_forK (w : XS P nm cl n X sc W) {p : Pt} {j : Nat} {tg iter : Expr} {body : List Stmt} {pos : Pos} {rb : Sl → Mem → RS} (hj : mVar X.N sc j iter = true)
    (hg : PG X tg (tG X.K p)) (hb : PSs X body (tS X.K cl W rb)) :
    PS X (.For tg iter body [] pos) (tS X.K cl W fun ρ M => match ρ[j]? with
      | some (.fz (.dic _ kvs)) => noexS (forL (fun d ρ M => match bindP p d ρ with
        | some ρ' => rb ρ' M
        | none => .st) (kvs.map (·.1)) ρ M)
      | _ => .st) := by
  have base := ps_for (pos := pos) w.own w.w.calm (s_ikeys w.w (tg := tg) hj) hg hb (set_ok fun a b c e => by rw [e] at hj; cases hj)
  refine PS.weak (PS.or base (ps_lock base)) fun D σ H z => ?_
  obtain ⟨ι, F, O, ρ, M, r, z⟩ := z
  dsimp only at z
  split at z
  · rename_i t kds ej
    generalize hf : (fun d ρ M => match bindP p d ρ with
        | some ρ' => rb ρ' M
        | none => RS.st : VL.D → Sl → Mem → RS) = f at z
    -- the walk, when the dict is locked
    have go : ∀ {D : Ends} {H : Hp}, SRO X.K ι F O ρ M σ H → LkK j σ F H ρ → ResS X.K cl W ι F O σ H (noexS (forL f (kds.map (·.1)) ρ M)) D → tFor (tIk X.K j) (tG X.K p) (tS X.K cl W rb) D σ H := fun {D H} r lk z => by
      refine ⟨ι, F, ρ, M, t, kds, ⟨O, r⟩, ej, lk, fun J wk hl => ?_⟩
      generalize hit : kds.map (·.1) = items at *
      refine ⟨fun i m σc Hc => m = items.length - i ∧ i ≤ items.length ∧ ∃ ι' F' O' ρc M, SRO X.K ι' F' O' ρc M σc Hc ∧ (∀ (k : Nat) a, ι[k]? = some a → ι'[k]? = some a) ∧ (∀ a u, F a = some u → F' a = some u) ∧ Kp F H Hc ∧ ResS X.K cl W ι' F' O' σc Hc (noexS (forL f (items.drop i) ρc M)) D,
        ⟨items.length, rfl, Nat.zero_le _, ι, F, O, ρ, M, r, fun _ _ h => h, fun _ _ h => h, Kp.refl, by simpa using z⟩, ?_⟩
      rintro i m σc Hc ⟨rfl, hi, ι3, F3, O3, ρc, M3, rc, hι, hF, hk, hc⟩
      by_cases hlt : i < items.length
      · refine .inr ⟨wk.go i F3 Hc hF rc.sub hk hlt, fun σ' H' => ∃ ι' F' O' ρc M, SRO X.K ι' F' O' ρc M σ' H' ∧ (∀ (k : Nat) a, ι[k]? = some a → ι'[k]? = some a) ∧ (∀ a u, F a = some u → F' a = some u) ∧ Kp F H H' ∧ ResS X.K cl W ι' F' O' σ' H' (noexS (forL f (items.drop (i + 1)) ρc M)) D, fun σ' H' hN => ⟨items.length - (i + 1), by omega, rfl, by omega, hN⟩, fun x H' y => ?_⟩
        obtain ⟨d, F4, e1, s4, f4, m4, rx⟩ := wk.yld i ι3 F3 Hc M3 x H' hι hF rc.sub hk rc.mem y hlt
        rw [drop_at e1] at hc
        have r4 := rc.step s4 f4 m4
        have hc := ResS.later (σ1 := σc) hc s4.toS
        have efd : f d ρc M3 = (match bindP p d ρc with | some ρ' => rb ρ' M3 | none => RS.st) := by rw [← hf]
        cases eb : bindP p d ρc with
        | none =>
          rw [eb] at efd
          simp only [forL, efd] at hc
          exact hc.elim
        | some ρ' =>
          rw [eb] at efd
          refine ⟨ι3, F4, O3, ρc, M3, d, ρ', r4, rx, eb, fun σ5 r5 o5 => ⟨ι3, F4, O3, ρ', M3, r5, ?_⟩⟩
          have hc := ResS.later (σ1 := σ5) hc StS.refl
          simp only [forL, efd] at hc
          have hF4 : ∀ a u, F a = some u → F4 a = some u := fun a u h => s4.subF a u (hF a u h)
          cases er : rb ρ' M3 with
          | nx ρ6 M6 =>
            rw [er] at hc
            exact fun ι6 F6 O6 H6 σ6 s6 r6 => ⟨ι6, F6, O6, ρ6, M6, r6, fun k a h => s6.ix k a (hι k a h), fun a u h => s6.subF a u (hF4 a u h), (hk.trans (s4.kp rc.mem) hF).trans (s6.kp r5) hF4, ResS.later hc s6⟩
          | ct ρ6 M6 =>
            rw [er] at hc
            exact fun ι6 F6 O6 H6 σ6 s6 r6 => ⟨ι6, F6, O6, ρ6, M6, r6, fun k a h => s6.ix k a (hι k a h), fun a u h => s6.subF a u (hF4 a u h), (hk.trans (s4.kp rc.mem) hF).trans (s6.kp r5) hF4, ResS.later hc s6⟩
          | bk ρ6 M6 => rw [er] at hc; exact hc
          | rt d6 M6 => rw [er] at hc; exact hc
          | ex c6 ρ6 M6 => rw [er] at hc; exact hc.elim
          | st => rw [er] at hc; exact hc.elim
      · have e : i = items.length := by omega
        subst e
        rw [List.drop_length] at hc
        exact .inl ⟨wk.stop F3 Hc hF rc.sub hk, hc ι3 F3 O3 Hc σc StS.refl rc⟩
    rcases dic_lock ⟨O, r⟩ ej with lk | ⟨d, u, g1, g2, g3, g4⟩
    · exact .inl (go r lk z)
    · refine .inr ⟨d, u, g3, isDic_mut g4, fun od => go (r.lock g2 g4) ⟨t, kds, d, od, u, ej, g1, g2, upd_same⟩ ?_⟩
      have nO : ¬ O d := fun z => by
        have := (r.own d z).1
        rw [g2] at this; cases this
      have nι : d ∉ ι := fun z => by
        have := (r.mem.there z).2
        rw [g2] at this; cases this
      have conv : ∀ {ι' : List Addr} {F' : Hp} {O' : Addr → Prop} {H' : Hp}, StS ι F O (upd H d (.frz od u)) ι' F' O' H' → H' d = some (.frz od u) ∧ StS ι F O H ι' F' O' (upd H' d u) := fun {ι' F' O' H'} s => by
        have nn : ∀ a, upd H d (.frz od u) a = none ↔ H a = none := fun a => by
          by_cases ea : a = d
          · subst ea; rw [upd_same, g3]; simp
          · rw [upd_ne ea]
        refine ⟨s.keep d _ upd_same nι nO, ?_, s.subF, fun a l n0 no e0 => ?_, fun a ha => ?_, fun a w h n0 no => ?_, fun a h => ?_⟩
        · obtain ⟨mm, e1, e2⟩ := s.pre
          exact ⟨mm, e1, fun a ha => (e2 a ha).imp (nn a).mp id⟩
        · have ea : a ≠ d := fun z => by rw [z, g2] at e0; cases e0
          exact s.newF a (l.upd ea) n0 no e0
        · exact (s.newO a ha).imp (nn a).mp id
        · by_cases ea : a = d
          · subst ea; rw [g3] at h; cases h; exact upd_same
          · rw [upd_ne ea]; exact s.keep a w (by rw [upd_ne ea]; exact h) n0 no
        · by_cases ea : a = d
          · subst ea; rw [upd_same]; exact fun z => by cases z
          · rw [upd_ne ea]; exact s.live a fun z => h ((nn a).mp z)
      have back : ∀ {ι' : List Addr} {F' : Hp} {O' : Addr → Prop} {H' : Hp} {ρ' : Sl} {M' : Mem} {σ' : L2.St}, F' d = some u → SRO X.K ι' F' O' ρ' M' σ' H' → SRO X.K ι' F' O' ρ' M' σ' (upd H' d u) := fun {ι' F' O' H' ρ' M' σ'} fd r' => by
        have ne : ∀ a, O' a → a ≠ d := fun a h z => by
          have := (r'.own a h).1
          rw [z, fd] at this; cases this
        obtain ⟨S, h1, h2, h3⟩ := r'.ow
        exact ⟨r'.sub.unlock fd, r'.mem.at_upd (some_ne fd), r'.len, r'.fz, fun a h => let ⟨q1, q2, q3⟩ := r'.own a h; ⟨q1, q2, q3.upd (ne a h)⟩, S, fun i m dd h => let ⟨v, q1, q2⟩ := h1 i m dd h; ⟨v, q1, q2.mono (fun _ _ h => h) (fun _ _ h => h) fun a ha => ⟨ha, fun w hw => by rw [upd_ne (ne a (h2 i a ha))]; exact hw⟩⟩, h2, h3⟩
      cases er : forL f (kds.map (·.1)) ρ M with
      | nx ρ6 M6 =>
        rw [er] at z
        exact fun ι' F' O' H' σ' s r' => let ⟨k1, k2⟩ := conv s; ⟨k1, z _ _ _ _ _ k2 (back (s.subF _ _ g2) r')⟩
      | bk ρ6 M6 =>
        rw [er] at z
        exact fun ι' F' O' H' σ' s r' => let ⟨k1, k2⟩ := conv s; ⟨k1, z _ _ _ _ _ k2 (back (s.subF _ _ g2) r')⟩
      | ct ρ6 M6 =>
        rw [er] at z
        exact fun ι' F' O' H' σ' s r' => let ⟨k1, k2⟩ := conv s; ⟨k1, z _ _ _ _ _ k2 (back (s.subF _ _ g2) r')⟩
      | rt d6 M6 =>
        rw [er] at z
        refine fun ι' F' O' H' v T s f m hv hT => let ⟨k1, k2⟩ := conv s; ⟨k1, z _ _ _ _ _ T k2 (f.unlock (s.subF _ _ g2)) (m.at_upd (some_ne (s.subF _ _ g2))) (hv.mono (fun _ _ h => h) (fun _ _ h => h) fun a ha => ⟨ha, fun w hw => ?_⟩) fun a ha => ?_⟩
        · rw [upd_ne (fun z => by
            have := (hT a ha).2.1
            rw [z, s.subF _ _ g2] at this; cases this)]; exact hw
        · obtain ⟨q1, q2, q3, q4⟩ := hT a ha
          exact ⟨q1, q2, q3, q4.upd fun z => by rw [z, s.subF _ _ g2] at q2; cases q2⟩
      | ex c6 ρ6 M6 => rw [er] at z; exact z.elim
      | st => rw [er] at z; exact z.elim
  · exact z.elim
/-- while -/
theorem s_while (w : XS P nm cl n X sc W) {e : Expr} {body : List Stmt} {pos : Pos} {rt : Sl → Mem → VL.R Bool} {rb : Sl → Mem → RS} (ht : PT X e (tT X.K cl W rt)) (hb : PSs X body (tS X.K cl W rb)) :
    PS X (.While e body [] pos) (tS X.K cl W fun ρ M => whileW rt rb ρ M) := by
  refine PS.weak (ps_while w.own ht hb) fun D σ H z => ?_
  obtain ⟨ι, F, O, ρ, M, r, z⟩ := z
  have hz : ∃ m, ResS X.K cl W ι F O σ H (whileL rt rb m ρ M) D := by
    dsimp only at z
    unfold whileW at z
    split at z
    · exact ⟨_, z⟩
    · exact z.elim
  obtain ⟨m0, hz⟩ := hz
  refine ⟨fun m σ H => ∃ ι F O ρ M, SRO X.K ι F O ρ M σ H ∧ ResS X.K cl W ι F O σ H (whileL rt rb m ρ M) D, ⟨m0, ι, F, O, ρ, M, r, hz⟩, ?_⟩
  rintro m σ H ⟨ι, F, O, ρ, M, r, hz⟩
  cases m with
  | zero => exact hz.elim
  | succ m =>
    simp only [whileL] at hz
    refine ⟨ι, F, ρ, M, ⟨O, r⟩, (ResS.to r hz).imp fun t M1 ι1 F1 H1 s1 f1 m1 h => ?_⟩
    have r1 := r.step s1 f1 m1
    cases t with
    | false => exact h ι1 F1 O H1 σ StS.refl r1
    | true =>
      rw [if_pos rfl] at h
      dsimp only
      rw [if_pos rfl]
      refine ⟨fun σ' H' => ∃ ι F O ρ M, SRO X.K ι F O ρ M σ' H' ∧ ResS X.K cl W ι F O σ' H' (whileL rt rb m ρ M) D, fun σ' H' hN => ⟨m, by omega, hN⟩, ι1, F1, O, ρ, M1, r1, ?_⟩
      cases er : rb ρ M1 with
      | nx ρ6 M6 =>
        rw [er] at h
        exact fun ι6 F6 O6 H6 σ6 s6 r6 => ⟨ι6, F6, O6, ρ6, M6, r6, ResS.later h s6⟩
      | ct ρ6 M6 =>
        rw [er] at h
        exact fun ι6 F6 O6 H6 σ6 s6 r6 => ⟨ι6, F6, O6, ρ6, M6, r6, ResS.later h s6⟩
      | bk ρ6 M6 => rw [er] at h; exact h
      | rt d6 M6 => rw [er] at h; exact h
      | ex c6 ρ6 M6 => rw [er] at h; exact h
      | st => rw [er] at h; exact h
theorem sw_sub {e o ek : Expr} {tp : Pos} {l : Nat} {env : Env} : swapsWith e (some (.Subscript o ek tp)) l env = pure false := by
  cases e <;> rfl
/-- d[k] = v -/
theorem s_dset (w : XW P nm cl n X sc W) {i : Nat} {x : Str} {k v : Ex} {ek ev : Expr} {np tp pos : Pos} (h1 : X.N[i]? = some x) (h2 : visB sc x = true) (hk : mE X.N nm k sc ek = true) (hv : mE X.N nm v sc ev = true) :
    PS X (.Assign [.Subscript (.Name x np) ek tp] ev pos) (tS X.K cl W (evS (cfgN P n) (.dset i k v))) := by
  have hu := w.hu
  refine PS.weak (ps_dput (by omega) (s_var w h1 h2) (sE k w hk).1 (sE v w hv).1 sw_sub) fun D0 σ H z => ?_
  obtain ⟨ι, F, O, ρ, M, r, z⟩ := z
  unfold evS at z
  split at z
  · rename_i m t kvs hi
    split at z
    · rename_i hm
      subst hm
      refine ⟨ι, F, ρ, M, ⟨O, r⟩, (ResS.to r z).imp fun d M1 ι1 F1 H1 s1 f1 m1 q1 vv hvv => ?_⟩
      have r1 := r.step s1 f1 m1
      obtain ⟨a, l, hσ, _, _, _⟩ := r1.dict hi
      refine ⟨_, hσ, ι1, F1, ρ, M1, ⟨O, r1⟩, (ResS.to r1 q1).imp fun y M2 ι2 F2 H2 s2 f2 m2 q2 yv hy => ?_⟩
      have r2 := r1.step s2 f2 m2
      split at q2
      · rename_i ok
        obtain ⟨lt, ok⟩ := ok
        obtain ⟨a2, l2, hσ2, at2, rk, _⟩ := r2.dict hi
        rw [hσ] at hσ2; cases hσ2
        have hl := repK_len rk
        rcases key_kind hy ok with ⟨rfl, kk, rfl, rfl⟩ | ⟨rfl, kk, b, rfl, rfl, hb⟩
        · obtain ⟨ks, hks, rfl⟩ := at2.k
          rw [List.length_map] at hl
          have put := repK_put keyD_inj (k := kk) (s2.rep hvv) rk
          obtain ⟨st, r3⟩ := r2.dchange (o := .dK (putK ks kk vv)) hi hσ ⟨_, upd_same, rfl⟩ put
          exact ⟨a, _, rfl, DPut.k hks (by rw [hl]; exact lt), q2 _ _ _ _ _ st r3⟩
        · obtain ⟨ks, hks, rfl⟩ := at2.t
          rw [List.length_map] at hl
          have put := repK_put tkeyD_inj (k := kk) (s2.rep hvv) rk
          obtain ⟨st, r3⟩ := r2.dchange (o := .dT (putK ks kk vv)) hi hσ ⟨_, upd_same, rfl⟩ put
          exact ⟨a, _, rfl, DPut.t hks (f2.tup hb) (by rw [hl]; exact lt), q2 _ _ _ _ _ st r3⟩
      · exact q2.elim
    · exact z.elim
  · exact z.elim
/-- a dict in memory, changed -/
theorem mem_updD {K : PySem.W.Frag} {ι : List Addr} {F H : Hp} {M : Mem} {n : Nat} {a : Addr} {t : Bool} {kds kds' : List (VL.D × VL.D)} {l : List (VL.D × V)} {o : HO} (f : FSub F H) (m : MemRep K ι F M H) (hr : ι[n]? = some a) (em : M[n]? = some (.dic t kds)) (g2 : DicAt (upd H a o) a t l) (g3 : RepK K ι F l kds') :
    Stp ι F H ι F (upd H a o) ∧ FSub F (upd H a o) ∧ MemRep K ι F (M.set n (.dic t kds')) (upd H a o) := by
  have hF : F a = none := (m.at_ n a _ hr em).1
  refine ⟨⟨⟨[], by simp, by simp⟩, fun _ _ h => h, fun _ _ _ h => h, fun b u h nb => ?_, fun b h => ?_⟩, fun b u h => ?_, ⟨by rw [List.length_set]; exact m.len, m.nd, fun k b mo h1 h2 => ?_⟩⟩
  · have z : b ≠ a := fun z => nb (by rw [z]; exact List.mem_of_getElem? hr)
    rw [upd_ne z]; exact h
  · by_cases z : b = a
    · subst z; rw [upd_same]; simp
    · rw [upd_ne z]; exact h
  · have z : b ≠ a := fun z => by rw [z, hF] at h; cases h
    rw [upd_ne z]; exact f b u h
  · by_cases e : n = k
    · subst e
      rw [hr] at h1; cases h1
      rw [List.getElem?_set_self (by exact (List.getElem?_eq_some_iff.mp em).1)] at h2
      cases h2
      exact ⟨hF, l, g2, g3⟩
    · rw [List.getElem?_set_ne e] at h2
      obtain ⟨q1, q2⟩ := m.at_ k b mo h1 h2
      have z : b ≠ a := fun z => by
        subst z
        exact e ((List.getElem?_inj (List.getElem?_eq_some_iff.mp hr).1 m.nd).mp (hr.trans h1.symm))
      exact ⟨q1, q2.mono (fun _ _ h => h) (fun _ _ h => h) fun u h => by rw [upd_ne z]; exact h⟩
theorem s_rset (w : XW P nm cl n X sc W) {e k v : Ex} {eo ek ev : Expr} {tp pos : Pos} (he : mE X.N nm e sc eo = true) (hk : mE X.N nm k sc ek = true) (hv : mE X.N nm v sc ev = true) :
    PS X (.Assign [.Subscript eo ek tp] ev pos) (tS X.K cl W (evS (cfgN P n) (.rset e k v))) := by
  have hu := w.hu
  refine PS.weak (ps_dput (by omega) (sE e w he).1 (sE k w hk).1 (sE v w hv).1 sw_sub) fun D0 σ H z => ?_
  obtain ⟨ι, F, O, ρ, M, r, z⟩ := z
  unfold evS at z
  refine ⟨ι, F, ρ, M, ⟨O, r⟩, (ResS.to r z).imp fun d M1 ι1 F1 H1 s1 f1 m1 q1 vv hvv => ?_⟩
  have r1 := r.step s1 f1 m1
  refine ⟨ι1, F1, ρ, M1, ⟨O, r1⟩, (ResS.to r1 q1).imp fun x M2 ι2 F2 H2 s2 f2 m2 q2 xv hx => ?_⟩
  have r2 := r1.step s2 f2 m2
  cases hx with
  | ref hr =>
    rename_i nn a
    dsimp only at q2
    split at q2
    · rename_i t0 kds0 em0
      refine ⟨ι2, F2, ρ, M2, ⟨O, r2⟩, (ResS.to r2 q2).imp fun y M3 ι3 F3 H3 s3 f3 m3 q3 yv hy => ?_⟩
      have r3 := r2.step s3 f3 m3
      split at q3
      · rename_i t kds em
        split at q3
        · rename_i ok
          obtain ⟨lt, ok⟩ := ok
          have hr3 := s3.ix _ _ hr
          obtain ⟨g1, l, at2, rk⟩ := m3.at_ _ _ _ hr3 em
          have hl := repK_len rk
          have hv3 := s3.rep (s2.rep hvv)
          rcases key_kind hy ok with ⟨rfl, kk, rfl, rfl⟩ | ⟨rfl, kk, b, rfl, rfl, hb⟩
          · obtain ⟨ks, hks, rfl⟩ := at2
            rw [List.length_map] at hl
            have put := repK_put keyD_inj (k := kk) hv3 rk
            obtain ⟨st, f4, m4⟩ := mem_updD (o := .dK (putK ks kk vv)) f3 m3 hr3 em ⟨_, upd_same, rfl⟩ put
            exact ⟨a, _, rfl, DPut.k hks (by rw [hl]; exact lt), q3 _ _ _ _ _ st.toS (r3.step st f4 m4)⟩
          · obtain ⟨ks, hks, rfl⟩ := at2
            rw [List.length_map] at hl
            have put := repK_put tkeyD_inj (k := kk) hv3 rk
            obtain ⟨st, f4, m4⟩ := mem_updD (o := .dT (putK ks kk vv)) f3 m3 hr3 em ⟨_, upd_same, rfl⟩ put
            exact ⟨a, _, rfl, DPut.t hks (f3.tup hb) (by rw [hl]; exact lt), q3 _ _ _ _ _ st.toS (r3.step st f4 m4)⟩
        · exact q3.elim
      · exact q3.elim
    · exact q2.elim
  | _ => exact q2.elim
theorem erase_last {α : Type} : ∀ xs : List α, xs.eraseIdx (xs.length - 1) = xs.dropLast
  | [] => rfl
  | [_] => rfl
  | x :: y :: r => by
    have := erase_last (y :: r)
    simpa using this
theorem s_pop (w : XW P nm cl n X sc W) {i : Nat} {ps : List Ex} {p : Pt} {k : Option Ex} {tg o : Expr} {es : List Expr} {ap cp pos : Pos} (htg : (match tg with | .Name _ _ => true | .Tuple _ _ _ => true | _ => false) = true) (hg : PG X tg (tG X.K p)) (hl : (ap.endLine == cp.line) = true)
    (ho : mPth X.N nm sc i ps.reverse o = true) (he : mPop X.N nm sc k es = true) :
    PS X (.Assign [tg] (.Call (.Attribute o "pop" ap) es [] cp) pos) (tS X.K cl W (evS (cfgN P n) (.pop p i ps k))) := by
  have hpath := s_path w ho
  rw [List.reverse_reverse] at hpath
  have h1 : (assignEach [tg] X.env).map (·.2) = [assign tg X.env] := by cases tg <;> first | rfl | cases htg
  have hw : swappedStores [tg] (.Call (.Attribute o "pop" ap) es [] cp) X.env = pure none := by cases tg <;> first | rfl | cases htg
  have common : ∀ {ι : List Addr} {F : Hp} {O : Addr → Prop} {ρ : Sl} {M : Mem} {σ : L2.St} {H : Hp} {D0 : Ends}, SRO X.K ι F O ρ M σ H → ResS X.K cl W ι F O σ H (evS (cfgN P n) (.pop p i ps k) ρ M) D0 →
      ∃ m d ks M1 v a, ρ[i]? = some (.ow m d) ∧ evEs (cfgN P n) ps ρ M = .ok ks M1 ∧ σ[i]? = some (some v) ∧ PathO ι H v ks (.ref a) ∧ dnP m ks ≠ .z ∧ (∃ ds, getP d ks = some (.lst ds)) ∧ ResS X.K cl W ι F O σ H ((evE (cfgN P n) (k.getD (.lit (.int (-1)))) ρ M1).to ρ fun x M2 => (match getP d ks, x with
        | some (.lst ds), .int j => (match L2.ixN ds.length j with
          | some n => (match ds[n]? with
            | some y => if y.isLD = false ∧ -(2 ^ 63) ≤ j ∧ j < 2 ^ 63 then (match bindP p y (ρ.set i (.ow m (setP d ks (.lst (ds.eraseIdx n))))) with
              | some ρ' => .nx ρ' M2
              | none => .st) else .st
            | none => .st)
          | none => .st)
        | _, _ => .st)) D0 := fun {ι F O ρ M σ H D0} r z => by
    unfold evS at z
    split at z
    · rename_i m d hi
      cases e1 : evEs (cfgN P n) ps ρ M with
      | ex _ _ => rw [e1] at z; exact z.elim
      | st => rw [e1] at z; exact z.elim
      | ok ks M1 =>
        rw [e1, R.nox_ok, R.to_ok] at z
        split at z
        · rename_i hb
          obtain ⟨v, a, vs0, ds0, ev, p0, g0, hg0, hm0⟩ := r.path hi hb
          exact ⟨m, d, ks, M1, v, a, hi, rfl, ev, p0, hm0, ⟨_, hg0⟩, z⟩
        · exact z.elim
    · exact z.elim
  cases k with
  | none =>
    cases es with
    | cons _ _ => cases he
    | nil =>
      have hp := pe_bm0 (X := X) (cpos := cp) (apos := ap) PySem.F.plainAttrs_list PySem.F.slot_list_pop PySem.F.type_list_pop mt_pop hpath (mPth_base ho) hl
      refine PS.weak (ps_asg hp hg (swt_no rfl) hw h1) fun D σ H z => ?_
      obtain ⟨ι, F, O, ρ, M, r, z⟩ := z
      obtain ⟨m, d, ks, M1, v, a, hi, e1, ev, p0, hm0, ⟨ds0, hg0⟩, z⟩ := common r z
      refine ⟨ι, F, ρ, M, ks, M1, v, .ref a, ⟨O, r⟩, e1, ev, p0, fun ι1 F1 H1 s1 f1 m1 => ?_⟩
      have r1 := r.step s1 f1 m1
      have z := ResS.later (σ1 := σ) z s1.toS
      simp only [Option.getD_none, evE, R.to_ok] at z
      obtain ⟨vs, j, n', y, ej, g1, _, _, en, ey, q⟩ := s_popT (k := .lit .non) (st := .Pass pos) (t := tNilE) (M1 := M1) (ps := ps) r1 hi hm0 ev (p0.step s1) z
      cases ej
      refine ⟨.inl ⟨rfl, vs, .inl (.inl g1)⟩, a, vs, y, rfl, rfl, g1, ?_, ?_⟩
      · unfold L2.ixN at en
        rw [if_neg (by decide)] at en
        split at en
        · cases en; rw [show vs.length - 1 = (-1 + (vs.length : Int)).toNat by omega]; exact ey
        · cases en
      · have : vs.eraseIdx n' = vs.dropLast := by
          unfold L2.ixN at en
          rw [if_neg (by decide)] at en
          split at en
          · cases en
            rw [show (-1 + (vs.length : Int)).toNat = vs.length - 1 by omega, erase_last]
          · cases en
        rw [this] at q
        exact q
  | some x =>
    cases es with
    | nil => cases he
    | cons ea es =>
      cases es with
      | cons _ _ => cases he
      | nil =>
        have he : (nst ea && mE X.N nm x sc ea) = true := he
        rw [Bool.and_eq_true] at he
        have hp := pe_bm (X := X) (cpos := cp) (apos := ap) PySem.F.plainAttrs_list PySem.F.slot_list_pop PySem.F.type_list_pop mt_popAt hpath (pa_cons (sE x w he.2).1 pa_nil (star_ok he.1)) (mPth_base ho) (by rw [star_ok he.1]; rfl) hl (star_ok he.1) rfl
        refine PS.weak (ps_asg hp hg (swt_no rfl) hw h1) fun D σ H z => ?_
        obtain ⟨ι, F, O, ρ, M, r, z⟩ := z
        obtain ⟨m, d, ks, M1, v, a, hi, e1, ev, p0, hm0, ⟨ds0, hg0⟩, z⟩ := common r z
        refine ⟨ι, F, ρ, M, ks, M1, v, .ref a, ⟨O, r⟩, e1, ev, p0, fun ι1 F1 H1 s1 f1 m1 => ?_⟩
        have r1 := r.step s1 f1 m1
        obtain ⟨vs1, T1, g1, _, _⟩ := r1.there hi hg0 hm0 ev (p0.step s1)
        have z := ResS.later (σ1 := σ) z s1.toS
        simp only [Option.getD_some] at z
        refine ⟨.inl ⟨rfl, vs1, .inl (.inl g1)⟩, ι1, F1, ρ, M1, ⟨O, r1⟩, ?_⟩
        cases e3 : evE (cfgN P n) x ρ M1 with
        | st => rw [e3] at z; exact z
        | ex c M2 => rw [e3] at z; exact fun ι2 F2 H2 s2 f2 m2 => z _ _ _ _ _ s2.toS (r1.step s2 f2 m2)
        | ok u M2 =>
          rw [e3, R.to_ok] at z
          intro ι2 F2 H2 s2 f2 m2 w' hw'
          have z := ResS.later (σ1 := σ) z s2.toS
          obtain ⟨vs, j, n', y, ej, g1, hb1, hb2, en, ey, q⟩ := s_popT (k := .lit .non) (st := .Pass pos) (t := tNilE) (M1 := M1) (ps := ps) (r1.step s2 f2 m2) hi hm0 ev ((p0.step s1).step s2) z
          subst ej
          rw [hw'.getInt]
          exact ⟨a, vs, j, n', y, rfl, rfl, g1, hb1, hb2, (ixN_seq en).1, ey, q⟩
theorem s_popU {i : Nat} {ps : List Ex} {ι : List Addr} {F : Hp} {O : Addr → Prop} {ρ : Sl} {M2 : Mem} {σ : L2.St} {H : Hp} {D0 : Ends} {m : Md} {d x : D} {ks : List D} {v : V} {a : Addr} (r : SRO X.K ι F O ρ M2 σ H) (hi : ρ[i]? = some (.ow m d)) (hm : dnP m ks ≠ .z) (hv : σ[i]? = some (some v)) (hp : PathO ι H v ks (.ref a))
    (z : ResS X.K cl W ι F O σ H (match getP d ks, x with
        | some (.lst ds), .int j => (match L2.ixN ds.length j with
          | some n => if -(2 ^ 63) ≤ j ∧ j < 2 ^ 63 then .nx (ρ.set i (.ow m (setP d ks (.lst (ds.eraseIdx n))))) M2 else .st
          | none => .st)
        | _, _ => .st) D0) :
    ∃ vs j n y, x = .int j ∧ H a = some (.lst vs) ∧ -(2 ^ 63) ≤ j ∧ j < 2 ^ 63 ∧ L2.ixN vs.length j = some n ∧ vs[n]? = some y ∧ D0.nx σ (upd H a (.lst (vs.eraseIdx n))) := by
  split at z
  · rename_i ds j hg
    obtain ⟨vs, T0, g1, g2, g3⟩ := r.there hi hg hm hv hp
    split at z
    · rename_i n' en
      split at z
      · rename_i hc
        obtain ⟨h1, h2⟩ := hc
        have hlt : n' < vs.length := by
          have := (ixN_seq en).2.1
          rw [g2.length]; exact this
        refine ⟨vs, j, n', vs[n'], rfl, g1, h1, h2, by rw [g2.length]; exact en, List.getElem?_eq_getElem hlt, ?_⟩
        have ch := r.change (ds' := ds.eraseIdx n') (vs' := vs.eraseIdx n') (U := fun _ => False) (m' := dnP m ks) hi hg hm hv hp ⟨fun _ h => h.elim⟩ hm (fun _ => rfl) fun vs1 T1 q1 q2 q3 => by
          rw [g1] at q1; cases q1
          exact ⟨T1, q2.erase n', fun _ h => .inl h⟩
        have em : (if ks.isEmpty = true then dnP m ks else m) = m := by
          cases ks <;> rfl
        rw [em] at ch
        exact z _ _ _ _ _ ((StS.refl.or (T := fun _ => False) fun _ h => h.elim).trans ch.1) ch.2
      · exact z.elim
    · exact z.elim
  · exact z.elim
theorem s_popS (w : XW P nm cl n X sc W) {i : Nat} {ps : List Ex} {k : Option Ex} {o : Expr} {es : List Expr} {ap cp pos : Pos} (hl : (ap.endLine == cp.line) = true)
    (ho : mPth X.N nm sc i ps.reverse o = true) (he : mPop X.N nm sc k es = true) :
    PS X (.Expr (.Call (.Attribute o "pop" ap) es [] cp) pos) (tS X.K cl W (evS (cfgN P n) (.popS i ps k))) := by
  have hpath := s_path w ho
  rw [List.reverse_reverse] at hpath
  have common : ∀ {ι : List Addr} {F : Hp} {O : Addr → Prop} {ρ : Sl} {M : Mem} {σ : L2.St} {H : Hp} {D0 : Ends}, SRO X.K ι F O ρ M σ H → ResS X.K cl W ι F O σ H (evS (cfgN P n) (.popS i ps k) ρ M) D0 →
      ∃ m d ks M1 v a, ρ[i]? = some (.ow m d) ∧ evEs (cfgN P n) ps ρ M = .ok ks M1 ∧ σ[i]? = some (some v) ∧ PathO ι H v ks (.ref a) ∧ dnP m ks ≠ .z ∧ (∃ ds, getP d ks = some (.lst ds)) ∧ ResS X.K cl W ι F O σ H ((evE (cfgN P n) (k.getD (.lit (.int (-1)))) ρ M1).to ρ fun x M2 => (match getP d ks, x with
        | some (.lst ds), .int j => (match L2.ixN ds.length j with
          | some n => if -(2 ^ 63) ≤ j ∧ j < 2 ^ 63 then .nx (ρ.set i (.ow m (setP d ks (.lst (ds.eraseIdx n))))) M2 else .st
          | none => .st)
        | _, _ => .st)) D0 := fun {ι F O ρ M σ H D0} r z => by
    unfold evS at z
    split at z
    · rename_i m d hi
      cases e1 : evEs (cfgN P n) ps ρ M with
      | ex _ _ => rw [e1] at z; exact z.elim
      | st => rw [e1] at z; exact z.elim
      | ok ks M1 =>
        rw [e1, R.nox_ok, R.to_ok] at z
        split at z
        · rename_i hb
          obtain ⟨v, a, vs0, ds0, ev, p0, g0, hg0, hm0⟩ := r.path hi hb
          exact ⟨m, d, ks, M1, v, a, hi, rfl, ev, p0, hm0, ⟨_, hg0⟩, z⟩
        · exact z.elim
    · exact z.elim
  cases k with
  | none =>
    cases es with
    | cons _ _ => cases he
    | nil =>
      have hp := pe_bm0 (X := X) (cpos := cp) (apos := ap) PySem.F.plainAttrs_list PySem.F.slot_list_pop PySem.F.type_list_pop mt_pop hpath (mPth_base ho) hl
      refine PS.weak (ps_expr hp rfl) fun D σ H z => ?_
      obtain ⟨ι, F, O, ρ, M, r, z⟩ := z
      obtain ⟨m, d, ks, M1, v, a, hi, e1, ev, p0, hm0, ⟨ds0, hg0⟩, z⟩ := common r z
      refine ⟨ι, F, ρ, M, ks, M1, v, .ref a, ⟨O, r⟩, e1, ev, p0, fun ι1 F1 H1 s1 f1 m1 => ?_⟩
      have r1 := r.step s1 f1 m1
      have z := ResS.later (σ1 := σ) z s1.toS
      simp only [Option.getD_none, evE, R.to_ok] at z
      obtain ⟨vs, j, n', y, ej, g1, _, _, en, ey, q⟩ := s_popU (ps := ps) r1 hi hm0 ev (p0.step s1) z
      cases ej
      refine ⟨.inl ⟨rfl, vs, .inl (.inl g1)⟩, a, vs, y, rfl, rfl, g1, ?_, ?_⟩
      · unfold L2.ixN at en
        rw [if_neg (by decide)] at en
        split at en
        · cases en; rw [show vs.length - 1 = (-1 + (vs.length : Int)).toNat by omega]; exact ey
        · cases en
      · have : vs.eraseIdx n' = vs.dropLast := by
          unfold L2.ixN at en
          rw [if_neg (by decide)] at en
          split at en
          · cases en
            rw [show (-1 + (vs.length : Int)).toNat = vs.length - 1 by omega, erase_last]
          · cases en
        rw [this] at q
        exact q
  | some x =>
    cases es with
    | nil => cases he
    | cons ea es =>
      cases es with
      | cons _ _ => cases he
      | nil =>
        have he : (nst ea && mE X.N nm x sc ea) = true := he
        rw [Bool.and_eq_true] at he
        have hp := pe_bm (X := X) (cpos := cp) (apos := ap) PySem.F.plainAttrs_list PySem.F.slot_list_pop PySem.F.type_list_pop mt_popAt hpath (pa_cons (sE x w he.2).1 pa_nil (star_ok he.1)) (mPth_base ho) (by rw [star_ok he.1]; rfl) hl (star_ok he.1) rfl
        refine PS.weak (ps_expr hp rfl) fun D σ H z => ?_
        obtain ⟨ι, F, O, ρ, M, r, z⟩ := z
        obtain ⟨m, d, ks, M1, v, a, hi, e1, ev, p0, hm0, ⟨ds0, hg0⟩, z⟩ := common r z
        refine ⟨ι, F, ρ, M, ks, M1, v, .ref a, ⟨O, r⟩, e1, ev, p0, fun ι1 F1 H1 s1 f1 m1 => ?_⟩
        have r1 := r.step s1 f1 m1
        obtain ⟨vs1, T1, g1, _, _⟩ := r1.there hi hg0 hm0 ev (p0.step s1)
        have z := ResS.later (σ1 := σ) z s1.toS
        simp only [Option.getD_some] at z
        refine ⟨.inl ⟨rfl, vs1, .inl (.inl g1)⟩, ι1, F1, ρ, M1, ⟨O, r1⟩, ?_⟩
        cases e3 : evE (cfgN P n) x ρ M1 with
        | st => rw [e3] at z; exact z
        | ex c M2 => rw [e3] at z; exact fun ι2 F2 H2 s2 f2 m2 => z _ _ _ _ _ s2.toS (r1.step s2 f2 m2)
        | ok u M2 =>
          rw [e3, R.to_ok] at z
          intro ι2 F2 H2 s2 f2 m2 w' hw'
          have z := ResS.later (σ1 := σ) z s2.toS
          obtain ⟨vs, j, n', y, ej, g1, hb1, hb2, en, ey, q⟩ := s_popU (ps := ps) (r1.step s2 f2 m2) hi hm0 ev ((p0.step s1).step s2) z
          subst ej
          rw [hw'.getInt]
          exact ⟨a, vs, j, n', y, rfl, rfl, g1, hb1, hb2, (ixN_seq en).1, ey, q⟩
/-- f(..).clear() -/
theorem s_clr (w : XW P nm cl n X sc W) {a : Ax} {o : Expr} {ap cp pos : Pos} (hl : (ap.endLine == cp.line) = true) (hc : callE o = true) (ho : mA X.N nm a sc o = true) :
    PS X (.Expr (.Call (.Attribute o "clear" ap) [] [] cp) pos) (tS X.K cl W (evS (cfgN P n) (.clr a))) := by
  have hp := pe_bm0 (X := X) (cpos := cp) (apos := ap) PySem.F.plainAttrs_list PySem.F.slot_list_clear PySem.F.type_list_clear mt_clear (sA a w ho) (callE_base hc) hl
  refine PS.weak (ps_expr hp rfl) fun D σ H z => ?_
  obtain ⟨ι, F, O, ρ, M, r, z⟩ := z
  unfold evS at z
  refine ⟨ι, F, ρ, M, ⟨O, r⟩, ?_⟩
  cases e1 : evA (cfgN P n) a ρ M with
  | st => rw [e1] at z; exact z
  | ex c M1 => rw [e1] at z; exact fun ι1 F1 H1 s1 f1 m1 => z _ _ _ _ _ s1.toS (r.step s1 f1 m1)
  | ok d M1 =>
    rw [e1, R.to_ok] at z
    intro ι1 F1 H1 s1 f1 m1 v T hd hT
    have r1 := r.step s1 f1 m1
    split at z
    · exact z.elim
    · rename_i md ds hne
      cases hd with
      | fz rr e => rcases e with e | e; exact (hne e).elim; cases e
      | lst k1 k2 k3 k4 k5 k6 =>
        rename_i a' vs T'
        obtain ⟨g1, g2, g3, g4⟩ := hT.at_ a' k3
        have no : ¬ O a' := fun z => (r.own a' z).2.2.ne g3
        refine ⟨.inl ⟨rfl, vs, .inl (.inl k2)⟩, a', vs, rfl, rfl, k2, ?_⟩
        have hH : H a' = none := g3
        refine z ι1 F1 O _ σ ⟨s1.preS, s1.subF, fun b l nb _ e => s1.newF b l nb e, fun b hb => .inr hb, fun b u hu nb _ => ?_, fun b hb => ?_⟩ (r1.updD g1 g2 no)
        · rw [upd_ne (ne_of_none hu hH)]; exact s1.keep b u hu nb
        · rw [upd_ne (fun z => hb (by rw [z]; exact hH))]; exact s1.live b hb
    · exact z.elim
theorem swap_compG {ee : Expr} {gs : List Comprehension} {scope : Scope} {lpos tp pos : Pos} {x : Str} {i : Nat} {t : TE} (w : XW P nm cl n X sc W) (h1 : X.N[i]? = some x) (l : L2.Loc X.env.scope x) (f : X.fn x = true ∨ X.env.scope.names.lookup x = some .local)
    (g1 : ∀ pos, PE X (.ListComp ee gs scope pos) t)
    (g2 : ∀ {i : Nat} {y : Str} {py pos spos : Pos}, X.N[i]? = some y → X.env.scope.names.lookup y = some .local → swapsWith (.ListComp ee gs scope pos) (some (.Name y py)) spos.line X.env = pure true → PS X (.Assign [.Name y py] (.ListComp ee gs scope pos) spos) (tAsg t (gName i))) :
    PS X (.Assign [.Name x tp] (.ListComp ee gs scope lpos) pos) (tAsg t (gName i)) := by
  cases hsw : (X.env.blockKind == .function && X.env.kindOf x == some .local && tp.line == lpos.line && !(scope.names.any fun (n, k) => n == x && (k == .local || k == .cell))) with
  | true =>
    have hl : X.env.scope.names.lookup x = some .local := by
      simp only [Bool.and_eq_true] at hsw
      have := hsw.1.1.2
      simpa [Env.kindOf] using this
    exact g2 h1 hl (by
      show pure _ = pure true
      rw [← hsw]
      rfl)
  | false =>
    exact ps_set w.nd h1 l (g1 lpos) (by
      show pure _ = pure false
      rw [← hsw]
      rfl) f
theorem swap_comp {ee tg iter : Expr} {ifs : List Expr} {scope : Scope} {lpos tp pos : Pos} {x : Str} {i : Nat} {t : TE} (w : XW P nm cl n X sc W) (h1 : X.N[i]? = some x) (l : L2.Loc X.env.scope x) (f : X.fn x = true ∨ X.env.scope.names.lookup x = some .local)
    (g1 : ∀ pos, PE X (.ListComp ee [⟨tg, iter, ifs, 0⟩] scope pos) t)
    (g2 : ∀ {i : Nat} {y : Str} {py pos spos : Pos}, X.N[i]? = some y → X.env.scope.names.lookup y = some .local → swapsWith (.ListComp ee [⟨tg, iter, ifs, 0⟩] scope pos) (some (.Name y py)) spos.line X.env = pure true → PS X (.Assign [.Name y py] (.ListComp ee [⟨tg, iter, ifs, 0⟩] scope pos) spos) (tAsg t (gName i))) :
    PS X (.Assign [.Name x tp] (.ListComp ee [⟨tg, iter, ifs, 0⟩] scope lpos) pos) (tAsg t (gName i)) := swap_compG w h1 l f g1 g2
theorem assign_named {i : Nat} {x : Str} {ev : Expr} {tp pos : Pos} (w : XW P nm cl n X sc W) (h1 : X.N[i]? = some x) (h2 : locB sc x = true) : ∀ {e : Ex}, mE X.N nm e sc ev = true → noDc e = true →
    ∃ t, PS X (.Assign [.Name x tp] ev pos) (tAsg t (gName i)) ∧ (∀ σ H Q, tE X.K cl W (evE (cfgN P n) e) σ H Q → t σ H Q)
  | .bor a, h, hd => by
    unfold mE at h
    obtain ⟨t, q1, q2⟩ := assign_named w h1 h2 h (by simpa only [noDc] using hd)
    refine ⟨t, q1, fun σ H Q z => q2 σ H Q (tE_bor ?_)⟩
    obtain ⟨ι, F, ρ, M, r, z⟩ := z
    simp only [evE] at z
    exact ⟨ι, F, ρ, M, r, z⟩
  | .look a, h, hd => by
    unfold mE at h
    obtain ⟨t, q1, q2⟩ := assign_named w h1 h2 h (by simpa only [noDc] using hd)
    refine ⟨t, q1, fun σ H Q z => q2 σ H Q (tE_look ?_)⟩
    obtain ⟨ι, F, ρ, M, r, z⟩ := z
    simp only [evE] at z
    exact ⟨ι, F, ρ, M, r, z⟩
  | e, h, hd => by
    obtain ⟨l, f⟩ := w.loc h2
    by_cases hc : compB ev = true
    · cases e <;> try (exfalso; unfold mE at h; cases ev <;> first | (cases h; done) | (cases hc; done) | (cases hd; done))
      rotate_right
      · rename_i elt p k args conds own p2 k2 args2 conds2 own2
        have h0 := h
        unfold mE at h
        split at h
        · rename_i q eq
          obtain ⟨lpos, rfl⟩ := c2Of_eq eq
          obtain ⟨t, g1, g2, g3⟩ := comp2Of w (pos := lpos) (sE elt) (fun y hy => by
            intro X sc W e w h
            exact sE y w h) (fun y hy => by
            intro X sc W e w h
            exact sE y w h) (fun a ha => by
            intro X sc W e w h
            exact sE a w h) (sEs args) (fun a ha => by
            intro X sc W e w h
            exact sE a w h) (sEs args2) h0
          exact ⟨t, swap_compG w h1 l f g1 g2, fun σ H Q z => g3 σ H Q (tL_of z)⟩
        · cases h
      · rename_i elt p k args conds own
        have h0 := h
        unfold mE at h
        split at h
        · split at h
          · rename_i ee scope lpos _ tg iter ifs
            obtain ⟨t, g1, g2, g3⟩ := compOf w (pos := lpos) (sE elt) (fun y hy => by
              intro X sc W e w h
              exact sE y w h) (fun a ha => by
              intro X sc W e w h
              exact sE a w h) (sEs args) h0
            exact ⟨t, swap_comp w h1 l f g1 g2, fun σ H Q z => g3 σ H Q (tL_of z)⟩
          · cases h
        · cases h
      · rename_i a
        unfold mE at h
        obtain ⟨t, q1, q2⟩ := assign_named w h1 h2 h (by simpa only [noDc] using hd)
        refine ⟨t, q1, fun σ H Q z => q2 σ H Q (tE_bor ?_)⟩
        obtain ⟨ι, F, ρ, M, r, z⟩ := z
        simp only [evE] at z
        exact ⟨ι, F, ρ, M, r, z⟩
      · rename_i a
        unfold mE at h
        obtain ⟨t, q1, q2⟩ := assign_named w h1 h2 h (by simpa only [noDc] using hd)
        refine ⟨t, q1, fun σ H Q z => q2 σ H Q (tE_look ?_)⟩
        obtain ⟨ι, F, ρ, M, r, z⟩ := z
        simp only [evE] at z
        exact ⟨ι, F, ρ, M, r, z⟩
    · have hc : compB ev = false := by simpa using hc
      exact ⟨_, ps_set w.nd h1 l (sE e w h).1 (sw_no hc) f, fun _ _ _ z => z⟩
/-- a thing of one's own is stored in a name -/
theorem own_named {i : Nat} {x : Str} {ev : Expr} {tp pos : Pos} (w : XW P nm cl n X sc W) (h1 : X.N[i]? = some x) (h2 : locB sc x = true) : ∀ {e : Ax}, mA X.N nm e sc ev = true →
    ∃ t, PS X (.Assign [.Name x tp] ev pos) (tAsg t (gName i)) ∧ ∀ σ H Q, tO X.K cl W (evA (cfgN P n) e) σ H Q → t σ H Q
  | .bor a, h => by
    unfold mA at h
    obtain ⟨t, q1, q2⟩ := own_named w h1 h2 h
    refine ⟨t, q1, fun σ H Q z => q2 σ H Q (tO_bor ?_)⟩
    obtain ⟨ι, F, ρ, M, r, z⟩ := z
    simp only [evA] at z
    exact ⟨ι, F, ρ, M, r, z⟩
  | .look a, h => by
    unfold mA at h
    obtain ⟨t, q1, q2⟩ := own_named w h1 h2 h
    refine ⟨t, q1, fun σ H Q z => q2 σ H Q (tO_look ?_)⟩
    obtain ⟨ι, F, ρ, M, r, z⟩ := z
    simp only [evA] at z
    exact ⟨ι, F, ρ, M, r, z⟩
  | .dn a, h => by
    unfold mA at h
    obtain ⟨t, q1, q2⟩ := own_named w h1 h2 h
    refine ⟨t, q1, fun σ H Q z => q2 σ H Q (tO_dn ?_)⟩
    obtain ⟨ι, F, ρ, M, r, z⟩ := z
    simp only [evA] at z
    exact ⟨ι, F, ρ, M, r, z⟩
  | .e a, h => by
    unfold mA at h
    rw [Bool.and_eq_true] at h
    obtain ⟨t, q1, q2⟩ := assign_named (tp := tp) (pos := pos) w h1 h2 h.1 h.2
    refine ⟨t, q1, fun σ H Q z => q2 σ H Q (tO_e ?_)⟩
    obtain ⟨ι, F, ρ, M, r, z⟩ := z
    simp only [evA] at z
    exact ⟨ι, F, ρ, M, r, z⟩
  | .comp elt p k args conds own, h => by
    obtain ⟨l, f⟩ := w.loc h2
    have h0 := h
    unfold mA at h
    split at h
    · split at h
      · rename_i ee scope lpos _ tg iter ifs
        obtain ⟨t, g1, g2, g3⟩ := compOfA w (pos := lpos) (sA elt) h0
        exact ⟨t, swap_comp w h1 l f g1 g2, g3⟩
      · cases h
    · cases h
  | .tup as, h => by
    obtain ⟨l, f⟩ := w.loc h2
    have hc : compB ev = false := by unfold mA at h; cases ev <;> first | rfl | cases h
    exact ⟨_, ps_set w.nd h1 l (sA _ w h) (sw_no hc) f, fun _ _ _ z => z⟩
  | .lst as, h => by
    obtain ⟨l, f⟩ := w.loc h2
    have hc : compB ev = false := by unfold mA at h; cases ev <;> first | rfl | cases h
    exact ⟨_, ps_set w.nd h1 l (sA _ w h) (sw_no hc) f, fun _ _ _ z => z⟩
  | .mcall k m g a xs, h => by
    obtain ⟨l, f⟩ := w.loc h2
    have hc : compB ev = false := by unfold mA mE at h; cases ev <;> first | rfl | cases h
    exact ⟨_, ps_set w.nd h1 l (sA _ w h) (sw_no hc) f, fun _ _ _ z => z⟩
  | .dict0 _, h => by
    obtain ⟨l, f⟩ := w.loc h2
    have hc : compB ev = false := by unfold mA at h; cases ev <;> first | rfl | cases h
    exact ⟨_, ps_set w.nd h1 l (sA _ w h) (sw_no hc) f, fun _ _ _ z => z⟩
  | .ix a k, h => by
    obtain ⟨l, f⟩ := w.loc h2
    have hc : compB ev = false := by unfold mA at h; cases ev <;> first | rfl | cases h
    exact ⟨_, ps_set w.nd h1 l (sA _ w h) (sw_no hc) f, fun _ _ _ z => z⟩
  | .call g xs, h => by
    obtain ⟨l, f⟩ := w.loc h2
    have hc : compB ev = false := by unfold mA mE at h; cases ev <;> first | rfl | cases h
    exact ⟨_, ps_set w.nd h1 l (sA _ w h) (sw_no hc) f, fun _ _ _ z => z⟩
  | .fr x, h => by
    obtain ⟨l, f⟩ := w.loc h2
    have hc : compB ev = false := by
      unfold mA at h
      rw [Bool.and_eq_true] at h
      obtain ⟨h, hf⟩ := h
      cases x <;> try (cases hf; done)
      all_goals (unfold mE at h; cases ev <;> first | rfl | cases h)
    exact ⟨_, ps_set w.nd h1 l (sA _ w h) (sw_no hc) f, fun _ _ _ z => z⟩
end
end VL

/-! VH: the clauses of a try -/
namespace VL
open PySem PySem.Spec PyProof.Rows L2
section
variable {P : Prog} {nm : Nms} {cl : Nat → Value} {n : Nat} {X : Cx} {sc : Scope} {W : WXX}
/-- what comes of a clause's expression: d, whatever is laid meanwhile; the error's name holds a -/
def tHv (K : PySem.W.Frag) (a : Addr) (ni : Option Nat) (d : D) : TE := fun σ H Q => (∀ i, ni = some i → σ[i]? = some (some (.ref a))) ∧ ∃ ι F M, FSub F H ∧ MemRep K ι F M H ∧
  ∀ F' H' v, Stp ι F H ι F' H' → FSub F' H' → MemRep K ι F' M H' → Rep K ι F' v d → Q v H'
def tHvs (K : PySem.W.Frag) (a : Addr) (ni : Option Nat) (ds : List D) : TA := fun σ H Q => (∀ i, ni = some i → σ[i]? = some (some (.ref a))) ∧ ∃ ι F M, FSub F H ∧ MemRep K ι F M H ∧
  ∀ F' H' vs, Stp ι F H ι F' H' → FSub F' H' → MemRep K ι F' M H' → Reps K ι F' vs ds → Q vs H'
theorem lit_flat {d : D} {k : Const} (h : litB d k = true) (K : PySem.W.Frag) (ι : List Addr) (F : Hp) : ∃ v, Rep K ι F v d := by
  unfold litB at h
  split at h
  · exact ⟨_, .non⟩
  · exact ⟨_, .bl _⟩
  · exact ⟨_, .int _⟩
  · exact ⟨_, .str _⟩
  · cases h
theorem hvEs_len {sub : Nat → Nat → Option Bool} {k : Nat} : ∀ {hs : List Hx} {ds : List D}, hvEs sub k hs = some ds → ds.length = hs.length
  | [], ds, h => by simp only [hvEs, Option.some.injEq] at h; subst h; rfl
  | h :: hs, ds, e => by
    simp only [hvEs] at e
    split at e
    · rename_i d ds' e1 e2
      cases e
      simp [hvEs_len e2]
    · cases e
theorem h_lit {a : Addr} {ni : Option Nat} {d : D} {k : Const} {j pos} (h : litB d k = true) : PE X (.Constant k j pos) (tHv X.K a ni d) := by
  have fin : ∀ {v : V} {σ : L2.St} {H : Hp} {Q : VK}, (∀ ι F, Rep X.K ι F v d) → tHv X.K a ni d σ H Q → Q v H := fun hv ⟨_, ι, F, M, f, m, q⟩ => q F _ _ Stp.refl f m (hv _ _)
  unfold litB at h
  split at h
  · exact PE.weak pe_non fun σ H Q q => fin (fun _ _ => .non) q
  · rename_i x y
    have e : x = y := by simpa using h
    subst e
    exact PE.weak pe_bl fun σ H Q q => fin (fun _ _ => .bl _) q
  · have e := of_decide_eq_true h
    subst e
    exact PE.weak pe_int fun σ H Q q => fin (fun _ _ => .int _) q
  · have e := of_decide_eq_true h
    subst e
    exact PE.weak pe_str fun σ H Q q => fin (fun _ _ => .str _) q
  · cases h
/-- where a clause stands: the names as around it, the error at hand -/
structure XH (P : Prog) (nm : Nms) (cl : Nat → Value) (n : Nat) (X : Cx) (sc : Scope) (a D : Addr) (oe : Obj) (pn : List (Addr × Obj)) : Prop where
  W : ∃ W, XW P nm cl n X sc W
  z : Zc (.ref D) none oe
  v : ∃ vs, oe.data = .fields vs
  c : L2.ExcC X.K D
  ve : PySem.W.kitOne X.K (.ref D) (.type "ValueError") = some true
section
variable {a D0 : Addr} {oe : Obj} {pn : List (Addr × Obj)}
theorem h_isi (w : XH P nm cl n X sc a D0 oe pn) {x z y : Str} {p1 p2 p3 pos : Pos} {ni : Nat} {cV : V} {cv : Value} {b : Bool} (hx : x = "isinstance") (gx : glB sc x = true) (hz : X.N[ni]? = some z) (vz : visB sc z = true)
    (hy : PE (X.suite a ((a, oe) :: pn)) (.Name y p3) (fun σ H Q => Q cV H)) (hc : ∀ u, RelV cV u → u = cv) (hk : PySem.W.kitOne X.K (.ref D0) cv = some b) :
    PE (X.suite a ((a, oe) :: pn)) (.Call (.Name x p1) [.Name z p2, .Name y p3] [] pos) (tHv X.K a (some ni) (.bl b)) := by
  obtain ⟨W, xw⟩ := w.W
  obtain ⟨g, o⟩ := xw.gl gx
  obtain ⟨vv, oz⟩ := xw.vis vz
  obtain ⟨a1, a2, a3⟩ := okN_d o
  obtain ⟨b1, b2, b3⟩ := okN_d oz
  subst hx
  refine PE.weak (pe_callB (X := X.suite a ((a, oe) :: pn)) (call_isE w.c w.z w.v) g (xw.fx.blt _ (by simp [bltNames])) (by rfl) (pa_cons (pe_var hz vv b1 b2) (pa_cons hy pa_nil))) fun σ H Q q => ?_
  obtain ⟨hs, ι, F, M, f, m, q⟩ := q
  refine ⟨.ref a, hs ni rfl, ⟨cV, cv, b, rfl, hc, hk, ?_⟩⟩
  exact q F H _ Stp.refl f m (.bl b)
theorem h_cls (w : XH P nm cl n X sc a D0 oe pn) {c : Nat} {y : Str} {p : Pos} {C : Addr} (h1 : nm.excs[c]? = some y) (h2 : glB sc y = true) (h3 : cl c = .ref C) : PE (X.suite a ((a, oe) :: pn)) (.Name y p) (fun σ H Q => Q (.ref C) H) := by
  obtain ⟨W, xw⟩ := w.W
  obtain ⟨g, o⟩ := xw.gl h2
  obtain ⟨a1, a2, a3⟩ := okN_d o
  obtain ⟨C', e1, e2, _⟩ := xw.fx.excs c y h1
  rw [h3] at e1
  cases e1
  exact pe_glob (X := X.suite a ((a, oe) :: pn)) g e2 rfl a1
theorem h_ve (w : XH P nm cl n X sc a D0 oe pn) {y : Str} {p : Pos} (hy : y = "ValueError") (h2 : glB sc y = true) : PE (X.suite a ((a, oe) :: pn)) (.Name y p) (fun σ H Q => Q (.ty "ValueError") H) := by
  obtain ⟨W, xw⟩ := w.W
  obtain ⟨g, o⟩ := xw.gl h2
  obtain ⟨a1, a2, a3⟩ := okN_d o
  subst hy
  exact pe_bltn (X := X.suite a ((a, oe) :: pn)) g (xw.fx.blt _ (by simp [bltNames])) (by rfl) rfl a3 a1
mutual
theorem sH {k : Nat} (hcl : cl k = .ref D0) (w : XH P nm cl n X sc a D0 oe pn) {no : Option Str} {ni : Option Nat} (hn : ∀ z, no = some z → ∃ i, ni = some i ∧ X.N[i]? = some z) : ∀ (h : Hx) {e : Expr} {d : D}, mH nm sc no h e = true → hvE P.sub k h = some d →
    PE (X.suite a ((a, oe) :: pn)) e (tHv X.K a ni d)
  | .lit d, e, d', hm, hv => by
    simp only [hvE, Option.some.injEq] at hv
    subst hv
    unfold mH at hm
    split at hm
    · exact h_lit (X := X.suite a ((a, oe) :: pn)) hm
    · cases hm
  | .tup hs, e, d', hm, hv => by
    simp only [hvE, Option.map_eq_some_iff] at hv
    obtain ⟨ds, hv, rfl⟩ := hv
    unfold mH at hm
    split at hm
    · simp only [Bool.and_eq_true, decide_eq_true_eq] at hm
      refine PE.weak (pe_tup (X := X.suite a ((a, oe) :: pn)) (sHs hcl w hn hs hm.1 hv)) fun σ H Q q => ?_
      obtain ⟨hσ, ι, F, M, f, m, q⟩ := q
      refine ⟨hσ, ι, F, M, f, m, fun F' H' vs s1 f1 m1 r => ⟨?_, fun p hp => ?_⟩⟩
      · rw [r.length, hvEs_len hv]; exact small1000' hm.2
      · obtain ⟨s2, f2, m2⟩ := new_ok (o := .tup vs) f1 m1 hp
        exact q _ _ _ (s1.trans s2) f2 m2 (rep_new_tup f1 hp r)
    · cases hm
  | .isi c, e, d', hm, hv => by
    simp only [hvE, Option.map_eq_some_iff] at hv
    obtain ⟨b, hv, rfl⟩ := hv
    obtain ⟨W, xw⟩ := w.W
    obtain ⟨D', C, e1, e2, e3, e4, e5, e6⟩ := xw.fx.subs k c b hv
    rw [hcl] at e1
    cases e1
    unfold mH at hm
    split at hm
    · split at hm
      · simp only [Bool.and_eq_true, decide_eq_true_eq, List.isEmpty_iff] at hm
        obtain ⟨⟨⟨⟨⟨⟨h1, h2⟩, h3⟩, h4⟩, h5⟩, h6⟩, h7⟩ := hm
        subst h7
        obtain ⟨i, hi, hN⟩ := hn _ h3
        subst hi
        exact h_isi w h1 h2 hN h4 (h_cls w h5 h6 e2) (fun u r => r) e5
      · cases hm
    · cases hm
  | .isv, e, d', hm, hv => by
    simp only [hvE, Option.some.injEq] at hv
    subst hv
    unfold mH at hm
    split at hm
    · split at hm
      · simp only [Bool.and_eq_true, decide_eq_true_eq, List.isEmpty_iff] at hm
        obtain ⟨⟨⟨⟨⟨⟨h1, h2⟩, h3⟩, h4⟩, h5⟩, h6⟩, h7⟩ := hm
        subst h7
        obtain ⟨i, hi, hN⟩ := hn _ h3
        subst hi
        exact h_isi w h1 h2 hN h4 (h_ve w h5 h6) (fun u r => r) (w.ve)
      · cases hm
    · cases hm
  | .and hs, e, d', hm, hv => by
    simp only [hvE] at hv
    unfold mH at hm
    split at hm
    · rename_i op es pos
      simp only [Bool.and_eq_true] at hm
      have ho : op = .And := by
        cases op with
        | And => rfl
        | Or => exact absurd hm.1 (by simp)
      subst ho
      exact sHa hcl w hn hs hm.2 hv
    · cases hm
  | .or hs, e, d', hm, hv => by
    simp only [hvE] at hv
    unfold mH at hm
    split at hm
    · rename_i op es pos
      simp only [Bool.and_eq_true] at hm
      have ho : op = .Or := by
        cases op with
        | Or => rfl
        | And => exact absurd hm.1 (by simp)
      subst ho
      exact sHo hcl w hn hs hm.2 hv
    · cases hm
  | .not h, e, d', hm, hv => by
    simp only [hvE] at hv
    split at hv
    · rename_i b e1
      cases hv
      unfold mH at hm
      split at hm
      · rename_i op ea pos
        simp only [Bool.and_eq_true] at hm
        have ho : op = .Not := by
          cases op <;> first | rfl | exact absurd hm.1 (by simp)
        subst ho
        refine PE.weak (pe_not (X := X.suite a ((a, oe) :: pn)) (sH hcl w hn h hm.2 e1)) fun σ H Q q => ?_
        obtain ⟨hσ, ι, F, M, f, m, q⟩ := q
        refine ⟨hσ, ι, F, M, f, m, fun F' H' v s1 f1 m1 r => ?_⟩
        cases r
        exact ⟨b, rfl, q F' H' _ s1 f1 m1 (.bl _)⟩
      · cases hm
    · cases hv
theorem sHs {k : Nat} (hcl : cl k = .ref D0) (w : XH P nm cl n X sc a D0 oe pn) {no : Option Str} {ni : Option Nat} (hn : ∀ z, no = some z → ∃ i, ni = some i ∧ X.N[i]? = some z) : ∀ (hs : List Hx) {es : List Expr} {ds : List D}, mHs nm sc no hs es = true → hvEs P.sub k hs = some ds →
    PA (X.suite a ((a, oe) :: pn)) es (tHvs X.K a ni ds)
  | [], es, ds, hm, hv => by
    simp only [hvEs, Option.some.injEq] at hv
    subst hv
    simp only [mHs, List.isEmpty_iff] at hm
    subst hm
    exact PA.weak pa_nil fun σ H Q ⟨hσ, ι, F, M, f, m, q⟩ => q F H _ Stp.refl f m .nil
  | h :: hs, es, ds, hm, hv => by
    cases es with
    | nil => simp [mHs] at hm
    | cons e es =>
      simp only [mHs, Bool.and_eq_true] at hm
      simp only [hvEs] at hv
      split at hv
      · rename_i d ds' e1 e2
        cases hv
        refine PA.weak (pa_cons (sH hcl w hn h hm.1.2 e1) (sHs hcl w hn hs hm.2 e2) (star_ok hm.1.1)) fun σ H Q q => ?_
        obtain ⟨hσ, ι, F, M, f, m, q⟩ := q
        refine ⟨hσ, ι, F, M, f, m, fun F1 H1 v s1 f1 m1 r => ⟨hσ, ι, F1, M, f1, m1, fun F2 H2 vs s2 f2 m2 rs => ?_⟩⟩
        exact q F2 H2 _ (s1.trans s2) f2 m2 (.cons (s2.rep r) rs)
      · cases hv
theorem sHa {k : Nat} (hcl : cl k = .ref D0) (w : XH P nm cl n X sc a D0 oe pn) {no : Option Str} {ni : Option Nat} (hn : ∀ z, no = some z → ∃ i, ni = some i ∧ X.N[i]? = some z) : ∀ (hs : List Hx) {es : List Expr} {d : D} {pos : Pos}, mHs nm sc no hs es = true → hvAnd P.sub k hs = some d →
    PE (X.suite a ((a, oe) :: pn)) (.BoolOp .And es pos) (tHv X.K a ni d)
  | [], es, d, pos, hm, hv => by simp [hvAnd] at hv
  | h :: hs, es, d, pos, hm, hv => by
    cases es with
    | nil => simp [mHs] at hm
    | cons e es =>
      simp only [mHs, Bool.and_eq_true] at hm
      unfold hvAnd at hv
      split at hv
      · rename_i b e1
        have h1 := sH hcl w hn h hm.1.2 e1
        cases hs with
        | nil =>
          simp only [mHs, List.isEmpty_iff] at hm
          obtain ⟨_, rfl⟩ := hm
          cases hv
          exact pe_one h1
        | cons h' hs =>
          cases es with
          | nil => simp [mHs] at hm
          | cons e' es =>
            dsimp only at hv
            cases b with
            | true =>
              rw [if_pos rfl] at hv
              refine PE.weak (pe_and h1 (sHa hcl w hn (h' :: hs) hm.2 hv)) fun σ H Q q => ?_
              obtain ⟨hσ, ι, F, M, f, m, q⟩ := q
              refine ⟨hσ, ι, F, M, f, m, fun F1 H1 v s1 f1 m1 r => ?_⟩
              cases r
              refine ⟨true, rfl, ?_⟩
              rw [if_pos rfl]
              exact ⟨hσ, ι, F1, M, f1, m1, fun F2 H2 v s2 f2 m2 r => q F2 H2 v (s1.trans s2) f2 m2 r⟩
            | false =>
              rw [if_neg (by simp)] at hv
              cases hv
              refine PE.weak (pe_and (tb := fun _ _ _ => False) h1 ⟨fun _ _ _ _ _ _ z => z.elim⟩) fun σ H Q q => ?_
              obtain ⟨hσ, ι, F, M, f, m, q⟩ := q
              refine ⟨hσ, ι, F, M, f, m, fun F1 H1 v s1 f1 m1 r => ?_⟩
              cases r
              refine ⟨false, rfl, ?_⟩
              rw [if_neg (by simp)]
              exact q F1 H1 _ s1 f1 m1 (.bl false)
      · cases hv
theorem sHo {k : Nat} (hcl : cl k = .ref D0) (w : XH P nm cl n X sc a D0 oe pn) {no : Option Str} {ni : Option Nat} (hn : ∀ z, no = some z → ∃ i, ni = some i ∧ X.N[i]? = some z) : ∀ (hs : List Hx) {es : List Expr} {d : D} {pos : Pos}, mHs nm sc no hs es = true → hvOr P.sub k hs = some d →
    PE (X.suite a ((a, oe) :: pn)) (.BoolOp .Or es pos) (tHv X.K a ni d)
  | [], es, d, pos, hm, hv => by simp [hvOr] at hv
  | h :: hs, es, d, pos, hm, hv => by
    cases es with
    | nil => simp [mHs] at hm
    | cons e es =>
      simp only [mHs, Bool.and_eq_true] at hm
      unfold hvOr at hv
      split at hv
      · rename_i b e1
        have h1 := sH hcl w hn h hm.1.2 e1
        cases hs with
        | nil =>
          simp only [mHs, List.isEmpty_iff] at hm
          obtain ⟨_, rfl⟩ := hm
          cases hv
          exact pe_one h1
        | cons h' hs =>
          cases es with
          | nil => simp [mHs] at hm
          | cons e' es =>
            dsimp only at hv
            cases b with
            | false =>
              rw [if_neg (by simp)] at hv
              refine PE.weak (pe_or h1 (sHo hcl w hn (h' :: hs) hm.2 hv)) fun σ H Q q => ?_
              obtain ⟨hσ, ι, F, M, f, m, q⟩ := q
              refine ⟨hσ, ι, F, M, f, m, fun F1 H1 v s1 f1 m1 r => ?_⟩
              cases r
              refine ⟨false, rfl, ?_⟩
              rw [if_neg (by simp)]
              exact ⟨hσ, ι, F1, M, f1, m1, fun F2 H2 v s2 f2 m2 r => q F2 H2 v (s1.trans s2) f2 m2 r⟩
            | true =>
              rw [if_pos rfl] at hv
              cases hv
              refine PE.weak (pe_or (tb := fun _ _ _ => False) h1 ⟨fun _ _ _ _ _ _ z => z.elim⟩) fun σ H Q q => ?_
              obtain ⟨hσ, ι, F, M, f, m, q⟩ := q
              refine ⟨hσ, ι, F, M, f, m, fun F1 H1 v s1 f1 m1 r => ?_⟩
              cases r
              refine ⟨true, rfl, ?_⟩
              rw [if_pos rfl]
              exact q F1 H1 _ s1 f1 m1 (.bl true)
      · cases hv
end
end
/-- a clause's reading -/
def tHd (K : PySem.W.Frag) (P : Prog) (cl : Nat → Value) (h : Hd) : Addr → Value → Option Addr → TS := fun a cls d D σ H => ∃ k Dc b dv, cls = cl k ∧ cl k = .ref Dc ∧ d = none ∧ P.sub k h.c = some b ∧ hvE P.sub k h.b = some dv ∧ (∃ σ', σ = setN σ' h.i (some (.ref a))) ∧
  ∃ ι F M, FSub F H ∧ MemRep K ι F M H ∧ ∀ F' H' v, Stp ι F H ι F' H' → FSub F' H' → MemRep K ι F' M H' → Rep K ι F' v dv → D.rt v H'
theorem s_hd (xw : XW P nm cl n X sc W) {h : Hd} {no : Option Str} {e : Expr} {rp : Pos} (hlen : ∀ i, h.i = some i → i < X.N.length) (hn : ∀ z, no = some z → ∃ i, h.i = some i ∧ X.N[i]? = some z) (hm : mH nm sc no h.b e = true) (a : Addr) (oe : Obj) (cls : Value) (d : Option Addr) (pn : List (Addr × Obj))
    (hz : Zc cls d oe) (hv : ∃ vs, oe.data = .fields vs) : PSs (X.suite a ((a, oe) :: pn)) [.Return (some e) rp] (tHd X.K P cl h a cls d) := by
  refine ⟨fun pins s σ H D I q => ?_⟩
  obtain ⟨k, Dc, b, dv, rfl, e1, rfl, e2, e3, ⟨σ', hσ⟩, q⟩ := q
  obtain ⟨D1, C, f1, f2, f3, f4, f5, f6⟩ := xw.fx.subs k h.c b e2
  rw [e1] at f1 hz
  cases f1
  have xh : XH P nm cl n X sc a Dc oe pn := ⟨⟨W, xw⟩, hz, hv, f3, f6⟩
  have pe := sH e1 xh hn h.b hm e3
  refine (pss_cons (u := tNext) (ps_ret pe) pss_nil).run pins s σ H D I ⟨fun i hi => ?_, q⟩
  subst hσ
  have hl := I.len
  rw [hi] at hl ⊢
  show (σ'.set i (some (.ref a)))[i]? = _
  have hl : (σ'.set i (some (V.ref a))).length = X.N.length := hl
  rw [List.length_set] at hl
  rw [List.getElem?_set_self (by rw [hl]; exact hlen i hi)]
def clsOf (K : PySem.W.Frag) (P : Prog) (cl : Nat → Value) (h : Hd) : Cls1 := ⟨cl h.c, h.i, tHd K P cl h⟩
theorem s_nm (xw : XW P nm cl n X sc W) {c : Nat} {x : Str} (h1 : nm.excs[c]? = some x) (h2 : glB sc x = true) : Names X x (cl c) := by
  obtain ⟨g, ok⟩ := xw.gl h2
  obtain ⟨a1, a2, a3⟩ := okN_d ok
  obtain ⟨C, e1, e2, _⟩ := xw.fx.excs _ x h1
  exact ⟨g, a1, .inl (by rw [e2]; show some (Value.ref C) = some (cl c); rw [e1])⟩
theorem s_hd1 (xw : XW P nm cl n X sc W) {h : Hd} {l : List ExceptHandler} {hs : List Cls1} (hm : mHd1 X.N nm sc h l = true) (ih : HdsN X l.tail hs) : HdsN X l (clsOf X.K P cl h :: hs) := by
  unfold mHd1 at hm
  split at hm
  · rename_i x p1 o ss p2 r
    simp only [Bool.and_eq_true, decide_eq_true_eq] at hm
    obtain ⟨⟨⟨h1, h2⟩, h3⟩, h4⟩ := hm
    have hc : Names X x (clsOf X.K P cl h).c := s_nm xw h1 h2
    split at h4
    · rename_i e rp
      split at h3
      · rename_i hi
        refine .plain hc hi (fun a oe cls d pn hz hv => s_hd xw (no := none) (fun i h' => by rw [hi] at h'; cases h') (fun z hz => by cases hz) h4 a oe cls d pn hz hv) ih
      · rename_i n0 i hi
        simp only [Bool.and_eq_true, decide_eq_true_eq] at h3
        refine .named (i := i) hc hi h3.1 ?_ (fun a oe cls d pn hz hv => s_hd xw (no := some n0) (fun j h' => by rw [hi] at h'; cases h'; exact (List.getElem?_eq_some_iff.mp h3.1).1) (fun z hz => by cases hz; exact ⟨i, hi, h3.1⟩) h4 a oe cls d pn hz hv) ih
        have := xw.names _ _ h3.2 (by decide)
        simpa [Env.kindOf] using this
      · cases h3
    · cases h4
  · cases hm
theorem s_hd2 (xw : XW P nm cl n X sc W) {h h2 : Hd} {l : List ExceptHandler} {hs : List Cls1} (hm : mHd2 nm sc h h2 l = true) (ih : HdsN X l.tail hs) : HdsN X l (clsOf X.K P cl h :: clsOf X.K P cl h2 :: hs) := by
  unfold mHd2 at hm
  split at hm
  · rename_i x p1 x2 p2 k p3 ss p4 r
    simp only [Bool.and_eq_true, decide_eq_true_eq] at hm
    obtain ⟨⟨⟨⟨⟨⟨g1, g2⟩, g3⟩, g4⟩, hi⟩, hi2⟩, h4⟩ := hm
    split at h4
    · rename_i e rp
      simp only [Bool.and_eq_true] at h4
      exact .tup (s_nm xw g1 g2) (s_nm xw g3 g4) hi hi2 (fun a oe cls d pn hz hv => s_hd xw (no := none) (fun i h' => by rw [hi] at h'; cases h') (fun z hz => by cases hz) h4.1 a oe cls d pn hz hv) (fun a oe cls d pn hz hv => s_hd xw (no := none) (fun i h' => by rw [hi2] at h'; cases h') (fun z hz => by cases hz) h4.2 a oe cls d pn hz hv) ih
    · cases h4
  · cases hm
theorem s_hds (xw : XW P nm cl n X sc W) : ∀ {hs : List Hd} {l : List ExceptHandler}, mHd X.N nm sc hs l = true → HdsN X l (hs.map (clsOf X.K P cl))
  | [], l, h => by
    simp only [mHd, List.isEmpty_iff] at h
    subst h
    exact .nil
  | [h], l, hm => by
    unfold mHd at hm
    simp only [Bool.and_eq_true, List.isEmpty_iff] at hm
    exact s_hd1 xw hm.1 (by rw [hm.2]; exact .nil)
  | h :: h2 :: hs, l, hm => by
    unfold mHd at hm
    simp only [Bool.or_eq_true, Bool.and_eq_true] at hm
    rcases hm with ⟨a, b⟩ | ⟨a, b⟩
    · exact s_hd1 xw a (s_hds xw b)
    · exact s_hd2 xw a (s_hds xw b)
theorem s_wHds {F : Hp} {ι : List Addr} {O : Addr → Prop} {σ0 : L2.St} {H0 : Hp} {k : Nat} {D : Ends} (hfx : ∀ (k c : Nat) b, P.sub k c = some b → ∃ D C, cl k = .ref D ∧ cl c = .ref C ∧ L2.ExcC X.K D ∧ PySem.W.exmOne X.K (.ref D) (.ref C) = some b ∧ PySem.W.kitOne X.K (.ref D) (.ref C) = some b ∧
    PySem.W.kitOne X.K (.ref D) (.type "ValueError") = some true) {ρ : Sl} {M : Mem} {ι1 : List Addr} {F1 : Hp} {O1 : Addr → Prop} {H1 : Hp} {σ1 : L2.St} (s1 : StS ι F O H0 ι1 F1 O1 H1) (r1 : SRO X.K ι1 F1 O1 ρ M σ1 H1) : ∀ {hs : List Hd}, ResS X.K cl W ι F O σ0 H0 (hdR P.sub k hs ρ M) D → 
    wHds X.K W D (hs.map (clsOf X.K P cl)) (cl k) none σ1 H1
  | [], z => z _ _ _ _ _ s1 r1
  | h :: hs, z => by
    unfold hdR at z
    split at z
    · rename_i e1
      split at z
      case isFalse => exact z.elim
      rename_i hall
      split at z
      · rename_i dv e2
        obtain ⟨Dk, C, f1, f2, f3, f4, f5, f6⟩ := hfx k h.c true e1
        refine ⟨true, by show PySem.W.exmOne X.K (cl k) (cl h.c) = some true; rw [f1, f2]; exact f4, fun _ => ⟨fun g hg => ?_, fun a ha => ?_⟩, (fun q => by cases q)⟩
        · obtain ⟨h', hh', rfl⟩ := List.mem_map.mp hg
          obtain ⟨b2, e3⟩ := Option.isSome_iff_exists.mp (List.all_eq_true.mp hall h' hh')
          obtain ⟨Dk2, C2, g1, g2, g3, g4, g5, g6⟩ := hfx k h'.c b2 e3
          refine ⟨b2, ?_⟩
          show PySem.W.exmOne X.K (cl k) (cl h'.c) = some b2
          rw [g1, g2]; exact g4
        exact ⟨k, Dk, true, dv, rfl, f1, rfl, e1, e2, ⟨σ1, rfl⟩, ι1, F1, M, r1.sub, r1.mem, fun F' H' v s2 f2' m2 rv => z ι1 F' O1 H' v (fun _ => False) (s1.trans s2.toS) f2' m2 (.fz rv (.inl rfl)) fun _ h => h.elim⟩
      · exact z.elim
    · rename_i e1
      obtain ⟨Dk, C, f1, f2, f3, f4, f5, f6⟩ := hfx k h.c false e1
      refine ⟨false, by show PySem.W.exmOne X.K (cl k) (cl h.c) = some false; rw [f1, f2]; exact f4, (fun q => by cases q), fun _ => s_wHds hfx s1 r1 z⟩
    · exact z.elim
theorem s_try (xs : XS P nm cl n X sc W) {hs : List Hd} {h0 : ExceptHandler} {hds : List ExceptHandler} {body : List Stmt} {pos : Pos} {rb : Sl → Mem → RS} (hm : mHd X.N nm sc hs (h0 :: hds) = true)
    (hb : ∀ (W : WXX) (pn : List (Addr × Obj)) (xe : Value → Shared → Prop), XS P nm cl n (X.tr pn xe) sc W → PSs (X.tr pn xe) body (tS X.K cl W rb)) :
    PS X (.Try body (h0 :: hds) [] [] pos) (tS X.K cl W fun ρ M => tryR P.sub hs (rb ρ M)) := by
  refine PS.weak (ps_try_hds xs.stk xs.frm xs.w.nd xs.w.tk (tb := fun W => tS X.K cl W rb) (fun W pn xe tk po => hb W pn xe ⟨⟨tk, xs.w.calm, xs.w.nd, xs.w.room, xs.w.names, xs.w.free, xs.w.fnc, xs.w.fx⟩, po, xs.stk, xs.frm⟩) (s_hds xs.w hm)) fun D σ H z => ?_
  obtain ⟨ι, F, O, ρ, M, r, z⟩ := z
  refine ⟨ι, F, O, ρ, M, r, ?_⟩
  dsimp only at z
  cases e : rb ρ M with
  | nx ρ' M' => rw [e] at z; exact z
  | rt d M' => rw [e] at z; exact z
  | bk ρ' M' => rw [e] at z; exact z
  | ct ρ' M' => rw [e] at z; exact z
  | st => rw [e] at z; exact z
  | ex k ρ' M' =>
    rw [e] at z
    exact fun ι1 F1 O1 H1 σ1 s1 r1 => s_wHds xs.w.fx.subs s1 r1 z
end
end VL

/-! VA: the theorem of statements; a def's body -/
namespace VL
open PySem PySem.Spec PyProof.Rows L2
section
variable {P : Prog} {nm : Nms} {cl : Nat → Value} {n : Nat} {X : Cx} {sc : Scope} {W : WXX}
theorem to_bind {α β : Type} {r : VL.R α} {ρ : Sl} {f : α → Mem → VL.R β} {g : β → Mem → RS} : (r.bind f).to ρ g = r.to ρ fun a M => (f a M).to ρ g := by cases r <;> rfl
mutual
theorem sS : ∀ (s : Sm) {X : Cx} {sc : Scope} {W : WXX} {st : Stmt}, XS P nm cl n X sc W → mS X.N nm sc s st = true → PS X st (tS X.K cl W (evS (cfgN P n) s))
  | .asg p e, X, sc, W, st, w, h => by
    unfold mS at h
    split at h
    · split at h
      · rename_i ev spos _ tg
        simp only [Bool.and_eq_true] at h
        obtain ⟨⟨⟨h1, h2⟩, hd⟩, h3⟩ := h
        cases p with
        | v i =>
          unfold mP at h1
          split at h1
          · simp only [Bool.and_eq_true, decide_eq_true_eq] at h1
            obtain ⟨t, q1, q2⟩ := assign_named (pos := spos) w.w h1.1 h1.2 h2 hd
            exact PS.cong (s_asgT q1 q2) fun ρ M => by unfold evS; rfl
          · cases h1
        | t ps =>
          have hg := s_pat w.w h1
          unfold mP at h1
          split at h1
          · simp only [Bool.and_eq_true, Bool.not_eq_true'] at h3
            exact PS.cong (s_asgP (ps_asg (sE e w.w h2).1 hg (swt_no h3.2) (sws_no h3.1)) fun _ _ _ z => z) fun ρ M => by unfold evS; rfl
          · cases h1
      · cases h
    · cases h
  | .own i e, X, sc, W, st, w, h => by
    unfold mS at h
    split at h
    · split at h
      · rename_i ev spos _ tg
        simp only [Bool.and_eq_true] at h
        obtain ⟨h1, h2⟩ := h
        unfold mP at h1
        split at h1
        · simp only [Bool.and_eq_true, decide_eq_true_eq] at h1
          obtain ⟨t, q1, q2⟩ := own_named (pos := spos) w.w h1.1 h1.2 h2
          exact PS.cong (s_ownT q1 q2) fun ρ M => by unfold evS; rfl
        · cases h1
      · cases h
    · cases h
  | .dset i k v, X, sc, W, st, w, h => by
    unfold mS at h
    split at h
    · split at h
      · split at h
        · rename_i o ek _
          simp only [Bool.and_eq_true] at h
          obtain ⟨⟨⟨⟨h0, h1⟩, hp⟩, hk⟩, hv⟩ := h
          unfold mE at h1
          split at h1
          · simp only [Bool.and_eq_true, decide_eq_true_eq] at h1
            exact s_dset w.w h1.1 h1.2 hk hv
          · cases h1
        · cases h
      · cases h
    · cases h
  | .mut i ps mu el, X, sc, W, st, w, h => by
    unfold mS at h
    split at h
    · rename_i k
      split at h
      · split at h
        · split at h
          · simp only [Bool.and_eq_true, Bool.not_eq_true'] at h
            exact s_setk w.w h.1.1.1 h.1.1.2 h.1.2 h.2
          · cases h
        · cases h
      · cases h
    · rename_i hk
      split at h
      · split at h
        · split at h
          · rename_i fn es kws cp _ o m ap
            simp only [Bool.and_eq_true, List.isEmpty_iff] at h
            obtain ⟨⟨⟨h1, h2⟩, h3⟩, h4⟩ := h
            subst h1
            unfold mMu at h4
            split at h4
            · simp only [Bool.and_eq_true, decide_eq_true_eq] at h4
              obtain ⟨⟨h5, h6⟩, h7⟩ := h4
              subst h5
              exact s_app w.w h2 h6 h3 h7
            · simp only [Bool.and_eq_true, decide_eq_true_eq] at h4
              obtain ⟨h5, h6⟩ := h4
              subst h5
              split at h6
              · exact s_mu0 w.w (id := "list.clear") (T := "list") (g := fun _ => []) (g' := fun _ => []) h2 h3 (fun to hto => pe_bm0 PySem.F.plainAttrs_list PySem.F.slot_list_clear PySem.F.type_list_clear mt_clear hto (mPth_base h3) h2)
                  (fun l xs H Q e q => ⟨l, xs, rfl, rfl, e, q⟩) (fun _ _ _ => rfl) (fun _ e => by cases e) rfl fun _ _ _ _ _ _ _ _ => .nil
              · cases h6
            · simp only [Bool.and_eq_true, decide_eq_true_eq] at h4
              obtain ⟨h5, h6⟩ := h4
              subst h5
              split at h6
              · exact s_mu0 w.w (id := "list.reverse") (T := "list") (g := List.reverse) (g' := List.reverse) h2 h3 (fun to hto => pe_bm0 PySem.F.plainAttrs_list PySem.F.slot_list_reverse PySem.F.type_list_reverse mt_reverse hto (mPth_base h3) h2)
                  (fun l xs H Q e q => ⟨l, xs, rfl, rfl, e, q⟩) (fun _ _ _ => rfl) (fun _ e => by cases e) rfl fun _ _ _ _ _ _ _ r => r.reverse
              · cases h6
            · cases h4
          · cases h
        · cases h
      · cases h
  | .pop p i ps k, X, sc, W, st, w, h => by
    unfold mS at h
    split at h
    · split at h
      · split at h
        · split at h
          · simp only [Bool.and_eq_true, decide_eq_true_eq, List.isEmpty_iff] at h
            obtain ⟨⟨⟨⟨⟨⟨h1, h2⟩, h3⟩, h4⟩, h5⟩, h6⟩, h7⟩ := h
            subst h3; subst h5
            exact s_pop w.w h2 (s_pat w.w h1) h4 h6 h7
          · cases h
        · cases h
      · cases h
    · cases h
  | .popS i ps k, X, sc, W, st, w, h => by
    unfold mS at h
    split at h
    · split at h
      · split at h
        · simp only [Bool.and_eq_true, decide_eq_true_eq, List.isEmpty_iff] at h
          obtain ⟨⟨⟨⟨h3, h4⟩, h5⟩, h6⟩, h7⟩ := h
          subst h3; subst h5
          exact s_popS w.w h4 h6 h7
        · cases h
      · cases h
    · cases h
  | .clr a, X, sc, W, st, w, h => by
    unfold mS at h
    split at h
    · split at h
      · split at h
        · simp only [Bool.and_eq_true, decide_eq_true_eq, List.isEmpty_iff] at h
          obtain ⟨⟨⟨⟨⟨h1, h2⟩, h3⟩, h4⟩, h5⟩, h6⟩ := h
          subst h1; subst h2; subst h4
          exact s_clr w.w h3 h5 h6
        · cases h
      · cases h
    · cases h
  | .forK p i body, X, sc, W, st, w, h => by
    unfold mS at h
    split at h
    · simp only [Bool.and_eq_true, List.isEmpty_iff] at h
      obtain ⟨⟨⟨h1, h2⟩, h3⟩, h4⟩ := h
      subst h1
      exact PS.cong (s_forK w h4 (s_pat w.w h2) (sSs body w h3)) fun ρ M => by unfold evS; rfl
    · cases h
  | .aug i o e, X, sc, W, st, w, h => by
    unfold mS at h
    split at h
    · simp only [Bool.and_eq_true] at h
      obtain ⟨⟨h1, h2⟩, h3⟩ := h
      unfold mP at h1
      split at h1
      · simp only [Bool.and_eq_true, decide_eq_true_eq] at h1
        rw [mOp_eq h2]
        refine PS.cong (s_aug w.w h1.1 h1.2 (sE e w.w h3).1) fun ρ M => ?_
        unfold evS
        rfl
      · cases h1
    · cases h
  | .expr e, X, sc, W, st, w, h => by
    unfold mS at h
    split at h
    · simp only [Bool.and_eq_true, Bool.not_eq_true'] at h
      exact PS.cong (s_expr (sE e w.w h.1).1 h.2) fun ρ M => by unfold evS; rfl
    · cases h
  | .ret e, X, sc, W, st, w, h => by
    unfold mS at h
    split at h
    · split at h
      · exact PS.cong (s_ret (sE e w.w h).1) fun ρ M => by unfold evS; rfl
      · cases h
    · cases h
  | .retN, X, sc, W, st, w, h => by
    unfold mS at h
    split at h
    · simp only [Option.isNone_iff_eq_none] at h
      subst h
      exact PS.cong s_retN fun ρ M => by unfold evS; rfl
    · cases h
  | .retA a, X, sc, W, st, w, h => by
    unfold mS at h
    split at h
    · split at h
      · exact PS.cong (s_retA (sA a w.w h)) fun ρ M => by unfold evS; rfl
      · cases h
    · cases h
  | .ext i ps a, X, sc, W, st, w, h => by
    unfold mS at h
    split at h
    · split at h
      · split at h
        · split at h
          · simp only [Bool.and_eq_true, decide_eq_true_eq, List.isEmpty_iff] at h
            obtain ⟨⟨⟨⟨⟨h1, h2⟩, h3⟩, h4⟩, h5⟩, h6⟩ := h
            subst h1 h3
            exact s_ext w.w h2 h4 h5 h6
          · cases h
        · cases h
      · cases h
    · cases h
  | .retT els, X, sc, W, st, w, h => by
    unfold mS at h
    split at h
    · split at h
      · split at h
        · simp only [Bool.and_eq_true, decide_eq_true_eq] at h
          exact PS.cong (s_retT w.w h.1 h.2) fun ρ M => by unfold evS; rfl
        · cases h
      · cases h
    · cases h
  | .retV i, X, sc, W, st, w, h => by
    unfold mS at h
    split at h
    · split at h
      · unfold mE at h
        split at h
        · simp only [Bool.and_eq_true, decide_eq_true_eq] at h
          exact PS.cong (s_retV (s_var w.w h.1 h.2)) fun ρ M => by unfold evS; rfl
        · cases h
      · cases h
    · cases h
  | .ifs q a b, X, sc, W, st, w, h => by
    unfold mS at h
    split at h
    · simp only [Bool.and_eq_true] at h
      obtain ⟨⟨⟨h1, h2⟩, h3⟩, h4⟩ := h
      exact PS.cong (s_if ((sE q w.w h2).2 h1) (sSs a w h3) (sSs b w h4)) fun ρ M => by unfold evS; rfl
    · cases h
  | .for_ p k args body, X, sc, W, st, w, h => by
    unfold mS at h
    split at h
    · simp only [Bool.and_eq_true, List.isEmpty_iff] at h
      obtain ⟨⟨⟨h1, h2⟩, h3⟩, h4⟩ := h
      subst h1
      obtain ⟨hs, ri, hi, hr⟩ := walk_of w.w h4
      refine PS.cong (s_for w hs hi (s_pat w.w h2) (sSs body w h3)) fun ρ M => ?_
      unfold evS
      rw [hr, to_bind] <;> rfl
    · cases h
  | .while_ q body, X, sc, W, st, w, h => by
    unfold mS at h
    split at h
    · simp only [Bool.and_eq_true, List.isEmpty_iff] at h
      obtain ⟨⟨⟨h1, h2⟩, h3⟩, h4⟩ := h
      subst h1
      exact PS.cong (s_while w ((sE q w.w h3).2 h2) (sSs body w h4)) fun ρ M => by unfold evS; rfl
    · cases h
  | .brk, X, sc, W, st, w, h => by
    unfold mS at h
    split at h
    · exact PS.cong s_brk fun ρ M => by unfold evS; rfl
    · cases h
  | .cnt, X, sc, W, st, w, h => by
    unfold mS at h
    split at h
    · exact PS.cong s_cnt fun ρ M => by unfold evS; rfl
    · cases h
  | .pass, X, sc, W, st, w, h => by
    unfold mS at h
    split at h
    · exact PS.cong s_pass fun ρ M => by unfold evS; rfl
    · cases h
  | .raise k, X, sc, W, st, w, h => by
    unfold mS at h
    split at h
    · simp only [Bool.and_eq_true, Option.isNone_iff_eq_none] at h
      obtain ⟨h1, h2⟩ := h
      subst h1
      split at h2
      · split at h2
        · split at h2
          · simp only [Bool.and_eq_true, decide_eq_true_eq, List.isEmpty_iff] at h2
            obtain ⟨⟨h3, h4⟩, h5⟩ := h2
            subst h5
            exact PS.cong (s_raise w.w h3 h4) fun ρ M => by unfold evS; rfl
          · cases h2
        · cases h2
      · cases h2
    · cases h
  | .freeze i, X, sc, W, st, w, h => by unfold mS at h; cases h
  | .kill is, X, sc, W, st, w, h => by unfold mS at h; cases h
  | .toRef i, X, sc, W, st, w, h => by unfold mS at h; cases h
  | .mkI k fs, X, sc, W, st, w, h => by unfold mS at h; cases h
  | .rset e k v, X, sc, W, st, w, h => by
    unfold mS at h
    split at h
    · split at h
      · split at h
        · simp only [Bool.and_eq_true] at h
          obtain ⟨⟨h1, hk⟩, hv⟩ := h
          exact s_rset w.w h1 hk hv
        · cases h
      · cases h
    · cases h
  | .try_ body hs, X, sc, W, st, w, h => by
    unfold mS at h
    split at h
    · rename_i sb hds oe fe pos
      simp only [Bool.and_eq_true, Bool.not_eq_true', List.isEmpty_iff] at h
      obtain ⟨⟨⟨⟨h1, h2⟩, h3⟩, h4⟩, h5⟩ := h
      subst h1
      subst h2
      cases hds with
      | nil => cases h3
      | cons h0 hds =>
        exact PS.cong (s_try w h5 fun W' pn xe w' => sSs body w' h4) fun ρ M => by unfold evS; rfl
    · cases h
theorem sSs : ∀ (l : List Sm) {X : Cx} {sc : Scope} {W : WXX} {st : List Stmt}, XS P nm cl n X sc W → mSs X.N nm sc l st = true → PSs X st (tS X.K cl W (evSs (cfgN P n) l))
  | [], X, sc, W, st, w, h => by
    unfold mSs at h
    simp only [List.isEmpty_iff] at h
    subst h
    refine PSs.weak pss_nil fun D σ H z => ?_
    obtain ⟨ι, F, O, ρ, M, r, z⟩ := z
    unfold evSs at z
    exact z ι F O H σ StS.refl r
  | s :: r, X, sc, W, st, w, h => by
    unfold mSs at h
    split at h
    · rename_i hg
      have ih := sSs r w h
      refine PSs.weak ih fun D σ H z => ?_
      obtain ⟨ι, F, O, ρ, M, sr, z⟩ := z
      unfold evSs at z
      cases s <;> try (cases hg; done)
      · rename_i i
        unfold evS at z
        split at z
        · rename_i m d e
          obtain ⟨F', O', st', r'⟩ := sr.freeze e
          exact ⟨ι, F', O', _, M, r', ResS.later z st'⟩
        · exact ⟨ι, F, O, ρ, M, sr, z⟩
        · exact z.elim
      · rename_i is
        unfold evS at z
        exact ⟨ι, F, O, _, M, sr.killed is, z⟩
      · rename_i i
        unfold evS at z
        split at z
        · rename_i m ds e
          split at z
          · exact z.elim
          · rename_i hm
            obtain ⟨ι', F', O', st', r'⟩ := sr.toRef e hm
            exact ⟨ι', F', O', _, _, r', ResS.later z st'⟩
        · rename_i m td ds e
          split at z
          · exact z.elim
          · rename_i hm
            obtain ⟨ι', F', O', st', r'⟩ := sr.toRefD e hm
            exact ⟨ι', F', O', _, _, r', ResS.later z st'⟩
        · exact z.elim
    · split at h
      · rename_i st1 l1
        simp only [Bool.and_eq_true] at h
        refine PSs.weak (pss_cons (sS s w h.1) (sSs r w h.2)) fun D σ H z => ?_
        obtain ⟨ι, F, O, ρ, M, sr, z⟩ := z
        unfold evSs at z
        exact ⟨ι, F, O, ρ, M, sr, ResS.seq z⟩
      · cases h
end
end
end VL

/-! VB: defs, and the law -/
namespace VL
open PySem PySem.Spec PyProof.Rows L2
def scB (N ps : List Str) (sc : Scope) : Bool :=
  (match sc.kind with | .function => true | _ => false) && (!sc.isCoroutine && (!sc.isGenerator && (decide N.Nodup && (decide (N.take ps.length = ps) && (ps.all (fun x => locB sc x) && sc.names.all (fun y => match y.2 with | .free => false | _ => true))))))
theorem scB_ok {N ps : List Str} {sc : Scope} (h : scB N ps sc = true) : FnScope N ps sc := by
  unfold scB at h
  simp only [Bool.and_eq_true, Bool.not_eq_true', decide_eq_true_eq, List.all_eq_true] at h
  obtain ⟨h1, h2, h3, h4, h5, h6, h7⟩ := h
  refine ⟨?_, h2, h3, h4, h5, fun x hx => ?_, fun y hy e => ?_⟩
  · split at h1
    · assumption
    · cases h1
  · have := h6 x hx
    unfold locB at this
    simpa using this
  · have := h7 y hy
    rw [e] at this
    cases this
def mFn (nm : Nms) (N ps : List Str) (F : Fn) (d : He.DefD) : Bool := scB N ps d.scope && (decide (ps.length = F.np) && (decide (N.length = F.ns) && (d.dfl.isEmpty && (d.kwd.isEmpty && mSs N nm d.scope F.body d.body))))
theorem lookup_mem {x : Str} {k : NameKind} : ∀ {l : List (Str × NameKind)}, l.lookup x = some k → ∃ y, (y, k) ∈ l
  | [], h => by simp at h
  | (a, b) :: r, h => by
    rw [List.lookup_cons] at h
    split at h
    · cases h; exact ⟨a, List.mem_cons_self⟩
    · obtain ⟨y, hy⟩ := lookup_mem h
      exact ⟨y, List.mem_cons_of_mem _ hy⟩
section
variable {P : Prog} {nm : Nms} {cl : Nat → Value} {n : Nat} {prog : Program} {w : World} {K : PySem.W.Frag} {mg : Str → Option Value} {base : Heap}
theorem start_get {ns : Nat} {ds : List D} {i : Nat} : (startS ns ds)[i]? = if i < ds.length then (ds[i]?).map .fz else if i < ds.length + (ns - ds.length) then some .un else none := by
  unfold startS
  by_cases h : i < ds.length
  · rw [if_pos h, List.getElem?_append_left (by simpa using h), List.getElem?_map]
  · rw [if_neg h, List.getElem?_append_right (by simpa using h), List.getElem?_replicate]
    simp only [List.length_map]
    by_cases h2 : i - ds.length < ns - ds.length
    · rw [if_pos h2, if_pos (by omega)]
    · rw [if_neg h2, if_neg (by omega)]
theorem start_ow {ns : Nat} {ds : List D} {i : Nat} {m : Md} {d : D} : (startS ns ds)[i]? ≠ some (.ow m d) := fun h => by
  rw [start_get] at h
  split at h
  · rw [Option.map_eq_some_iff] at h
    obtain ⟨d', e, h⟩ := h
    cases h
  · split at h <;> cases h
theorem SR_start {ι : List Addr} {F : Hp} {M : Mem} {H : Hp} {ds : List D} {vs : List V} {N : List Str} {ns : Nat} (f : FSub F H) (m : MemRep K ι F M H) (r : Reps K ι F vs ds) (hN : N.length = ns) :
    SRO K ι F (fun _ => False) (startS ns ds) M (L2.start N vs) H := by
  have hl := r.length
  refine ⟨f, m, ?_, fun i d h => ?_, fun _ h => h.elim, fun _ _ => False, fun i m d h => absurd h start_ow, fun _ _ h => h, fun _ _ _ h => h.elim⟩
  · unfold startS L2.start; simp [hl, hN]
  · rw [start_get] at h
    split at h
    · rename_i hi
      rw [Option.map_eq_some_iff] at h
      obtain ⟨d', e, h⟩ := h
      cases h
      obtain ⟨v, e1, q⟩ := r.get e
      refine ⟨v, ?_, q⟩
      unfold L2.start
      rw [List.getElem?_append_left (by simp; omega), List.getElem?_map, e1]; rfl
    · split at h <;> cases h
/-- a def keeps its promise -/
theorem fn_ok {f : Nat} {F : Fn} {N ps : List Str} {d : He.DefD} {a : Addr} {fd : FuncData} (fx : Fx P nm cl n prog w K mg base) (hF : P.fns[f]? = some F) (hm : mFn nm N ps F d = true)
    (D0 : FunD K d.name d.qual d.params d.body d.scope (d.dvs K) (d.kws K) a fd) : FnOk prog w K mg base (L2.CX prog w) (2 * (n + 1)) a fd ps (spF K cl P (n + 1) f) := by
  show FnOk prog w K mg base (L2.CX prog w) ((2 * n + 1) + 1) a fd ps (spF K cl P (n + 1) f)
  unfold mFn at hm
  simp only [Bool.and_eq_true, decide_eq_true_eq] at hm
  obtain ⟨h1, h2, h3, h4, h5, h6⟩ := hm
  have S := scB_ok h1
  refine FunD.ok D0 S (fun vs H Q E h => ?_) (fun cdv A outer s H vs Q E hr h => ?_)
  · obtain ⟨ι, F', M, ds, f', m, r, q⟩ := h
    have hne : callN P (n + 1) f ds M ≠ .st := fun e => by rw [e] at q; exact q
    obtain ⟨Fd, e1, e2⟩ := callN_len hne
    rw [hF] at e1; cases e1
    rw [r.length, e2, h2]
  · obtain ⟨ι, F', M, ds, f', m, r, q⟩ := h
    have hne : callN P (n + 1) f ds M ≠ .st := fun e => by rw [e] at q; exact q
    obtain ⟨Fd, e1, e2⟩ := callN_len hne
    rw [hF] at e1; cases e1
    have xs : XS P nm cl n (cxOf (L2.CX prog w) prog w K mg base N d.qual d.scope a cdv A outer s H E) d.scope (fun c dd _ H => E c dd H) := by
      refine ⟨⟨takes_of rfl rfl rfl rfl, rfl, S.nd, hr, fun x k h _ => h, fun x h => ?_, fun x h => rfl, fx⟩, passes_of rfl, rfl, rfl⟩
      obtain ⟨y, hy⟩ := lookup_mem h
      exact absurd rfl (S.nofree _ hy)
    refine ⟨_, sSs F.body xs h6, ι, F', _, startS F.ns ds, M, SR_start f' m r h3, ?_⟩
    unfold callN at q
    rw [hF] at q
    simp only [e2, if_true] at q
    show ResS K cl _ ι F' _ _ H (evSs (cfgN P n) F.body (startS F.ns ds) M) _
    have toP : ∀ {ι' : List Addr} {F2 H2 : Hp} {O2 : Addr → Prop}, StS ι F' (fun _ => False) H ι' F2 O2 H2 → Stp ι F' H ι' F2 H2 := fun s => ⟨let ⟨m, e, f⟩ := s.pre; ⟨m, e, fun a h => (f a h).resolve_right fun z => z⟩, s.subF, fun a h n e => s.newF a h n id e, fun a u h n => s.keep a u h n id, s.live⟩
    have no : ∀ {ι' : List Addr} {F2 H2 : Hp}, New ι' F2 H H2 fun _ => False := ⟨fun _ h => h.elim⟩
    cases er : evSs (cfgN P n) F.body (startS F.ns ds) M with
    | nx ρ' M' => simp only [er] at q; exact fun ι' F2 O2 H2 σ' s r' => q ι' F2 H2 (toP s) r'.sub r'.mem .non (fun _ => False) (.fz .non (.inl rfl)) no
    | rt d' M' => simp only [er] at q; exact fun ι' F2 O2 H2 v T s f2 m2 hv hT => q ι' F2 H2 (toP s) f2 m2 v T hv ⟨fun a ha => let ⟨h1, h2, h3, h4⟩ := hT a ha; ⟨h2, h3, (s.newO a h1).elim id fun z => z.elim, h4⟩⟩
    | bk ρ' M' => simp only [er] at q; exact q.elim
    | ct ρ' M' => simp only [er] at q; exact q.elim
    | ex c ρ' M' => simp only [er] at q; exact fun ι' F2 O2 H2 σ' s r' => q ι' F2 H2 (toP s) r'.sub r'.mem
    | st => simp only [er] at q; exact q
/-! ### what makes an instance -/
def mFl (N : List Str) (nm : Nms) (sc : Scope) : List (Str × Ex) → List Stmt → Bool
  | [], l => l.isEmpty
  | q :: r, l => match l with
    | st :: l' => (match st with
      | .Assign ts ev _ => (match ts with
        | [tg] => (match tg with
          | .Attribute o f _ => (match o with
            | .Name x _ => decide (N[0]? = some x) && visB sc x && decide (f = q.1) && mE N nm q.2 sc ev && mFl N nm sc r l'
            | _ => false)
          | _ => false)
        | _ => false)
      | _ => false)
    | [] => false
def mIni (nm : Nms) (N ps : List Str) (F : Fn) (d : He.DefD) (cn : Str) (flds : List Str) : Bool := scB N ps d.scope && (decide (ps.length = F.np + 1) && (decide (N.length = F.ns + 1) && (d.dfl.isEmpty && (d.kwd.isEmpty && (match F.body with
  | [.mkI c fs] => decide (c = cn) && mFl N nm d.scope fs d.body && decide (fs.map (·.1)).Nodup && decide (fs.length < 1000) && fs.all (fun q => flds.contains q.1)
  | _ => false)))))
theorem putF_new {f : Str} {v : V} : ∀ {l : List (Str × V)}, f ∉ l.map (·.1) → putF f v l = l ++ [(f, v)]
  | [], _ => rfl
  | (g, x) :: r, h => by
    simp only [List.map_cons, List.mem_cons, not_or] at h
    show (if g = f then _ else _) = _
    rw [if_neg fun e => h.1 e.symm, putF_new h.2]; rfl
theorem sw_attr {ev o : Expr} {f : Str} {p : Pos} {line : Nat} {env : Env} : swapsWith ev (some (.Attribute o f p)) line env = pure false := by
  cases ev <;> rfl
theorem fls_run {X : Cx} {sc : Scope} {W : WXX} {C : Addr} (w0 : XW P nm cl n X sc W) (hc : Cls X.K C) : ∀ (fs : List (Str × Ex)) (body : List Stmt), mFl X.N nm sc fs body = true → (∀ q ∈ fs, NoAttr X.K C q.1) → (fs.map (·.1)).Nodup →
    ∃ t, PSs X body t ∧ ∀ (D : Ends) (σ : L2.St) (ρ : Sl) (p dx : Addr) (ι0 : List Addr) (F0 H0 : Hp) (ι : List Addr) (F H : Hp) (M : Mem) (l : List (Str × V)) (acc : List (Str × VL.D)), σ[0]? = some (some (.ref p)) → ρ.length = σ.length →
      (∀ (i : Nat) d, ρ[i]? = some (.fz d) → ∃ v, σ[i]? = some (some v) ∧ Rep X.K ι F v d) → (∀ (i : Nat) m d, ρ[i]? ≠ some (.ow m d)) → Stp ι0 F0 H0 ι F H → FSub F H → MemRep X.K ι F M H → H0 p = none → H p = some (.ins C dx l) → F p = none → p ∉ ι →
      RepK X.K ι F (l.map fun q => (VL.D.str q.1, q.2)) (acc.map fun q => (VL.D.str q.1, q.2)) → (∀ q ∈ fs, q.1 ∉ l.map (·.1)) → l.length + fs.length < 1000 →
      Res X.K cl W ι0 F0 σ H0 (evFs (cfgN P n) fs ρ M) (fun ds M' ι' F' H' => ∀ l', H' p = some (.ins C dx l') → F' p = none → p ∉ ι' → RepK X.K ι' F' (l'.map fun q => (VL.D.str q.1, q.2)) ((acc ++ ds).map fun q => (VL.D.str q.1, q.2)) → D.nx σ H') → t D σ H
  | [], body, h, _, _ => by
    unfold mFl at h
    simp only [List.isEmpty_iff] at h
    subst h
    refine ⟨_, pss_nil, fun D σ ρ p dx ι0 F0 H0 ι F H M l acc _ _ _ _ st f m _ hp hF hi rk _ _ q => ?_⟩
    simp only [evFs] at q
    exact q ι F H st f m l hp hF hi (by rw [List.append_nil]; exact rk)
  | q :: fs, body, h, na, nd => by
    unfold mFl at h
    split at h <;> try (cases h; done)
    split at h <;> try (cases h; done)
    split at h <;> try (cases h; done)
    split at h <;> try (cases h; done)
    split at h <;> try (cases h; done)
    rename_i _ body' _ ev _ _ _ _ _ _ x xpos
    simp only [Bool.and_eq_true, decide_eq_true_eq] at h
    obtain ⟨⟨⟨⟨h1, h2⟩, rfl⟩, h4⟩, h5⟩ := h
    rw [List.map_cons, List.nodup_cons] at nd
    obtain ⟨t, T1, T2⟩ := fls_run w0 hc fs body' h5 (fun z hz => na z (List.mem_cons_of_mem _ hz)) nd.2
    refine ⟨_, pss_cons (ps_fld (s_var w0 h1 h2) (sE q.2 w0 h4).1 sw_attr) T1, fun D σ ρ p dx ι0 F0 H0 ι F H M l acc hs hlen hfz how st f m h0 hp hF hi rk dis ll z => ?_⟩
    have sr : SR X.K ι F ρ M σ H := ⟨fun _ => False, f, m, hlen, hfz, fun _ h => h.elim, fun _ _ => False, fun i mm d h => absurd h (how i mm d), fun _ _ h => h, fun _ _ _ h => h.elim⟩
    refine ⟨ι, F, ρ, M, sr, ?_⟩
    simp only [evFs] at z
    cases e : evE (cfgN P n) q.2 ρ M with
    | st => rw [e] at z; exact z.elim
    | ex c M1 => rw [e] at z; exact fun ι1 F1 H1 s1 f1 m1 => z ι1 F1 H1 (st.trans s1) f1 m1
    | ok d M1 =>
      rw [e, R.bind_ok] at z
      intro ι1 F1 H1 s1 f1 m1 v hv
      obtain ⟨k1, k2, k3⟩ := s1.own hp hF hi
      refine ⟨.ref p, hs, p, C, dx, l, rfl, k1, hc, na q List.mem_cons_self, by simp only [List.length_cons] at ll; omega, ?_⟩
      rw [putF_new (dis q List.mem_cons_self)]
      obtain ⟨f2, m2⟩ := out_upd (o := .ins C dx (l ++ [(q.1, v)])) f1 m1 k2 k3
      refine T2 D σ ρ p dx ι0 F0 H0 ι1 F1 _ M1 (l ++ [(q.1, v)]) (acc ++ [(q.1, d)]) hs hlen (fun i dd h => let ⟨v, e1, e2⟩ := hfz i dd h; ⟨v, e1, s1.rep e2⟩) how ((st.trans s1).upd h0) f2 m2 h0 upd_same k2 k3 ?_ ?_ ?_ ?_
      · rw [List.map_append, List.map_append]
        exact repK_snoc hv (rk.mono s1.ix s1.subF)
      · intro z hz hm
        rw [List.map_append, List.mem_append] at hm
        rcases hm with hm | hm
        · exact dis z (List.mem_cons_of_mem _ hz) hm
        · simp only [List.map_cons, List.map_nil, List.mem_singleton] at hm
          exact nd.1 (List.mem_map.mpr ⟨z, hz, hm⟩)
      · simp only [List.length_append, List.length_cons, List.length_nil] at ll ⊢; omega
      · refine (Res.bind z).imp' fun ds M2 er ι2 F2 H2 s2 f3 m3 q2 l' e1 e2 e3 rk2 => ?_
        have q3 := Res.of_ok q2 f3 m3
        refine q3 l' e1 e2 e3 ?_
        rw [List.append_assoc] at rk2
        exact rk2
theorem init_ok {f : Nat} {F : Fn} {N ps : List Str} {d : He.DefD} {a : Addr} {fd : FuncData} {cn : Str} {flds : List Str} (fx : Fx P nm cl n prog w K mg base) (hF : P.fns[f]? = some F) (hm : mIni nm N ps F d cn flds = true)
    (hc : Cls K (He.ga K cn)) (hna : ∀ x ∈ flds, NoAttr K (He.ga K cn) x) (D0 : FunD K d.name d.qual d.params d.body d.scope (d.dvs K) (d.kws K) a fd) : FnOk prog w K mg base (L2.CX prog w) (2 * (n + 1)) a fd ps (spI K cl P (n + 1) f (He.ga K cn)) := by
  show FnOk prog w K mg base (L2.CX prog w) ((2 * n + 1) + 1) a fd ps (spI K cl P (n + 1) f (He.ga K cn))
  unfold mIni at hm
  simp only [Bool.and_eq_true, decide_eq_true_eq] at hm
  obtain ⟨h1, h2, h3, h4, h5, h6⟩ := hm
  split at h6 <;> try (cases h6; done)
  rename_i c fs hb
  simp only [Bool.and_eq_true, decide_eq_true_eq] at h6
  obtain ⟨⟨⟨⟨rfl, g1⟩, g2⟩, g3⟩, g4⟩ := h6
  have S := scB_ok h1
  refine FunD.ok D0 S (fun vs H Q E h => ?_) (fun cdv A outer s H vs Q E hr h => ?_)
  · obtain ⟨p, dx, H0, vs', rfl, rfl, hp, hd, hne, ι, F', M, ds, f', m, r, q⟩ := h
    have hne : callN P (n + 1) f ds M ≠ .st := fun e => by rw [e] at q; exact q
    obtain ⟨Fd, e1, e2⟩ := callN_len hne
    rw [hF] at e1; cases e1
    rw [List.length_cons, r.length, e2, h2]
  · obtain ⟨p, dx, H0, vs', rfl, rfl, hp, hd, hne, ι, F', M, ds, f', m, r, q⟩ := h
    have hne2 : callN P (n + 1) f ds M ≠ .st := fun e => by rw [e] at q; exact q
    obtain ⟨Fd, e1, e2⟩ := callN_len hne2
    rw [hF] at e1; cases e1
    have xw : XW P nm cl n (cxOf (L2.CX prog w) prog w K mg base N d.qual d.scope a cdv A outer s (upd (upd H0 dx (.own p)) p (.ins (He.ga K c) dx [])) E) d.scope (fun c dd _ H => E c dd H) := by
      refine ⟨takes_of rfl rfl rfl rfl, rfl, S.nd, hr, fun x k h _ => h, fun x h => ?_, fun x h => rfl, fx⟩
      obtain ⟨y, hy⟩ := lookup_mem h
      exact absurd rfl (S.nofree _ hy)
    obtain ⟨t, T1, T2⟩ := fls_run xw hc fs d.body g1 (fun z hz => hna _ (by
      have := List.all_eq_true.mp g4 z hz
      simpa using this)) g2
    have hF0 : F' p = none := by
      cases e : F' p with
      | none => rfl
      | some u => exact absurd hp (f'.isSome e)
    have hFd : F' dx = none := by
      cases e : F' dx with
      | none => rfl
      | some u => exact absurd hd (f'.isSome e)
    have hi : p ∉ ι := fun h => (m.there h).1 hp
    have hid : dx ∉ ι := fun h => (m.there h).1 hd
    obtain ⟨fa, ma⟩ := out_upd (o := .own p) f' m hFd hid
    obtain ⟨fb, mb⟩ := out_upd (o := .ins (He.ga K c) dx []) fa ma hF0 hi
    have s0 : Stp ι F' H0 ι F' (upd (upd H0 dx (.own p)) p (.ins (He.ga K c) dx [])) := (Stp.refl.upd hd).upd hp
    have sr := SR_start (N := N.tail) (ns := F.ns) f' m r (by rw [List.length_tail, h3]; rfl)
    have est : L2.start N (.ref p :: vs') = some (.ref p) :: L2.start N.tail vs' := by
      unfold L2.start
      simp only [List.map_cons, List.length_cons, List.cons_append, List.length_tail]
      congr 2
      congr 1
      omega
    have ecall : callN P (n + 1) f ds M = (evFs (cfgN P n) fs (.un :: startS F.ns ds) M).bind fun r M1 => .ok (Md.z, VL.D.ins c r) M1 := by
      unfold callN
      rw [hF]
      simp only [e2, if_true, hb, evSs, evS]
      cases evFs (cfgN P n) fs (.un :: startS F.ns ds) M <;> rfl
    rw [ecall] at q
    refine ⟨t, T1, T2 _ _ (.un :: startS F.ns ds) p dx ι F' H0 ι F' _ M [] [] (by rw [est]; rfl) (by rw [est, List.length_cons, List.length_cons, sr.len]) (fun i dd h => ?_) (fun i mm dd h => ?_) s0 fb mb hp upd_same hF0 hi .nil (fun _ _ h => by cases h) (by simpa using g3) ?_⟩
    · rw [est]
      cases i with
      | zero => cases h
      | succ i => exact sr.fz i dd h
    · cases i with
      | zero => cases h
      | succ i => exact absurd h start_ow
    · show Res K cl (fun c d _ H' => E c d H') ι F' (L2.start N (.ref p :: vs')) H0 _ _
      cases er : evFs (cfgN P n) fs (.un :: startS F.ns ds) M with
      | st => rw [er] at q; exact q.elim
      | ex c M2 => rw [er] at q; exact q
      | ok r2 M2 =>
        rw [er, R.bind_ok] at q
        intro ι2 F2 H2 s2 f2 m2 l' e1 e2 e3 rk
        have N0 : New ι2 F2 H0 H2 (fun b => b = p) := ⟨fun b hb => by subst hb; exact ⟨e2, e3, hp, ⟨⟨_, e1, rfl⟩⟩⟩⟩
        obtain ⟨F3, s3, f3, m3, g5, g6⟩ := s2.settle f2 m2 N0
        exact q ι2 F3 H2 s3 f3 m3 rfl (.ins (g6 p _ rfl e1) (rk.mono (fun _ _ h => h) g5))
/-- what the text says of the defs, the constants, the errors -/
structure Tx (P : Prog) (nm : Nms) (cl : Nat → Value) (K : PySem.W.Frag) (w : World) (mg : Str → Option Value) : Prop where
  fns : ∀ (f : Nat) x, nm.fns[f]? = some x → ∃ (a : Addr) (fd : FuncData) (N ps : List Str) (d : He.DefD) (F : Fn), mg x = some (.ref a) ∧ PySem.W.keepIn K (.ref a) = true ∧ Binds K fd ps [] ∧ P.fns[f]? = some F ∧ mFn nm N ps F d = true ∧
    FunD K d.name d.qual d.params d.body d.scope (d.dvs K) (d.kws K) a fd
  consts : ∀ (k : Nat) x d, nm.consts[k]? = some x → P.consts[k]? = some d → ∃ u v, mg x = some u ∧ RelV v u ∧ Rep K [] (fun _ => none) v d
  blt : ∀ x ∈ bltNames, mg x = none
  excs : ∀ (k : Nat) x, nm.excs[k]? = some x → ∃ C, cl k = .ref C ∧ mg x = some (.ref C) ∧ PySem.W.keepIn K (.ref C) = true ∧
    PySem.W.excIn K C [.type "ValueError", .type "Exception", .type "BaseException", .type "object"] "ValueError.__new__" = true ∧
    PySem.W.subIn K (.ref C) (.type "BaseException") = some true ∧ PySem.W.typeIn K (.ref C) = some (.type "type")
  subs : ∀ (k c : Nat) b, P.sub k c = some b → ∃ D C, cl k = .ref D ∧ cl c = .ref C ∧ L2.ExcC K D ∧ PySem.W.exmOne K (.ref D) (.ref C) = some b ∧ PySem.W.kitOne K (.ref D) (.ref C) = some b ∧
    PySem.W.kitOne K (.ref D) (.type "ValueError") = some true
  cls : ∀ cd ∈ nm.cls, mg cd.name = some (.ref (He.ga K cd.name)) ∧ Cls K (He.ga K cd.name) ∧ (∀ f ∈ cd.flds, NoAttr K (He.ga K cd.name) f) ∧
    (∀ f, cd.ini = some f → ∃ (a : Addr) (fd : FuncData) (N ps : List Str) (d : He.DefD) (F : Fn), Mk K (He.ga K cd.name) a ∧ Binds K fd ps [] ∧ P.fns[f]? = some F ∧ mIni nm N ps F d cd.name cd.flds = true ∧
      FunD K d.name d.qual d.params d.body d.scope (d.dvs K) (d.kws K) a fd) ∧
    ∀ q ∈ cd.meths, ∃ (a : Addr) (fd : FuncData) (N ps : List Str) (d : He.DefD) (F : Fn), Meth K (He.ga K cd.name) q.1 a ∧ Binds K fd ps [] ∧ P.fns[q.2]? = some F ∧ mFn nm N ps F d = true ∧
      FunD K d.name d.qual d.params d.body d.scope (d.dvs K) (d.kws K) a fd
  dcts : ∀ (k : Nat) x, nm.dcts[k]? = some x → ∃ a kvs, P.dcts[k]? = some kvs ∧ mg x = some (.ref a) ∧ ∀ z d, kvs.lookup z = some d → ∃ v, KDct K w a z v ∧ Rep K [] (fun _ => none) v d
theorem in_none {a C : Addr} {fd : FuncData} {ps : List Str} {f : Nat} : FnOk prog w K mg base (L2.CX prog w) 0 a fd ps (spI K cl P 0 f C) :=
  ⟨fun vs H Q E h => by obtain ⟨_, _, _, _, _, _, _, _, _, _, _, _, _, _, _, _, q⟩ := h; exact q.elim, fun A outer s H args us vs Q E hr he hb hv h => by obtain ⟨_, _, _, _, _, _, _, _, _, _, _, _, _, _, _, _, q⟩ := h; exact q.elim⟩
theorem fn_none {a : Addr} {fd : FuncData} {ps : List Str} {f : Nat} : FnOk prog w K mg base (L2.CX prog w) 0 a fd ps (spF K cl P 0 f) :=
  ⟨fun vs H Q E h => by obtain ⟨_, _, _, _, _, _, _, q⟩ := h; exact q.elim, fun A outer s H args us vs Q E hr he hb hv h => by obtain ⟨_, _, _, _, _, _, _, q⟩ := h; exact q.elim⟩
theorem Tx.fx (t : Tx P nm cl K w mg) : ∀ n, Fx P nm cl n prog w K mg base
  | 0 => ⟨fun f x h => by
      obtain ⟨a, fd, N, ps, d, F, e1, e2, e3, e4, e5, e6⟩ := t.fns f x h
      exact ⟨a, fd, ps, e1, e2, e3, fn_none⟩, t.consts, t.blt, t.excs, t.subs, (fun cd hcd => by
      obtain ⟨c1, c2, c3, c4, c5⟩ := t.cls cd hcd
      refine ⟨c1, c2, c3, fun f hf => ?_, fun q hq => ?_⟩
      · obtain ⟨a, fd, N, ps, d, F, e1, e2, e3, e4, e5⟩ := c4 f hf
        exact ⟨a, fd, ps, e1, e2, in_none⟩
      · obtain ⟨a, fd, N, ps, d, F, e1, e2, e3, e4, e5⟩ := c5 q hq
        exact ⟨a, fd, ps, e1, e2, fn_none⟩), t.dcts⟩
  | n + 1 => ⟨fun f x h => by
      obtain ⟨a, fd, N, ps, d, F, e1, e2, e3, e4, e5, e6⟩ := t.fns f x h
      exact ⟨a, fd, ps, e1, e2, e3, fn_ok (t.fx n) e4 e5 e6⟩, t.consts, t.blt, t.excs, t.subs, (fun cd hcd => by
      obtain ⟨c1, c2, c3, c4, c5⟩ := t.cls cd hcd
      refine ⟨c1, c2, c3, fun f hf => ?_, fun q hq => ?_⟩
      · obtain ⟨a, fd, N, ps, d, F, e1, e2, e3, e4, e5⟩ := c4 f hf
        exact ⟨a, fd, ps, e1, e2, init_ok (t.fx n) e3 e4 c2 c3 e5⟩
      · obtain ⟨a, fd, N, ps, d, F, e1, e2, e3, e4, e5⟩ := c5 q hq
        exact ⟨a, fd, ps, e1, e2, fn_ok (t.fx n) e3 e4 e5⟩), t.dcts⟩
/-- no exception leaves -/
theorem fn_nox {k : Nat} {f : Addr} {fd : FuncData} {ps : List Str} {sp : Sp} (F : FnOk prog w K mg base (L2.CX prog w) k f fd ps sp) : FnOk prog w K mg base CX0 k f fd ps (fun vs H Q _ => sp vs H Q fun _ _ _ => False) :=
  ⟨fun vs H Q E h => F.len vs H Q _ h, fun A outer s H args us vs Q E hr he hb hv h => codeAny_mono (F.run A outer s H args us vs Q _ hr he hb hv h) fun r s' hq => by
    cases r with
    | error e =>
      obtain ⟨_, _, _, _, _, _, _, _, _, _, _, _, z⟩ := hq
      exact z.elim
    | ok fl => cases fl <;> exact hq⟩
/-- the law's call -/
theorem law_sp {f k : Nat} {H : Hp} {a : Addr} {ns : List Int} {M' : Mem} {md : Md} (h : callN P k f [.lst (ns.map .int)] [] = .ok (md, .bl true) M') (hS : SqL K H a (ns.map V.int)) :
    spF K cl P k f [.ref a] H (fun v _ => v = .bl true) fun _ _ _ => False := by
  have reps : ∀ ns : List Int, ∀ {F : Hp}, Reps K [] F (ns.map V.int) (ns.map D.int) := fun ns F => by
    induction ns with
    | nil => exact .nil
    | cons n ns ih => exact .cons (.int n) ih
  refine ⟨[], fun b => if b = a then H a else none, [], [.lst (ns.map .int)], fun b u hb => ?_, ⟨rfl, .nil, fun n b mo h => by simp at h⟩, .cons (.lst ?_ (reps ns)) .nil, ?_⟩
  · dsimp only at hb
    split at hb
    · rename_i e; rw [e]; exact .inl hb
    · cases hb
  · rcases hS with (q | ⟨o, q⟩) | q
    · exact .inl (.inl (by simp only [if_true]; exact q))
    · exact .inl (.inr ⟨o, by simp only [if_true]; exact q⟩)
    · exact .inr q
  · rw [h]
    intro ι' F' H' s f m v T hv hT
    have := hv.flat (.inr rfl)
    cases this
    rfl
end
end VL

/-! VG: the head's facts, with tuples of the top and what the errors' classes say -/
namespace VL
open PySem PySem.Spec PyProof.Rows L2
theorem excB_ok {K : PySem.W.Frag} {D : Addr} (h : excB K D = true) : L2.ExcC K D := by
  unfold excB at h
  simp only [Bool.and_eq_true, decide_eq_true_eq] at h
  obtain ⟨h1, h2, h3, h4, h5, h6, h7, h8⟩ := h
  exact ⟨He.eqO_ok h1, He.eqO_ok h2, h3, h4, He.eqO_ok h5, He.eqO_ok h6, h7, h8⟩
theorem kepB_ok {K : PySem.W.Frag} {x : Str} (h : kepB K x = true) : TupK K (He.ga K x) := by
  unfold kepB at h
  split at h
  · rename_i o e
    simp only [Bool.and_eq_true, decide_eq_true_eq, Option.isNone_iff_eq_none] at h
    exact ⟨o, e, h.1, h.2⟩
  · cases h
section
variable {fa : List He.Fa} {fn : List He.DefD} {ex : Ex3} {w : World} {K : PySem.W.Frag}
theorem SaysX.d (c : SaysX fa fn ex w K) : He.SaysD fa fn K := congrArg (fun z : AlX => z.1) c
theorem SaysX.x (c : SaysX fa fn ex w K) : ex.ok K = true := congrArg (fun z : AlX => z.2.1) c
theorem SaysX.k (c : SaysX fa fn ex w K) : ex.keys K = ex.due w := congrArg (fun z : AlX => z.2.2) c
theorem SaysX.tup (c : SaysX fa fn ex w K) {t : Str × List He.Dv} (h : t ∈ ex.tups) : He.tupB K t.1 t.2 = true := by
  have := c.x
  unfold Ex3.ok at this
  simp only [Bool.and_eq_true, List.all_eq_true] at this
  exact (this.1 t h).1
theorem SaysX.kep (c : SaysX fa fn ex w K) {t : Str × List He.Dv} (h : t ∈ ex.tups) : TupK K (He.ga K t.1) := by
  have := c.x
  unfold Ex3.ok at this
  simp only [Bool.and_eq_true, List.all_eq_true] at this
  exact kepB_ok (this.1 t h).2
theorem SaysX.has (c : SaysX fa fn ex w K) {x : Str} (h : x ∈ ex.has) : L2.ExcC K (He.ga K x) ∧ PySem.W.kitOne K (.ref (He.ga K x)) (.type "ValueError") = some true := by
  have := c.x
  unfold Ex3.ok at this
  simp only [Bool.and_eq_true, List.all_eq_true] at this
  have z := this.2.1 x h
  unfold hasB at z
  simp only [Bool.and_eq_true, decide_eq_true_eq] at z
  exact ⟨excB_ok z.1, z.2⟩
theorem SaysX.sub (c : SaysX fa fn ex w K) {t : Str × Str × Bool} (h : t ∈ ex.subs) : PySem.W.exmOne K (.ref (He.ga K t.1)) (.ref (He.ga K t.2.1)) = some t.2.2 ∧ PySem.W.kitOne K (.ref (He.ga K t.1)) (.ref (He.ga K t.2.1)) = some t.2.2 := by
  have := c.x
  unfold Ex3.ok at this
  simp only [Bool.and_eq_true, List.all_eq_true] at this
  have z := this.2.2.1 t h
  unfold subB at z
  simp only [Bool.and_eq_true, decide_eq_true_eq] at z
  exact z
/-- a dict of the top -/
theorem SaysX.dct (c : SaysX fa fn ex w K) {t : Str × List (Str × He.Dv)} (h : t ∈ ex.dcts) {z : Str} {q : He.Dv} (hz : t.2.lookup z = some q) : KDct K w (He.ga K t.1) z (q.v K) := by
  have x := c.x
  unfold Ex3.ok at x
  simp only [Bool.and_eq_true, List.all_eq_true] at x
  have v := x.2.2.2 t h
  have k := c.k
  unfold Ex3.keys Ex3.due at k
  have k2 : He.dicW K (He.ga K t.1) = some (He.keysIn w.params (t.2.map (·.1))) := by
    obtain ⟨i, hi, e⟩ := List.getElem_of_mem h
    have g : (ex.dcts.map fun t => He.dicW K (He.ga K t.1))[i]? = (ex.dcts.map fun t => some (He.keysIn w.params (t.2.map (·.1))))[i]? := by rw [k]
    rw [List.getElem?_map, List.getElem?_map, List.getElem?_eq_getElem hi, e] at g
    exact Option.some.inj g
  obtain ⟨es, n, kd⟩ := He.dicW_ok k2
  have hm : (z, q) ∈ t.2 := by
    clear k2 v h
    generalize t.2 = l at hz
    induction l with
    | nil => cases hz
    | cons p l ih =>
      obtain ⟨a, b⟩ := p
      rw [List.lookup_cons] at hz
      split at hz
      · rename_i e
        have e : z = a := by simpa using e
        cases hz; subst e; exact List.mem_cons_self
      · exact List.mem_cons_of_mem _ (ih hz)
  obtain ⟨u, g1, g2⟩ := He.valsB_ok v hm
  exact ⟨es, n, u, kd.at_, kd.lit, g1, g2⟩
end
/-- who is under whom: from the names -/
theorem subs_ok {fa : List He.Fa} {fn : List He.DefD} {ex : Ex3} {w : World} {K : PySem.W.Frag} {P : Prog} {nm : Nms} {cl : Nat → Value} (c : SaysX fa fn ex w K) (hcl : ∀ k, cl k = .ref (He.ga K (nm.excs.getD k "")))
    (h : ∀ t ∈ P.subs, (nm.excs.getD t.1 "", nm.excs.getD t.2.1 "", t.2.2) ∈ ex.subs ∧ nm.excs.getD t.1 "" ∈ ex.has) :
    ∀ (k d : Nat) b, P.sub k d = some b → ∃ D C, cl k = .ref D ∧ cl d = .ref C ∧ L2.ExcC K D ∧ PySem.W.exmOne K (.ref D) (.ref C) = some b ∧ PySem.W.kitOne K (.ref D) (.ref C) = some b ∧
      PySem.W.kitOne K (.ref D) (.type "ValueError") = some true := by
  intro k d b hb
  unfold Prog.sub at hb
  rw [Option.map_eq_some_iff] at hb
  obtain ⟨t, ht, rfl⟩ := hb
  have hm := List.mem_of_find?_eq_some ht
  have hp := List.find?_some ht
  simp only [Bool.and_eq_true, decide_eq_true_eq] at hp
  obtain ⟨rfl, rfl⟩ := hp
  obtain ⟨z1, z2⟩ := h t hm
  obtain ⟨e1, e2⟩ := c.sub z1
  obtain ⟨e3, e4⟩ := c.has z2
  exact ⟨_, _, hcl _, hcl _, e3, e1, e2, e4⟩
/-- a table's value, as it is told -/
theorem lookup_dv {kvs : List (Str × He.Dv)} {g : He.Dv → D} {z : Str} {d : D} (h : (kvs.map fun p => (p.1, g p.2)).lookup z = some d) : ∃ q, kvs.lookup z = some q ∧ d = g q := by
  induction kvs with
  | nil => cases h
  | cons p l ih =>
    obtain ⟨a, b⟩ := p
    rw [List.map_cons, List.lookup_cons] at h
    rw [List.lookup_cons]
    split at h
    · rename_i e
      cases h
      exact ⟨b, by simp only [e], rfl⟩
    · rename_i e
      obtain ⟨q, h1, h2⟩ := ih h
      exact ⟨q, by simp only [e]; exact h1, h2⟩
theorem lookup_in {kvs : List (Str × He.Dv)} {z : Str} {q : He.Dv} (h : kvs.lookup z = some q) : q ∈ kvs.map (·.2) := by
  induction kvs with
  | nil => cases h
  | cons p l ih =>
    obtain ⟨a, b⟩ := p
    rw [List.lookup_cons] at h
    split at h
    · cases h; exact List.mem_cons_self
    · exact List.mem_cons_of_mem _ (ih h)
end VL

namespace VL
open PySem
/- _law_same(told, due): 0=told 1=due 2=k -/
def t__law_same_l1 (c__law_same : Nat) : List Sm := [.ifs (.not (.call c__law_same [(.ix (.var 0) (.var 2)), (.ix (.var 1) (.var 2))])) [.ret (.lit (.bl false))] [],
  .kill [2]]
def t__law_same (c__law_same : Nat) : List Sm := [.ifs (.isi (.var 1) .list) [.ifs (.or [(.not (.isi (.var 0) .list)), (.cmp .ne (.blt .len [(.var 0)]) (.blt .len [(.var 1)]))]) [.ret (.lit (.bl false))] []] [.ifs (.isi (.var 1) .tuple) [.ifs (.or [(.not (.isi (.var 0) .tuple)), (.cmp .ne (.blt .len [(.var 0)]) (.blt .len [(.var 1)]))]) [.ret (.lit (.bl false))] []] [.ifs (.isN (.var 1) false) [.ret (.isN (.var 0) false)] [.ifs (.isi (.var 1) .bool) [.ret (.and [(.isi (.var 0) .bool), (.cmp .eq (.var 0) (.var 1))])] [.ifs (.isi (.var 1) .int) [.ret (.and [(.isi (.var 0) .int), (.not (.isi (.var 0) .bool)), (.cmp .eq (.var 0) (.var 1))])] [.ret (.and [(.isi (.var 0) .str), (.cmp .eq (.var 0) (.var 1))])]]]]],
  .for_ (.v 2) .rng1 [(.blt .len [(.var 1)])] (t__law_same_l1 c__law_same),
  .ret (.lit (.bl true))]
/- _law_cell(script, k): 0=script 1=k -/
def t__law_cell : List Sm := [.ifs (.cmp .lt (.var 1) (.blt .len [(.var 0)])) [.ret (.blt .int [(.ix (.var 0) (.var 1))])] [],
  .ret (.lit (.int 0))]
/- _law_numbers(cell, count, limit): 0=cell 1=count 2=limit 3=found 4=k 5=mixed -/
def t__law_numbers_l1 : List Sm := [.mut 3 [] .app (.a (.e (.bin .mod (.blt .int [(.var 0)]) (.var 2)))),
  .asg (.v 0) (.bin .fdiv (.blt .int [(.var 0)]) (.var 2)),
  .kill [4]]
def t__law_numbers_l2 : List Sm := [.asg (.v 5) (.bin .mod (.blt .int [(.bin .add (.bin .add (.bin .mul (.var 0) (.lit (.int 48271))) (.bin .mul (.var 4) (.lit (.int 69621)))) (.lit (.int 7)))]) (.lit (.int 2147483647))),
  .asg (.v 5) (.bin .mod (.blt .int [(.bin .add (.bin .add (.bin .add (.bin .mul (.var 5) (.var 5)) (.bin .mul (.var 5) (.lit (.int 40692)))) (.bin .mul (.var 4) (.lit (.int 16807)))) (.lit (.int 11)))]) (.lit (.int 2147483399))),
  .mut 3 [] .app (.a (.e (.bin .mod (.blt .int [(.bin .fdiv (.var 5) (.lit (.int 32)))]) (.var 2)))),
  .kill [4, 5]]
def t__law_numbers : List Sm := [.own 3 (.dn (.lst [])),
  .ifs (.cmp .ge (.var 0) (.bin .pow (.lit (.int 10)) (.lit (.int 18)))) [.for_ (.v 4) .rng1 [(.var 1)] (t__law_numbers_l1), .freeze 3, .ret (.var 3)] [],
  .for_ (.v 4) .rng1 [(.var 1)] (t__law_numbers_l2),
  .freeze 3,
  .ret (.var 3)]
/- _law_cell(script, at): 0=script 1=at -/
def t__law_cell_2 : List Sm := [.ifs (.cmp .lt (.var 1) (.blt .len [(.var 0)])) [.ret (.blt .int [(.ix (.var 0) (.var 1))])] [],
  .ifs (.cmp .gt (.blt .len [(.var 0)]) (.lit (.int 0))) [.ret (.bin .add (.bin .mod (.blt .int [(.ix (.var 0) (.lit (.int 0)))]) (.lit (.int 1000003))) (.bin .mul (.lit (.int 7919)) (.bin .add (.var 1) (.lit (.int 1)))))] [],
  .ret (.bin .mul (.lit (.int 7919)) (.bin .add (.var 1) (.lit (.int 1))))]
/- _law_draws(script, at, count, limit): 0=script 1=at 2=count 3=limit 4=cell 5=found 6=k 7=mixed -/
def t__law_draws_2_l1 (c__law_cell : Nat) : List Sm := [.mut 5 [] .app (.a (.e (.bin .mod (.blt .int [(.var 4)]) (.var 3)))),
  .asg (.v 4) (.bin .fdiv (.blt .int [(.var 4)]) (.var 3)),
  .kill [6]]
def t__law_draws_2_l2 (c__law_cell : Nat) : List Sm := [.asg (.v 7) (.bin .mod (.blt .int [(.bin .add (.bin .add (.bin .add (.bin .mul (.var 4) (.lit (.int 48271))) (.bin .mul (.var 1) (.lit (.int 104729)))) (.bin .mul (.var 6) (.lit (.int 69621)))) (.lit (.int 7)))]) (.lit (.int 2147483647))),
  .asg (.v 7) (.bin .mod (.blt .int [(.bin .add (.bin .add (.bin .add (.bin .mul (.var 7) (.var 7)) (.bin .mul (.var 7) (.lit (.int 40692)))) (.bin .mul (.var 6) (.lit (.int 16807)))) (.lit (.int 11)))]) (.lit (.int 2147483399))),
  .mut 5 [] .app (.a (.e (.bin .mod (.blt .int [(.bin .fdiv (.var 7) (.lit (.int 32)))]) (.var 3)))),
  .kill [6, 7]]
def t__law_draws_2 (c__law_cell : Nat) : List Sm := [.asg (.v 4) (.call c__law_cell [(.var 0), (.var 1)]),
  .own 5 (.dn (.lst [])),
  .ifs (.cmp .ge (.var 4) (.bin .pow (.lit (.int 10)) (.lit (.int 18)))) [.asg (.v 4) (.bin .sub (.var 4) (.bin .pow (.lit (.int 10)) (.lit (.int 18)))), .for_ (.v 6) .rng1 [(.var 2)] (t__law_draws_2_l1 c__law_cell), .freeze 5, .ret (.var 5)] [],
  .for_ (.v 6) .rng1 [(.var 2)] (t__law_draws_2_l2 c__law_cell),
  .freeze 5,
  .ret (.var 5)]
/- _law_mixed(number, k): 0=number 1=k 2=mixed -/
def t__law_mixed : List Sm := [.asg (.v 2) (.bin .mod (.blt .int [(.bin .add (.bin .add (.bin .mul (.var 0) (.lit (.int 48271))) (.bin .mul (.var 1) (.lit (.int 69621)))) (.lit (.int 7)))]) (.lit (.int 2147483647))),
  .asg (.v 2) (.bin .mod (.blt .int [(.bin .add (.bin .add (.bin .add (.bin .mul (.var 2) (.var 2)) (.bin .mul (.var 2) (.lit (.int 40692)))) (.bin .mul (.var 1) (.lit (.int 16807)))) (.lit (.int 11)))]) (.lit (.int 2147483399))),
  .ret (.blt .int [(.bin .fdiv (.var 2) (.lit (.int 32)))])]
/- _law_draws(script, count): 0=script 1=count 2=found 3=total 4=cell 5=rest 6=k -/
def t__law_draws_l1 (c__law_mixed : Nat) : List Sm := [.ifs (.bor (.and [(.cmp .gt (.var 5) (.lit (.int 0))), (.cmp .lt (.blt .len [(.var 2)]) (.var 1))])) [.mut 2 [] .app (.a (.e (.bin .mod (.blt .int [(.var 5)]) (.lit (.int 1000))))), .asg (.v 5) (.bin .fdiv (.blt .int [(.var 5)]) (.lit (.int 1000)))] [],
  .kill [6]]
def t__law_draws_l2 (c__law_mixed : Nat) : List Sm := [.ifs (.bor (.cmp .lt (.blt .len [(.var 2)]) (.var 1))) [.mut 2 [] .app (.a (.e (.call c__law_mixed [(.var 5), (.bor (.blt .len [(.var 2)]))])))] [],
  .kill [6]]
def t__law_draws_l3 (c__law_mixed : Nat) : List Sm := [.asg (.v 5) (.blt .int [(.var 4)]),
  .asg (.v 3) (.bin .mod (.blt .int [(.bin .add (.bin .mul (.var 3) (.lit (.int 31))) (.var 5))]) (.lit (.int 2147483647))),
  .ifs (.cmp .ge (.var 5) (.bin .pow (.lit (.int 10)) (.lit (.int 18)))) [.for_ (.v 6) .rng1 [(.lit (.int 60))] (t__law_draws_l1 c__law_mixed), .kill [6, 5]] [.for_ (.v 6) .rng1 [(.lit (.int 6))] (t__law_draws_l2 c__law_mixed), .kill [6]],
  .kill [4, 5, 6]]
def t__law_draws_l4 (c__law_mixed : Nat) : List Sm := [.ifs (.bor (.cmp .lt (.blt .len [(.var 2)]) (.var 1))) [.mut 2 [] .app (.a (.e (.call c__law_mixed [(.var 3), (.bor (.blt .len [(.var 2)]))])))] [],
  .kill [6]]
def t__law_draws (c__law_mixed : Nat) : List Sm := [.own 2 (.dn (.lst [])),
  .asg (.v 3) (.lit (.int 0)),
  .for_ (.v 4) .seq [(.var 0)] (t__law_draws_l3 c__law_mixed),
  .for_ (.v 6) .rng1 [(.var 1)] (t__law_draws_l4 c__law_mixed),
  .mut 2 [] .rev (.a (.e (.lit .non))),
  .retV 2]
/- _law_take(draws, many): 0=draws 1=many -/
def t__law_take : List Sm := [.ifs (.look (.cmp .eq (.blt .len [(.var 0)]) (.lit (.int 0)))) [.ret (.lit (.int 0))] [],
  .ret (.bin .mod (.blt .int [(.rpop (.var 0))]) (.var 1))]
/- _law_add_bond(found, one, other, edge): 0=found 1=one 2=other 3=edge 4=bond -/
def t__law_add_bond : List Sm := [.asg (.v 4) (.tup [(.blt .min [(.var 1), (.var 2)]), (.blt .max [(.var 1), (.var 2)]), (.var 3)]),
  .ifs (.look (.and [(.cmp .ne (.var 1) (.var 2)), (.cmp .notin (.var 4) (.var 0))])) [.expr (.rapp (.var 0) (.var 4))] []]
/- _law_edge_of(spine): 0=spine -/
def t__law_edge_of : List Sm := [.ret (.dix (.disp ["left", "right", "head"] [(.lit (.str "left")), (.lit (.str "right")), (.lit (.str "top"))]) (.var 0))]
/- spine_edge(spine): 0=spine -/
def t_spine_edge (k__SPINES : Nat) : List Sm := [.ret (.kget k__SPINES (.var 0))]
end VL
namespace Lw
open PySem VL
abbrev b_spine_edge : List Sm := t_spine_edge 0
/- _spine_pairs(bonds, spine): 0=bonds 1=spine 2=edge 3=bond -/
def t__spine_pairs (c_spine_edge : Nat) : List Sm := [.asg (.v 2) (.call c_spine_edge [(.var 1)]),
  .ret (.comp (.tup [(.ix (.var 3) (.lit (.int 0))), (.ix (.var 3) (.lit (.int 1)))]) (.v 3) .seq [(.var 0)] [(.cmp .eq (.ix (.var 3) (.lit (.int 2))) (.var 2))] [3])]
abbrev b__spine_pairs : List Sm := t__spine_pairs 0
/- _held_in_section(start, stop, pairs): 0=start 1=stop 2=pairs 3=found 4=middle 5=low 6=high -/
def t__held_in_section_l1 : List Sm := [.ifs (.ch4 .le .lt .le .lt (.var 0) (.var 5) (.var 4) (.var 6) (.var 1)) [.dset 3 (.var 5) (.lit (.bl true)), .dset 3 (.var 6) (.lit (.bl true))] [],
  .kill [5, 6]]
def t__held_in_section : List Sm := [.own 3 (.dn (.dict0 false)),
  .ifs (.cmp .eq (.bin .mod (.bin .sub (.var 1) (.var 0)) (.lit (.int 2))) (.lit (.int 1))) [.freeze 3, .ret (.var 3)] [],
  .asg (.v 4) (.bin .fdiv (.bin .add (.var 0) (.var 1)) (.lit (.int 2))),
  .for_ (.t [(.v 5), (.v 6)]) .seq [(.var 2)] (t__held_in_section_l1),
  .freeze 3,
  .ret (.var 3)]
abbrev b__held_in_section : List Sm := t__held_in_section
/- held(sections, bonds, spine): 0=sections 1=bonds 2=spine 3=pairs 4=found 5=size 6=start 7=kept 8=index -/
def t_held_l1 (c__spine_pairs : Nat) (c__held_in_section : Nat) : List Sm := [.asg (.v 6) (.bor (.blt .len [(.var 4)])),
  .asg (.v 7) (.call c__held_in_section [(.var 6), (.bin .add (.var 6) (.var 5)), (.var 3)]),
  .ext 4 [] (.comp (.e (.din (.var 8) (.var 7) false)) (.v 8) .rng2 [(.var 6), (.bin .add (.var 6) (.var 5))] [] [8]),
  .kill [5, 6, 7]]
def t_held (c__spine_pairs : Nat) (c__held_in_section : Nat) : List Sm := [.asg (.v 3) (.call c__spine_pairs [(.var 1), (.var 2)]),
  .own 4 (.dn (.lst [])),
  .for_ (.v 5) .seq [(.var 0)] (t_held_l1 c__spine_pairs c__held_in_section),
  .retV 4]
abbrev b_held : List Sm := t_held 1 2
/- loose(sections, bonds, spine, binding): 0=sections 1=bonds 2=spine 3=binding 4=kept 5=index -/
def t_loose (c_held : Nat) : List Sm := [.ifs (.cmp .eq (.var 3) (.lit (.str "glued"))) [.retA (.dn (.lst []))] [],
  .asg (.v 4) (.call c_held [(.var 0), (.var 1), (.var 2)]),
  .retA (.dn (.comp (.e (.var 5)) (.v 5) .rng1 [(.blt .len [(.var 4)])] [(.not (.ix (.var 4) (.var 5)))] [5]))]
abbrev b_loose : List Sm := t_loose 3
abbrev b__law_mixed : List Sm := t__law_mixed
abbrev b__law_draws : List Sm := t__law_draws 5
abbrev b__law_take : List Sm := t__law_take
abbrev b__law_same : List Sm := t__law_same 8
abbrev b__law_add_bond : List Sm := t__law_add_bond
abbrev b__law_edge_of : List Sm := t__law_edge_of
/- _law_starts(sections): 0=sections 1=found 2=start 3=size -/
def t__law_starts_l1 : List Sm := [.mut 1 [] .app (.a (.e (.var 2))),
  .asg (.v 2) (.bin .add (.var 2) (.var 3)),
  .kill [3]]
def t__law_starts : List Sm := [.own 1 (.dn (.lst [])),
  .asg (.v 2) (.lit (.int 0)),
  .for_ (.v 3) .seq [(.var 0)] (t__law_starts_l1),
  .freeze 1,
  .ret (.var 1)]
abbrev b__law_starts : List Sm := t__law_starts
/- _law_drawn(draws, sections, edge): 0=draws 1=sections 2=edge 3=starts 4=count 5=found 6=k 7=pick 8=size 9=one 10=other 11=way 12=told -/
def t__law_drawn_l1 (c__law_starts : Nat) (c__law_take : Nat) (c__law_add_bond : Nat) : List Sm := [.asg (.v 7) (.call c__law_take [(.var 0), (.blt .len [(.var 1)])]),
  .asg (.v 8) (.ix (.var 1) (.var 7)),
  .asg (.v 9) (.bin .add (.ix (.var 3) (.var 7)) (.call c__law_take [(.var 0), (.var 8)])),
  .asg (.v 10) (.bin .add (.ix (.var 3) (.var 7)) (.call c__law_take [(.var 0), (.var 8)])),
  .asg (.v 11) (.call c__law_take [(.var 0), (.lit (.int 6))]),
  .ifs (.cmp .eq (.var 11) (.lit (.int 1))) [.asg (.v 10) (.bin .add (.ix (.var 3) (.var 7)) (.bin .fdiv (.var 8) (.lit (.int 2))))] [.ifs (.cmp .eq (.var 11) (.lit (.int 2))) [.asg (.v 10) (.bin .add (.ix (.var 3) (.var 7)) (.blt .max [(.lit (.int 0)), (.bin .sub (.bin .fdiv (.var 8) (.lit (.int 2))) (.lit (.int 1)))]))] [.ifs (.cmp .eq (.var 11) (.lit (.int 3))) [.asg (.v 10) (.call c__law_take [(.var 0), (.var 4)])] []]],
  .asg (.v 12) (.var 2),
  .ifs (.cmp .eq (.call c__law_take [(.var 0), (.lit (.int 4))]) (.lit (.int 1))) [.asg (.v 12) (.ix (.lst [(.lit (.str "left")), (.lit (.str "right")), (.lit (.str "top")), (.lit (.str "bottom"))]) (.call c__law_take [(.var 0), (.lit (.int 4))]))] [],
  .expr (.call c__law_add_bond [(.var 5), (.var 9), (.var 10), (.var 12)]),
  .kill [6, 7, 8, 9, 10, 11, 12]]
def t__law_drawn (c__law_starts : Nat) (c__law_take : Nat) (c__law_add_bond : Nat) : List Sm := [.asg (.v 3) (.call c__law_starts [(.var 1)]),
  .asg (.v 4) (.bin .add (.ix (.var 3) (.bin .sub (.blt .len [(.var 3)]) (.lit (.int 1)))) (.ix (.var 1) (.bin .sub (.blt .len [(.var 1)]) (.lit (.int 1))))),
  .own 5 (.dn (.lst [])),
  .toRef 5,
  .for_ (.v 6) .rng1 [(.call c__law_take [(.var 0), (.lit (.int 61))])] (t__law_drawn_l1 c__law_starts c__law_take c__law_add_bond),
  .ret (.var 5)]
abbrev b__law_drawn : List Sm := t__law_drawn 11 7 9
/- _law_held(sections, bonds, edge): 0=sections 1=bonds 2=edge 3=starts 4=found 5=k 6=start 7=stop 8=middle 9=layer 10=own 11=bond -/
def t__law_held_l1 (c__law_starts : Nat) : List Sm := [.asg (.v 10) (.comp (.var 11) (.v 11) .seq [(.var 1)] [(.and [(.cmp .eq (.ix (.var 11) (.lit (.int 2))) (.var 2)), (.or [(.cmp .eq (.ix (.var 11) (.lit (.int 0))) (.var 9)), (.cmp .eq (.ix (.var 11) (.lit (.int 1))) (.var 9))])])] [11]),
  .asg (.v 10) (.comp (.var 11) (.v 11) .seq [(.var 10)] [(.and [(.cmp .le (.var 6) (.ix (.var 11) (.lit (.int 0)))), (.cmp .lt (.ix (.var 11) (.lit (.int 0))) (.var 8)), (.cmp .le (.var 8) (.ix (.var 11) (.lit (.int 1)))), (.cmp .lt (.ix (.var 11) (.lit (.int 1))) (.var 7))])] [11]),
  .mut 4 [] .app (.a (.e (.and [(.cmp .gt (.blt .len [(.var 10)]) (.lit (.int 0))), (.cmp .eq (.bin .mod (.blt .int [(.ix (.var 0) (.var 5))]) (.lit (.int 2))) (.lit (.int 0)))]))),
  .kill [9, 10]]
def t__law_held_l2 (c__law_starts : Nat) : List Sm := [.asg (.v 6) (.ix (.var 3) (.var 5)),
  .asg (.v 7) (.bin .add (.var 6) (.ix (.var 0) (.var 5))),
  .asg (.v 8) (.bin .add (.var 6) (.bin .fdiv (.ix (.var 0) (.var 5)) (.lit (.int 2)))),
  .for_ (.v 9) .rng2 [(.var 6), (.var 7)] (t__law_held_l1 c__law_starts),
  .kill [5, 6, 7, 8, 9, 10]]
def t__law_held (c__law_starts : Nat) : List Sm := [.asg (.v 3) (.call c__law_starts [(.var 0)]),
  .own 4 (.dn (.lst [])),
  .for_ (.v 5) .rng1 [(.blt .len [(.var 0)])] (t__law_held_l2 c__law_starts),
  .retV 4]
abbrev b__law_held : List Sm := t__law_held 11
/- law(script): 0=script 1=draws 2=k 3=sections 4=spine 5=edge 6=bonds 7=due 8=handed 9=handed_bonds 10=j 11=told 12=other 13=i -/
def t_law_l1 (c__law_draws : Nat) (c__law_take : Nat) (c__law_edge_of : Nat) (c__law_drawn : Nat) (c__law_held : Nat) (c_held : Nat) (c__law_same : Nat) (c_loose : Nat) : List Sm := [.own 11 (.dn (.call c_held [(.var 8), (.var 9), (.var 4)])),
  .ifs (.bor (.not (.call c__law_same [(.var 11), (.var 7)]))) [.ret (.lit (.bl false))] [],
  .mut 11 [] .app (.a (.e (.lit (.bl true)))),
  .own 11 (.dn (.call c_loose [(.var 8), (.var 9), (.var 4), (.lit (.str "sewn"))])),
  .ifs (.bor (.not (.call c__law_same [(.var 11), (.comp (.var 13) (.v 13) .rng1 [(.blt .len [(.var 7)])] [(.not (.ix (.var 7) (.var 13)))] [13])]))) [.ret (.lit (.bl false))] [],
  .mut 11 [] .app (.a (.e (.lit (.int 0)))),
  .own 11 (.dn (.call c_loose [(.var 8), (.var 9), (.var 4), (.lit (.str "glued"))])),
  .ifs (.bor (.not (.call c__law_same [(.var 11), (.lst [])]))) [.ret (.lit (.bl false))] [],
  .mut 11 [] .app (.a (.e (.lit (.int 0)))),
  .kill [10, 11]]
def t_law_l2 (c__law_draws : Nat) (c__law_take : Nat) (c__law_edge_of : Nat) (c__law_drawn : Nat) (c__law_held : Nat) (c_held : Nat) (c__law_same : Nat) (c_loose : Nat) : List Sm := [.asg (.v 3) (.comp (.bin .add (.lit (.int 1)) (.call c__law_take [(.var 1), (.ix (.lst [(.lit (.int 4)), (.lit (.int 16)), (.lit (.int 7))]) (.var 2))])) (.v 10) .rng1 [(.bin .add (.lit (.int 1)) (.call c__law_take [(.var 1), (.ix (.lst [(.lit (.int 3)), (.lit (.int 4)), (.lit (.int 8))]) (.var 2))]))] [] [10]),
  .asg (.v 4) (.ix (.lst [(.lit (.str "left")), (.lit (.str "right")), (.lit (.str "head"))]) (.call c__law_take [(.var 1), (.lit (.int 3))])),
  .asg (.v 5) (.call c__law_edge_of [(.var 4)]),
  .asg (.v 6) (.call c__law_drawn [(.var 1), (.var 3), (.var 5)]),
  .own 7 (.look (.dn (.call c__law_held [(.var 3), (.var 6), (.var 5)]))),
  .freeze 7,
  .asg (.v 8) (.blt .list [(.var 3)]),
  .own 9 (.look (.dn (.fr (.blt .list [(.var 6)])))),
  .freeze 9,
  .for_ (.v 10) .rng1 [(.lit (.int 2))] (t_law_l1 c__law_draws c__law_take c__law_edge_of c__law_drawn c__law_held c_held c__law_same c_loose),
  .ifs (.look (.or [(.cmp .ne (.var 8) (.var 3)), (.cmp .ne (.var 9) (.var 6))])) [.ret (.lit (.bl false))] [],
  .asg (.v 12) (.ix (.lst [(.lit (.str "left")), (.lit (.str "right")), (.lit (.str "head"))]) (.call c__law_take [(.var 1), (.lit (.int 3))])),
  .ifs (.look (.not (.call c__law_same [(.call c_held [(.blt .list [(.var 3)]), (.blt .list [(.var 6)]), (.var 12)]), (.call c__law_held [(.var 3), (.var 6), (.call c__law_edge_of [(.var 12)])])]))) [.ret (.lit (.bl false))] [],
  .kill [2, 3, 4, 5, 6, 7, 8, 9, 10, 11, 12]]
def t_law (c__law_draws : Nat) (c__law_take : Nat) (c__law_edge_of : Nat) (c__law_drawn : Nat) (c__law_held : Nat) (c_held : Nat) (c__law_same : Nat) (c_loose : Nat) : List Sm := [.own 1 (.dn (.call c__law_draws [(.var 0), (.lit (.int 520))])),
  .toRef 1,
  .for_ (.v 2) .rng1 [(.lit (.int 3))] (t_law_l2 c__law_draws c__law_take c__law_edge_of c__law_drawn c__law_held c_held c__law_same c_loose),
  .ret (.lit (.bl true))]
abbrev b_law : List Sm := t_law 6 7 10 12 13 3 8 4
def P : Prog := ⟨[⟨1, 1, b_spine_edge⟩, ⟨2, 4, b__spine_pairs⟩, ⟨3, 7, b__held_in_section⟩, ⟨3, 9, b_held⟩, ⟨4, 6, b_loose⟩, ⟨2, 3, b__law_mixed⟩, ⟨2, 7, b__law_draws⟩, ⟨2, 2, b__law_take⟩, ⟨2, 3, b__law_same⟩, ⟨4, 5, b__law_add_bond⟩, ⟨1, 1, b__law_edge_of⟩, ⟨1, 4, b__law_starts⟩, ⟨3, 13, b__law_drawn⟩, ⟨3, 12, b__law_held⟩, ⟨1, 14, b_law⟩],
  [],
  [],
  [[("left", (.str "left")), ("right", (.str "right")), ("head", (.str "top"))]]⟩
theorem P_spine_edge : P.fns[0]? = some ⟨1, 1, b_spine_edge⟩ := rfl
theorem P__spine_pairs : P.fns[1]? = some ⟨2, 4, b__spine_pairs⟩ := rfl
theorem P__held_in_section : P.fns[2]? = some ⟨3, 7, b__held_in_section⟩ := rfl
theorem P_held : P.fns[3]? = some ⟨3, 9, b_held⟩ := rfl
theorem P_loose : P.fns[4]? = some ⟨4, 6, b_loose⟩ := rfl
theorem P__law_mixed : P.fns[5]? = some ⟨2, 3, b__law_mixed⟩ := rfl
theorem P__law_draws : P.fns[6]? = some ⟨2, 7, b__law_draws⟩ := rfl
theorem P__law_take : P.fns[7]? = some ⟨2, 2, b__law_take⟩ := rfl
theorem P__law_same : P.fns[8]? = some ⟨2, 3, b__law_same⟩ := rfl
theorem P__law_add_bond : P.fns[9]? = some ⟨4, 5, b__law_add_bond⟩ := rfl
theorem P__law_edge_of : P.fns[10]? = some ⟨1, 1, b__law_edge_of⟩ := rfl
theorem P__law_starts : P.fns[11]? = some ⟨1, 4, b__law_starts⟩ := rfl
theorem P__law_drawn : P.fns[12]? = some ⟨3, 13, b__law_drawn⟩ := rfl
theorem P__law_held : P.fns[13]? = some ⟨3, 12, b__law_held⟩ := rfl
theorem P_law : P.fns[14]? = some ⟨1, 14, b_law⟩ := rfl
end Lw

section
namespace Lw
open PySem PySem.Spec PyProof.Rows L2 VL
def nmF0 : List Str := ["spine_edge", "_spine_pairs", "_held_in_section", "held", "loose", "_law_mixed", "_law_draws", "_law_take", "_law_same", "_law_add_bond", "_law_edge_of", "_law_starts", "_law_drawn", "_law_held", "law"]
def nm : Nms := ⟨nmF0, [], [], [], ["_SPINES"]⟩
theorem m_spine_edge : mFn nm ["spine"] ["spine"] ⟨1, 1, b_spine_edge⟩ d_spine_edge = true := by decide +kernel
theorem m__spine_pairs : mFn nm ["bonds", "spine", "edge", "bond"] ["bonds", "spine"] ⟨2, 4, b__spine_pairs⟩ d__spine_pairs = true := by decide +kernel
theorem m__held_in_section : mFn nm ["start", "stop", "pairs", "found", "middle", "low", "high"] ["start", "stop", "pairs"] ⟨3, 7, b__held_in_section⟩ d__held_in_section = true := by decide +kernel
theorem m_held : mFn nm ["sections", "bonds", "spine", "pairs", "found", "size", "start", "kept", "index"] ["sections", "bonds", "spine"] ⟨3, 9, b_held⟩ d_held = true := by decide +kernel
theorem m_loose : mFn nm ["sections", "bonds", "spine", "binding", "kept", "index"] ["sections", "bonds", "spine", "binding"] ⟨4, 6, b_loose⟩ d_loose = true := by decide +kernel
theorem m__law_mixed : mFn nm ["number", "k", "mixed"] ["number", "k"] ⟨2, 3, b__law_mixed⟩ d__law_mixed = true := by decide +kernel
theorem m__law_draws : mFn nm ["script", "count", "found", "total", "cell", "rest", "k"] ["script", "count"] ⟨2, 7, b__law_draws⟩ d__law_draws = true := by decide +kernel
theorem m__law_take : mFn nm ["draws", "many"] ["draws", "many"] ⟨2, 2, b__law_take⟩ d__law_take = true := by decide +kernel
theorem m__law_same : mFn nm ["told", "due", "k"] ["told", "due"] ⟨2, 3, b__law_same⟩ d__law_same = true := by decide +kernel
theorem m__law_add_bond : mFn nm ["found", "one", "other", "edge", "bond"] ["found", "one", "other", "edge"] ⟨4, 5, b__law_add_bond⟩ d__law_add_bond = true := by decide +kernel
theorem m__law_edge_of : mFn nm ["spine"] ["spine"] ⟨1, 1, b__law_edge_of⟩ d__law_edge_of = true := by decide +kernel
theorem m__law_starts : mFn nm ["sections", "found", "start", "size"] ["sections"] ⟨1, 4, b__law_starts⟩ d__law_starts = true := by decide +kernel
theorem m__law_drawn : mFn nm ["draws", "sections", "edge", "starts", "count", "found", "k", "pick", "size", "one", "other", "way", "told"] ["draws", "sections", "edge"] ⟨3, 13, b__law_drawn⟩ d__law_drawn = true := by decide +kernel
theorem m__law_held : mFn nm ["sections", "bonds", "edge", "starts", "found", "k", "start", "stop", "middle", "layer", "own", "bond"] ["sections", "bonds", "edge"] ⟨3, 12, b__law_held⟩ d__law_held = true := by decide +kernel
theorem m_law : mFn nm ["script", "draws", "k", "sections", "spine", "edge", "bonds", "due", "handed", "handed_bonds", "j", "told", "other", "i"] ["script"] ⟨1, 14, b_law⟩ d_law = true := by decide +kernel
section
variable {K : PySem.W.Frag} {h : Heap} {mg : Str → Option Value}
theorem tx_fns (X : K.In h) (G : h.Ns mainGlobals mg) (c : He.SaysD fa fn K) : ∀ (f : Nat) x, nm.fns[f]? = some x → ∃ (a : Addr) (fd : FuncData) (N ps : List Str) (d : He.DefD) (F : Fn), mg x = some (.ref a) ∧ PySem.W.keepIn K (.ref a) = true ∧ Binds K fd ps [] ∧ P.fns[f]? = some F ∧ mFn nm N ps F d = true ∧
    FunD K d.name d.qual d.params d.body d.scope (d.dvs K) (d.kws K) a fd
  | 0, x, hx => by
    cases hx
    obtain ⟨fd, D0⟩ := c.def_ 0 (d := d_spine_edge) rfl
    exact ⟨_, fd, _, _, _, _, He.glo_ok X G (c.fact 0 (f := .glo "spine_edge") rfl), D0.kp, FunD.bindsN D0 (fun _ _ _ _ _ _ us hl => match us, hl with | [_], _ => rfl), P_spine_edge, m_spine_edge, D0⟩
  | 1, x, hx => by
    cases hx
    obtain ⟨fd, D0⟩ := c.def_ 1 (d := d__spine_pairs) rfl
    exact ⟨_, fd, _, _, _, _, He.glo_ok X G (c.fact 1 (f := .glo "_spine_pairs") rfl), D0.kp, FunD.bindsN D0 (fun _ _ _ _ _ _ us hl => match us, hl with | [_, _], _ => rfl), P__spine_pairs, m__spine_pairs, D0⟩
  | 2, x, hx => by
    cases hx
    obtain ⟨fd, D0⟩ := c.def_ 2 (d := d__held_in_section) rfl
    exact ⟨_, fd, _, _, _, _, He.glo_ok X G (c.fact 2 (f := .glo "_held_in_section") rfl), D0.kp, FunD.bindsN D0 (fun _ _ _ _ _ _ us hl => match us, hl with | [_, _, _], _ => rfl), P__held_in_section, m__held_in_section, D0⟩
  | 3, x, hx => by
    cases hx
    obtain ⟨fd, D0⟩ := c.def_ 3 (d := d_held) rfl
    exact ⟨_, fd, _, _, _, _, He.glo_ok X G (c.fact 3 (f := .glo "held") rfl), D0.kp, FunD.bindsN D0 (fun _ _ _ _ _ _ us hl => match us, hl with | [_, _, _], _ => rfl), P_held, m_held, D0⟩
  | 4, x, hx => by
    cases hx
    obtain ⟨fd, D0⟩ := c.def_ 4 (d := d_loose) rfl
    exact ⟨_, fd, _, _, _, _, He.glo_ok X G (c.fact 4 (f := .glo "loose") rfl), D0.kp, FunD.bindsN D0 (fun _ _ _ _ _ _ us hl => match us, hl with | [_, _, _, _], _ => rfl), P_loose, m_loose, D0⟩
  | 5, x, hx => by
    cases hx
    obtain ⟨fd, D0⟩ := c.def_ 5 (d := d__law_mixed) rfl
    exact ⟨_, fd, _, _, _, _, He.glo_ok X G (c.fact 5 (f := .glo "_law_mixed") rfl), D0.kp, FunD.bindsN D0 (fun _ _ _ _ _ _ us hl => match us, hl with | [_, _], _ => rfl), P__law_mixed, m__law_mixed, D0⟩
  | 6, x, hx => by
    cases hx
    obtain ⟨fd, D0⟩ := c.def_ 6 (d := d__law_draws) rfl
    exact ⟨_, fd, _, _, _, _, He.glo_ok X G (c.fact 6 (f := .glo "_law_draws") rfl), D0.kp, FunD.bindsN D0 (fun _ _ _ _ _ _ us hl => match us, hl with | [_, _], _ => rfl), P__law_draws, m__law_draws, D0⟩
  | 7, x, hx => by
    cases hx
    obtain ⟨fd, D0⟩ := c.def_ 7 (d := d__law_take) rfl
    exact ⟨_, fd, _, _, _, _, He.glo_ok X G (c.fact 7 (f := .glo "_law_take") rfl), D0.kp, FunD.bindsN D0 (fun _ _ _ _ _ _ us hl => match us, hl with | [_, _], _ => rfl), P__law_take, m__law_take, D0⟩
  | 8, x, hx => by
    cases hx
    obtain ⟨fd, D0⟩ := c.def_ 8 (d := d__law_same) rfl
    exact ⟨_, fd, _, _, _, _, He.glo_ok X G (c.fact 8 (f := .glo "_law_same") rfl), D0.kp, FunD.bindsN D0 (fun _ _ _ _ _ _ us hl => match us, hl with | [_, _], _ => rfl), P__law_same, m__law_same, D0⟩
  | 9, x, hx => by
    cases hx
    obtain ⟨fd, D0⟩ := c.def_ 9 (d := d__law_add_bond) rfl
    exact ⟨_, fd, _, _, _, _, He.glo_ok X G (c.fact 9 (f := .glo "_law_add_bond") rfl), D0.kp, FunD.bindsN D0 (fun _ _ _ _ _ _ us hl => match us, hl with | [_, _, _, _], _ => rfl), P__law_add_bond, m__law_add_bond, D0⟩
  | 10, x, hx => by
    cases hx
    obtain ⟨fd, D0⟩ := c.def_ 10 (d := d__law_edge_of) rfl
    exact ⟨_, fd, _, _, _, _, He.glo_ok X G (c.fact 10 (f := .glo "_law_edge_of") rfl), D0.kp, FunD.bindsN D0 (fun _ _ _ _ _ _ us hl => match us, hl with | [_], _ => rfl), P__law_edge_of, m__law_edge_of, D0⟩
  | 11, x, hx => by
    cases hx
    obtain ⟨fd, D0⟩ := c.def_ 11 (d := d__law_starts) rfl
    exact ⟨_, fd, _, _, _, _, He.glo_ok X G (c.fact 11 (f := .glo "_law_starts") rfl), D0.kp, FunD.bindsN D0 (fun _ _ _ _ _ _ us hl => match us, hl with | [_], _ => rfl), P__law_starts, m__law_starts, D0⟩
  | 12, x, hx => by
    cases hx
    obtain ⟨fd, D0⟩ := c.def_ 12 (d := d__law_drawn) rfl
    exact ⟨_, fd, _, _, _, _, He.glo_ok X G (c.fact 12 (f := .glo "_law_drawn") rfl), D0.kp, FunD.bindsN D0 (fun _ _ _ _ _ _ us hl => match us, hl with | [_, _, _], _ => rfl), P__law_drawn, m__law_drawn, D0⟩
  | 13, x, hx => by
    cases hx
    obtain ⟨fd, D0⟩ := c.def_ 13 (d := d__law_held) rfl
    exact ⟨_, fd, _, _, _, _, He.glo_ok X G (c.fact 13 (f := .glo "_law_held") rfl), D0.kp, FunD.bindsN D0 (fun _ _ _ _ _ _ us hl => match us, hl with | [_, _, _], _ => rfl), P__law_held, m__law_held, D0⟩
  | 14, x, hx => by
    cases hx
    obtain ⟨fd, D0⟩ := c.def_ 14 (d := d_law) rfl
    exact ⟨_, fd, _, _, _, _, He.glo_ok X G (c.fact 14 (f := .glo "law") rfl), D0.kp, FunD.bindsN D0 (fun _ _ _ _ _ _ us hl => match us, hl with | [_], _ => rfl), P_law, m_law, D0⟩
  | n + 15, x, hx => by simp [nm, nmF0] at hx
theorem tx_blt (X : K.In h) (G : h.Ns mainGlobals mg) (c : He.SaysD fa fn K) : ∀ x ∈ bltNames, mg x = none := by
  intro x hx
  simp only [bltNames, List.mem_cons, List.not_mem_nil, or_false] at hx
  rcases hx with rfl | rfl | rfl | rfl | rfl | rfl | rfl | rfl | rfl | rfl | rfl | rfl | rfl | rfl | rfl | rfl | rfl | rfl | rfl | rfl
  · exact He.free_ok X G (c.fact 15 (f := .free "len") rfl)
  · exact He.free_ok X G (c.fact 16 (f := .free "int") rfl)
  · exact He.free_ok X G (c.fact 17 (f := .free "list") rfl)
  · exact He.free_ok X G (c.fact 18 (f := .free "tuple") rfl)
  · exact He.free_ok X G (c.fact 19 (f := .free "max") rfl)
  · exact He.free_ok X G (c.fact 20 (f := .free "min") rfl)
  · exact He.free_ok X G (c.fact 21 (f := .free "abs") rfl)
  · exact He.free_ok X G (c.fact 22 (f := .free "sum") rfl)
  · exact He.free_ok X G (c.fact 23 (f := .free "sorted") rfl)
  · exact He.free_ok X G (c.fact 24 (f := .free "any") rfl)
  · exact He.free_ok X G (c.fact 25 (f := .free "all") rfl)
  · exact He.free_ok X G (c.fact 26 (f := .free "str") rfl)
  · exact He.free_ok X G (c.fact 27 (f := .free "range") rfl)
  · exact He.free_ok X G (c.fact 28 (f := .free "reversed") rfl)
  · exact He.free_ok X G (c.fact 29 (f := .free "zip") rfl)
  · exact He.free_ok X G (c.fact 30 (f := .free "enumerate") rfl)
  · exact He.free_ok X G (c.fact 31 (f := .free "isinstance") rfl)
  · exact He.free_ok X G (c.fact 32 (f := .free "bool") rfl)
  · exact He.free_ok X G (c.fact 33 (f := .free "dict") rfl)
  · exact He.free_ok X G (c.fact 34 (f := .free "ValueError") rfl)
def cl (K : PySem.W.Frag) : Nat → Value := fun k => .ref (He.ga K (nm.excs.getD k ""))
theorem tx_excs (X : K.In h) (G : h.Ns mainGlobals mg) (c : He.SaysD fa fn K) : ∀ (k : Nat) x, nm.excs[k]? = some x → ∃ C, cl K k = .ref C ∧ mg x = some (.ref C) ∧ PySem.W.keepIn K (.ref C) = true ∧
    PySem.W.excIn K C [.type "ValueError", .type "Exception", .type "BaseException", .type "object"] "ValueError.__new__" = true ∧
    PySem.W.subIn K (.ref C) (.type "BaseException") = some true ∧ PySem.W.typeIn K (.ref C) = some (.type "type")
  | n + 0, x, hx => by simp [nm] at hx
theorem tx_consts (X : K.In h) (G : h.Ns mainGlobals mg) (c : He.SaysD fa fn K) {w : World} (c0 : VL.SaysX fa fn ex w K) : ∀ (k : Nat) x d, nm.consts[k]? = some x → P.consts[k]? = some d → ∃ u v, mg x = some u ∧ RelV v u ∧ Rep K [] (fun _ => none) v d
  | n + 0, x, d, hx, _ => by simp [nm] at hx
theorem tx_subs {w : World} (c0 : VL.SaysX fa fn ex w K) : ∀ (k d : Nat) b, P.sub k d = some b → ∃ D C, cl K k = .ref D ∧ cl K d = .ref C ∧ L2.ExcC K D ∧ PySem.W.exmOne K (.ref D) (.ref C) = some b ∧ PySem.W.kitOne K (.ref D) (.ref C) = some b ∧ PySem.W.kitOne K (.ref D) (.type "ValueError") = some true :=
  VL.subs_ok c0 (fun _ => rfl) (fun t ht => (List.not_mem_nil ht).elim)
theorem tx_cls (X : K.In h) (G : h.Ns mainGlobals mg) (c : He.SaysD fa fn K) : ∀ cd ∈ nm.cls, mg cd.name = some (.ref (He.ga K cd.name)) ∧ Cls K (He.ga K cd.name) ∧ (∀ f ∈ cd.flds, NoAttr K (He.ga K cd.name) f) ∧
    (∀ f, cd.ini = some f → ∃ (a : Addr) (fd : FuncData) (N ps : List Str) (d : He.DefD) (F : Fn), Mk K (He.ga K cd.name) a ∧ Binds K fd ps [] ∧ P.fns[f]? = some F ∧ mIni nm N ps F d cd.name cd.flds = true ∧
      FunD K d.name d.qual d.params d.body d.scope (d.dvs K) (d.kws K) a fd) ∧
    ∀ q ∈ cd.meths, ∃ (a : Addr) (fd : FuncData) (N ps : List Str) (d : He.DefD) (F : Fn), Meth K (He.ga K cd.name) q.1 a ∧ Binds K fd ps [] ∧ P.fns[q.2]? = some F ∧ mFn nm N ps F d = true ∧
      FunD K d.name d.qual d.params d.body d.scope (d.dvs K) (d.kws K) a fd := by
  intro cd h
  cases h
theorem tx_dcts (X : K.In h) (G : h.Ns mainGlobals mg) (c : He.SaysD fa fn K) {w : World} (c0 : VL.SaysX fa fn ex w K) : ∀ (k : Nat) x, nm.dcts[k]? = some x → ∃ a kvs, P.dcts[k]? = some kvs ∧ mg x = some (.ref a) ∧ ∀ z d, kvs.lookup z = some d → ∃ v, KDct K w a z v ∧ Rep K [] (fun _ => none) v d
  | 0, x, hx => by
    cases hx
    refine ⟨_, _, rfl, He.glo_ok X G (c.fact 35 (f := .glo "_SPINES") rfl), fun z d hz => ?_⟩
    obtain ⟨q, h1, h2⟩ := VL.lookup_dv (kvs := [("left", (.str "left")), ("right", (.str "right")), ("head", (.str "top"))]) (g := fun q => match q with | .str x => .str x | .int i => .int i | .bl b => .bl b | _ => .non) hz
    have := c0.dct (t := ("_SPINES", [("left", (.str "left")), ("right", (.str "right")), ("head", (.str "top"))])) (by simp [ex]) h1
    refine ⟨_, this, ?_⟩
    rw [h2]
    have hm := VL.lookup_in h1
    simp only [List.map_cons, List.map_nil, List.mem_cons, List.not_mem_nil, or_false] at hm
    rcases hm with rfl | rfl | rfl
    · exact .str _
    · exact .str _
    · exact .str _
  | n + 1, x, hx => by simp [nm] at hx
theorem tx (X : K.In h) (G : h.Ns mainGlobals mg) (c : He.SaysD fa fn K) {w : World} (c0 : VL.SaysX fa fn ex w K) : Tx P nm (cl K) K w mg := ⟨tx_fns X G c, tx_consts X G c c0, tx_blt X G c, tx_excs X G c, tx_subs c0, tx_cls X G c, tx_dcts X G c c0⟩
end
/-- what is left: the law, as the evaluator has it -/
def Good : Prop := ∀ ns : List Int, ns.length ≤ 63 → ∃ md M, callN P 40 14 [.lst (ns.map .int)] [] = .ok (md, .bl true) M
end Lw
open PySem PySem.W PySem.Calls PyProof.Rows
theorem Lw.holds (good : Lw.Good) : PySem.Challenge.rw_quirebound_k50_layers_that_a_thread_hold.Holds := by
  w_on; o_law
  refine HandSHeadRun.head_any (r := OpenLaw.row PySem.Challenge.rw_quirebound_k50_layers_that_a_thread_hold) (q := view (OpenLaw.row PySem.Challenge.rw_quirebound_k50_layers_that_a_thread_hold).prog [18]) (H := Lw.hk) (ob := Lw.ob) (M := 20000) (loose := Lw.loose) (d := HandSHeadRun.topDef (OpenLaw.row PySem.Challenge.rw_quirebound_k50_layers_that_a_thread_hold).prog 18) (kwd := []) Lw.ob_eq
    (by kernel_rfl) (fun s => by kernel_rfl) Lw.run (by kernel_rfl) (by kernel_rfl) (by kernel_rfl) (by rfl) (by first | assumption | decide +kernel) (by decide +kernel) ⟨rfl, rfl, rfl, rfl, rfl, by decide +kernel⟩ ?hw ?hc
  case hw => w_witness2
  case hc =>
    refine L2.walk_ofE (l := PySem.Challenge.rw_quirebound_k50_layers_that_a_thread_hold) (n := 63) (k := 80) (x := "script") (CX := L2.CX0) rfl (by decide) (by kernel_rfl) ⟨rfl, by decide, by decide⟩ ?F (fun _ _ _ _ z => z)
    intro w mg fa h Y G hmg0
    obtain ⟨K, KX, c0⟩ := Y
    have c := c0.d
    have hmg : mg ("law" : PySem.Str) = some (.ref fa) := by
      have e : (HandSHeadRun.topDef (OpenLaw.row PySem.Challenge.rw_quirebound_k50_layers_that_a_thread_hold).prog 18).name = ("law" : PySem.Str) := by kernel_rfl
      rw [← e]
      exact hmg0
    obtain ⟨fd, D0⟩ := He.SaysD.def_ c 14 (d := Lw.d_law) rfl
    have e := hmg.symm.trans (He.glo_ok KX G (He.SaysD.fact c 14 (f := .glo "law") rfl))
    cases e
    have b := L2.FunD.bindsA (ps := ["script"]) D0 fun _ _ _ _ _ _ us hl => match us, hl with | [_], _ => rfl
    exact ⟨K, fd, fun vs H Q _ => VL.spF K (Lw.cl K) Lw.P 40 14 vs H Q fun _ _ _ => False, KX, fun s v => b s [v] rfl, fun H a ns hl _ hS => let ⟨_, _, z⟩ := good ns hl; VL.law_sp z hS,
      fun base _ G' => VL.fn_nox (VL.fn_ok (VL.Tx.fx (Lw.tx KX G c c0) 39) Lw.P_law Lw.m_law D0)⟩

end
/-! VC: tools for laws over the evaluator -/
namespace VL
open PySem
def RS.fin : RS → R (Md × D)
  | .nx _ M' => .ok (Md.z, .non) M'
  | .rt d M' => .ok d M'
  | .ex c _ M' => .ex c M'
  | _ => .st
@[simp] theorem RS.fin_nx (ρ : Sl) (M : Mem) : (RS.nx ρ M).fin = .ok (Md.z, .non) M := rfl
@[simp] theorem RS.fin_rt (d : Md × D) (M : Mem) : (RS.rt d M).fin = .ok d M := rfl
@[simp] theorem RS.fin_ex (c : Nat) (ρ : Sl) (M : Mem) : (RS.ex c ρ M).fin = .ex c M := rfl
theorem callN_eq {P : Prog} {f n : Nat} {F : Fn} {ds : List D} {M : Mem} (h : P.fns[f]? = some F) (hl : ds.length = F.np) : callN P (n + 1) f ds M = (evSs (cfgN P n) F.body (startS F.ns ds) M).fin := by
  unfold callN
  rw [h]
  simp only [hl, if_true]
  cases evSs (cfgN P n) F.body (startS F.ns ds) M <;> rfl
theorem succ_of {n c : Nat} (h : c + 1 ≤ n) : ∃ m, n = m + 1 ∧ c ≤ m := ⟨n - 1, by omega, by omega⟩
/-! ### call by value: what comes behind stands as data until its turn -/
noncomputable def forB (c : Cfg) (p : Pt) (body : List Sm) : D → Sl → Mem → RS := fun d ρ M => match bindP p d ρ with
  | some ρ' => evSs c body ρ' M
  | none => .st
noncomputable def kSeq (c : Cfg) (r : List Sm) (x : RS) : RS := x.seq fun ρ M => evSs c r ρ M
theorem kSeq_nx {c : Cfg} {r : List Sm} {ρ : Sl} {M : Mem} : kSeq c r (.nx ρ M) = evSs c r ρ M := rfl
theorem kSeq_rt {c : Cfg} {r : List Sm} {d : Md × D} {M : Mem} : kSeq c r (.rt d M) = .rt d M := rfl
theorem kSeq_ex {c : Cfg} {r : List Sm} {k : Nat} {ρ : Sl} {M : Mem} : kSeq c r (.ex k ρ M) = .ex k ρ M := rfl
theorem kSeq_bk {c : Cfg} {r : List Sm} {ρ : Sl} {M : Mem} : kSeq c r (.bk ρ M) = .bk ρ M := rfl
theorem kSeq_ct {c : Cfg} {r : List Sm} {ρ : Sl} {M : Mem} : kSeq c r (.ct ρ M) = .ct ρ M := rfl
theorem E_cons {c : Cfg} {s : Sm} {r : List Sm} {ρ : Sl} {M : Mem} : evSs c (s :: r) ρ M = kSeq c r (evS c s ρ M) := by rw [evSs.eq_2]; rfl
theorem E_nil {c : Cfg} {ρ : Sl} {M : Mem} : evSs c [] ρ M = .nx ρ M := by rw [evSs.eq_1]
def kBd (x : Option Sl) (M : Mem) : RS := match x with | some ρ' => .nx ρ' M | none => .st
theorem kBd_some {ρ : Sl} {M : Mem} : kBd (some ρ) M = .nx ρ M := rfl
def kAsg (p : Pt) (ρ : Sl) (x : R D) : RS := x.to ρ fun d M1 => kBd (bindP p d ρ) M1
theorem kAsg_ok {p : Pt} {ρ : Sl} {d : D} {M : Mem} : kAsg p ρ (.ok d M) = kBd (bindP p d ρ) M := rfl
theorem kAsg_ex {p : Pt} {ρ : Sl} {k : Nat} {M : Mem} : kAsg p ρ (.ex k M) = .ex k ρ M := rfl
theorem E_asg {c : Cfg} {p : Pt} {e : Ex} {ρ : Sl} {M : Mem} : evS c (.asg p e) ρ M = kAsg p ρ (evE c e ρ M) := by rw [evS.eq_1]; rfl
def kOwn (i : Nat) (ρ : Sl) (x : R (Md × D)) : RS := x.to ρ fun r M1 => .nx (ρ.set i (slM r)) M1
theorem kOwn_ok {i : Nat} {ρ : Sl} {r : Md × D} {M : Mem} : kOwn i ρ (.ok r M) = .nx (ρ.set i (slM r)) M := rfl
theorem kOwn_ex {i : Nat} {ρ : Sl} {k : Nat} {M : Mem} : kOwn i ρ (.ex k M) = .ex k ρ M := rfl
theorem E_own {c : Cfg} {i : Nat} {a : Ax} {ρ : Sl} {M : Mem} : evS c (.own i a) ρ M = kOwn i ρ (evA c a ρ M) := by rw [evS.eq_2]; rfl
/-- the thing of a slot -/
def getO (ρ : Sl) (i : Nat) : Option (Md × D) := match ρ, i with
  | .ow m d :: _, 0 => some (m, d)
  | _ :: ρ, i + 1 => getO ρ i
  | _, _ => none
theorem getO_0 {m : Md} {d : D} {ρ : Sl} : getO (.ow m d :: ρ) 0 = some (m, d) := rfl
theorem getO_s {x : SV} {ρ : Sl} {i : Nat} : getO (x :: ρ) (i + 1) = getO ρ i := by cases x <;> rfl
theorem getO_eq : ∀ {ρ : Sl} {i : Nat}, getO ρ i = match ρ[i]? with | some (.ow m d) => some (m, d) | _ => none
  | [], i => by simp [getO]
  | x :: ρ, 0 => by cases x <;> rfl
  | x :: ρ, i + 1 => by rw [getO_s, getO_eq]; rfl
/-- a list on a path -/
def getL (d : D) (ks : List D) : Option (List D) := match getP d ks with | some (.lst ds) => some ds | _ => none
theorem getL_nil {ds : List D} : getL (.lst ds) [] = some ds := rfl
theorem getL_of {d : D} {ks : List D} {ds : List D} (h : getP d ks = some (.lst ds)) : getL d ks = some ds := by unfold getL; rw [h]
def kMu (i : Nat) (m : Md) (d : D) (ks : List D) (ρ : Sl) (M : Mem) (x : Option Md) (y : Option (List D)) : RS := match x, y with
  | some m', some ds' => .nx (ρ.set i (.ow (if ks.isEmpty then m' else m) (setP d ks (.lst ds')))) M
  | _, _ => .st
theorem kMu_0 {i : Nat} {m m' : Md} {d : D} {ρ : Sl} {M : Mem} {ds : List D} : kMu i m d [] ρ M (some m') (some ds) = .nx (ρ.set i (.ow m' (.lst ds))) M := rfl
theorem kMu_1 {i : Nat} {m m' : Md} {d k : D} {ks : List D} {ρ : Sl} {M : Mem} {ds : List D} : kMu i m d (k :: ks) ρ M (some m') (some ds) = .nx (ρ.set i (.ow m (setP d (k :: ks) (.lst ds)))) M := rfl
def kMuL (i : Nat) (m : Md) (d : D) (ks : List D) (mu : Mu) (k : D) (r : Md × D) (ρ : Sl) (M : Mem) (x : Option (List D)) : RS := match x with
  | some ds => kMu i m d ks ρ M (putM (dnP m ks) ks.isEmpty ds r) (muD mu k ds r.2)
  | none => .st
theorem kMuL_some {i : Nat} {m : Md} {d : D} {ks : List D} {mu : Mu} {k : D} {r : Md × D} {ρ : Sl} {M : Mem} {ds : List D} : kMuL i m d ks mu k r ρ M (some ds) = kMu i m d ks ρ M (putM (dnP m ks) ks.isEmpty ds r) (muD mu k ds r.2) := rfl
theorem muR_eq {i : Nat} {m : Md} {d : D} {ks : List D} {mu : Mu} {k : D} {r : Md × D} {ρ : Sl} {M : Mem} : muR i m d ks mu k r ρ M = kMuL i m d ks mu k r ρ M (getL d ks) := by
  unfold muR kMuL getL
  cases getP d ks with
  | none => rfl
  | some x => cases x <;> rfl
theorem putM_flat {m : Md} {t : Bool} {ds : List D} {r : Md × D} (h : r.2.isLD = false) : putM m t ds r = some m := by unfold putM; simp [h]
theorem putM_same {t : Bool} {ds : List D} {d : D} : putM .all t ds (.all, d) = some .all := by unfold putM; simp [Md.dn]
theorem pathB_L {m : Md} {d : D} {ks : List D} {ds : List D} (h : getL d ks = some ds) (hm : dnP m ks ≠ .z) : pathB m d ks = true := by
  unfold pathB
  unfold getL at h
  cases e : getP d ks with
  | none => rw [e] at h; cases h
  | some x =>
    rw [e] at h
    cases x with
    | lst ds2 => simp [hm]
    | _ => cases h
theorem dnP_all : ∀ ks, dnP .all ks = .all
  | [] => rfl
  | _ :: ks => dnP_all ks
def kM4 (i : Nat) (ks : List D) (mu : Mu) (k : D) (r : Md × D) (ρ : Sl) (M : Mem) (o : Option (Md × D)) : RS := match o with
  | some (m, d) => muR i m d ks mu k r ρ M
  | none => .st
theorem kM4_some {i : Nat} {ks : List D} {mu : Mu} {k : D} {r : Md × D} {ρ : Sl} {M : Mem} {m : Md} {d : D} : kM4 i ks mu k r ρ M (some (m, d)) = kMuL i m d ks mu k r ρ M (getL d ks) := muR_eq
def kM3 (i : Nat) (ks : List D) (mu : Mu) (k : D) (el : El) (ρ : Sl) (x : R (Md × D)) : RS := x.to ρ fun r M3 => kM4 i ks mu k r (giveS el ρ) M3 (getO (giveS el ρ) i)
theorem kM3_ok {i : Nat} {ks : List D} {mu : Mu} {k : D} {el : El} {ρ : Sl} {r : Md × D} {M : Mem} : kM3 i ks mu k el ρ (.ok r M) = kM4 i ks mu k r (giveS el ρ) M (getO (giveS el ρ) i) := rfl
theorem kM3_ex {i : Nat} {ks : List D} {mu : Mu} {k : D} {el : El} {ρ : Sl} {q : Nat} {M : Mem} : kM3 i ks mu k el ρ (.ex q M) = .ex q ρ M := rfl
def kM2 (c : Cfg) (i : Nat) (ks : List D) (mu : Mu) (el : El) (ρ : Sl) (x : R D) : RS := x.to ρ fun k M2 => kM3 i ks mu k el ρ (evL c el ρ M2)
theorem kM2_ok {c : Cfg} {i : Nat} {ks : List D} {mu : Mu} {el : El} {ρ : Sl} {k : D} {M : Mem} : kM2 c i ks mu el ρ (.ok k M) = kM3 i ks mu k el ρ (evL c el ρ M) := rfl
def kM1 (c : Cfg) (i : Nat) (mu : Mu) (el : El) (ρ : Sl) (m : Md) (d : D) (x : R (List D)) : RS := x.nox.to ρ fun ks M1 => if pathB m d ks = true then kM2 c i ks mu el ρ (evE c (muK mu) ρ M1) else .st
def kM1b (c : Cfg) (i : Nat) (mu : Mu) (el : El) (ρ : Sl) (ks : List D) (M : Mem) (b : Bool) : RS := if b = true then kM2 c i ks mu el ρ (evE c (muK mu) ρ M) else .st
theorem kM1_ok {c : Cfg} {i : Nat} {mu : Mu} {el : El} {ρ : Sl} {m : Md} {d : D} {ks : List D} {M : Mem} : kM1 c i mu el ρ m d (.ok ks M) = kM1b c i mu el ρ ks M (pathB m d ks) := rfl
theorem kM1b_t {c : Cfg} {i : Nat} {mu : Mu} {el : El} {ρ : Sl} {ks : List D} {M : Mem} : kM1b c i mu el ρ ks M true = kM2 c i ks mu el ρ (evE c (muK mu) ρ M) := rfl
def kM0 (c : Cfg) (i : Nat) (ps : List Ex) (mu : Mu) (el : El) (ρ : Sl) (M : Mem) (o : Option (Md × D)) : RS := match o with
  | some (m, d) => kM1 c i mu el ρ m d (evEs c ps ρ M)
  | none => .st
theorem kM0_some {c : Cfg} {i : Nat} {ps : List Ex} {mu : Mu} {el : El} {ρ : Sl} {M : Mem} {m : Md} {d : D} : kM0 c i ps mu el ρ M (some (m, d)) = kM1 c i mu el ρ m d (evEs c ps ρ M) := rfl
theorem E_mut {c : Cfg} {i : Nat} {ps : List Ex} {mu : Mu} {el : El} {ρ : Sl} {M : Mem} (h : ∀ k, mu ≠ .setk k) : evS c (.mut i ps mu el) ρ M = kM0 c i ps mu el ρ M (getO ρ i) := by
  rw [evS.eq_4 _ _ _ _ _ _ _ (fun k e => h k e), getO_eq]
  cases e : ρ[i]? with
  | none => rfl
  | some x =>
    cases x with
    | ow m d =>
      show _ = kM1 c i mu el ρ m d (evEs c ps ρ M)
      unfold kM1 kM2 kM3 kM4
      simp only [getO_eq]
      congr 1
      funext ks M1
      split
      · congr 1
        funext k M2
        congr 1
        funext r M3
        cases (giveS el ρ)[i]? with
        | none => rfl
        | some y => cases y <;> rfl
      · rfl
    | _ => rfl
theorem E_app {c : Cfg} {i : Nat} {ps : List Ex} {el : El} {ρ : Sl} {M : Mem} : evS c (.mut i ps .app el) ρ M = kM0 c i ps .app el ρ M (getO ρ i) := E_mut fun _ e => by cases e
theorem E_clear {c : Cfg} {i : Nat} {ps : List Ex} {el : El} {ρ : Sl} {M : Mem} : evS c (.mut i ps .clear el) ρ M = kM0 c i ps .clear el ρ M (getO ρ i) := E_mut fun _ e => by cases e
theorem E_rev {c : Cfg} {i : Nat} {ps : List Ex} {el : El} {ρ : Sl} {M : Mem} : evS c (.mut i ps .rev el) ρ M = kM0 c i ps .rev el ρ M (getO ρ i) := E_mut fun _ e => by cases e
def kS3 (i : Nat) (m : Md) (d : D) (ks : List D) (k : Ex) (r : Md × D) (ρ : Sl) (x : R D) : RS := x.to ρ fun v M3 => muR i m d ks (.setk k) v r ρ M3
theorem kS3_ok {i : Nat} {m : Md} {d : D} {ks : List D} {k : Ex} {r : Md × D} {ρ : Sl} {v : D} {M : Mem} : kS3 i m d ks k r ρ (.ok v M) = kMuL i m d ks (.setk k) v r ρ M (getL d ks) := muR_eq
def kS2b (c : Cfg) (i : Nat) (m : Md) (d : D) (k : Ex) (r : Md × D) (ρ : Sl) (ks : List D) (M : Mem) (b : Bool) : RS := if b = true then kS3 i m d ks k r ρ (evE c k ρ M) else .st
theorem kS2b_t {c : Cfg} {i : Nat} {m : Md} {d : D} {k : Ex} {r : Md × D} {ρ : Sl} {ks : List D} {M : Mem} : kS2b c i m d k r ρ ks M true = kS3 i m d ks k r ρ (evE c k ρ M) := rfl
def kS2 (c : Cfg) (i : Nat) (m : Md) (d : D) (k : Ex) (r : Md × D) (ρ : Sl) (x : R (List D)) : RS := x.nox.to ρ fun ks M2 => kS2b c i m d k r ρ ks M2 (pathB m d ks)
theorem kS2_ok {c : Cfg} {i : Nat} {m : Md} {d : D} {k : Ex} {r : Md × D} {ρ : Sl} {ks : List D} {M : Mem} : kS2 c i m d k r ρ (.ok ks M) = kS2b c i m d k r ρ ks M (pathB m d ks) := rfl
def kS1b (c : Cfg) (i : Nat) (ps : List Ex) (k : Ex) (r : Md × D) (ρ : Sl) (M : Mem) (o : Option (Md × D)) : RS := match o with
  | some (m, d) => kS2 c i m d k r ρ (evEs c ps ρ M)
  | none => .st
theorem kS1b_some {c : Cfg} {i : Nat} {ps : List Ex} {k : Ex} {r : Md × D} {ρ : Sl} {M : Mem} {m : Md} {d : D} : kS1b c i ps k r ρ M (some (m, d)) = kS2 c i m d k r ρ (evEs c ps ρ M) := rfl
def kS1 (c : Cfg) (i : Nat) (ps : List Ex) (k : Ex) (el : El) (ρ : Sl) (x : R (Md × D)) : RS := x.to ρ fun r M1 => kS1b c i ps k r (giveS el ρ) M1 (getO (giveS el ρ) i)
theorem kS1_ok {c : Cfg} {i : Nat} {ps : List Ex} {k : Ex} {el : El} {ρ : Sl} {r : Md × D} {M : Mem} : kS1 c i ps k el ρ (.ok r M) = kS1b c i ps k r (giveS el ρ) M (getO (giveS el ρ) i) := rfl
theorem kS1_ex {c : Cfg} {i : Nat} {ps : List Ex} {k : Ex} {el : El} {ρ : Sl} {q : Nat} {M : Mem} : kS1 c i ps k el ρ (.ex q M) = .ex q ρ M := rfl
theorem E_setk {c : Cfg} {i : Nat} {ps : List Ex} {k : Ex} {el : El} {ρ : Sl} {M : Mem} : evS c (.mut i ps (.setk k) el) ρ M = kS1 c i ps k el ρ (evL c el ρ M) := by
  rw [evS.eq_3]
  unfold kS1 kS1b kS2 kS2b kS3
  simp only [getO_eq]
  congr 1
  funext r M1
  cases (giveS el ρ)[i]? with
  | none => rfl
  | some y => cases y <;> rfl
def kP4 (p : Pt) (i : Nat) (m : Md) (d : D) (ks : List D) (ds : List D) (ρ : Sl) (M : Mem) (n : Nat) (y : D) : RS :=
  if y.isLD = false then kBd (bindP p y (ρ.set i (.ow m (setP d ks (.lst (ds.eraseIdx n)))))) M else .st
theorem kP4_ok {p : Pt} {i : Nat} {m : Md} {d : D} {ks : List D} {ds : List D} {ρ : Sl} {M : Mem} {n : Nat} {y : D} (h : y.isLD = false) : kP4 p i m d ks ds ρ M n y = kBd (bindP p y (ρ.set i (.ow m (setP d ks (.lst (ds.eraseIdx n)))))) M := by unfold kP4; rw [if_pos h]
theorem E_pop {c : Cfg} {p : Pt} {i : Nat} {ps : List Ex} {k : Option Ex} {ρ : Sl} {M M1 M2 : Mem} {m : Md} {d y : D} {ks ds : List D} {j : Int} {n : Nat} (h1 : getO ρ i = some (m, d)) (h2 : evEs c ps ρ M = .ok ks M1) (h3 : evE c (k.getD (.lit (.int (-1)))) ρ M1 = .ok (.int j) M2)
    (h4 : getL d ks = some ds) (hm : dnP m ks ≠ .z) (h5 : L2.ixN ds.length j = some n) (h6 : ds[n]? = some y) (hj : -(2 ^ 63) ≤ j ∧ j < 2 ^ 63) : evS c (.pop p i ps k) ρ M = kP4 p i m d ks ds ρ M2 n y := by
  rw [getO_eq] at h1
  have h1 : ρ[i]? = some (.ow m d) := by
    cases e : ρ[i]? with
    | none => rw [e] at h1; cases h1
    | some x => rw [e] at h1; cases x <;> first | (cases h1; done) | (cases h1; rfl)
  have hp := pathB_L h4 hm
  unfold getL at h4
  have h4 : getP d ks = some (.lst ds) := by
    cases e : getP d ks with
    | none => rw [e] at h4; cases h4
    | some x => rw [e] at h4; cases x <;> first | (cases h4; done) | (cases h4; rfl)
  rw [evS.eq_5, h1]
  simp only [h2, R.nox_ok, R.to_ok, hp, if_true, h3, h4, h5, h6, hj, and_true, kP4]
  rfl
def kAug2 (i : Nat) (ρ : Sl) (x : Option D) (M : Mem) : RS := match x with | some z => .nx (ρ.set i (.fz z)) M | none => .st
theorem kAug2_some {i : Nat} {ρ : Sl} {z : D} {M : Mem} : kAug2 i ρ (some z) M = .nx (ρ.set i (.fz z)) M := rfl
def kAug1 (o : BOp) (i : Nat) (x : D) (ρ : Sl) (y : R D) : RS := y.to ρ fun y M1 => kAug2 i ρ (augD o x y) M1
theorem kAug1_ok {o : BOp} {i : Nat} {x y : D} {ρ : Sl} {M : Mem} : kAug1 o i x ρ (.ok y M) = kAug2 i ρ (augD o x y) M := rfl
def kAug0 (c : Cfg) (o : BOp) (i : Nat) (e : Ex) (ρ : Sl) (x : R D) : RS := match x with | .ok x M => kAug1 o i x ρ (evE c e ρ M) | _ => .st
theorem kAug0_ok {c : Cfg} {o : BOp} {i : Nat} {e : Ex} {ρ : Sl} {x : D} {M : Mem} : kAug0 c o i e ρ (.ok x M) = kAug1 o i x ρ (evE c e ρ M) := rfl
def rdV : Sl → Nat → Mem → R D
  | .fz d :: _, 0, M => .ok d M
  | _ :: ρ, i + 1, M => rdV ρ i M
  | _, _, _ => .st
theorem rdV_0 (d : D) (ρ : Sl) (M : Mem) : rdV (.fz d :: ρ) 0 M = .ok d M := rfl
theorem rdV_s (x : SV) (ρ : Sl) (i : Nat) (M : Mem) : rdV (x :: ρ) (i + 1) M = rdV ρ i M := by cases x <;> rfl
theorem E_var {c : Cfg} {i : Nat} {M : Mem} : ∀ {ρ : Sl}, evE c (.var i) ρ M = rdV ρ i M := by
  intro ρ
  rw [evE.eq_1]
  induction ρ generalizing i with
  | nil => rfl
  | cons x ρ ih =>
    cases i with
    | zero => cases x <;> rfl
    | succ i => rw [rdV_s, ← ih]; rfl
theorem rdV_eq {M : Mem} : ∀ {ρ : Sl} {i : Nat}, rdV ρ i M = match ρ[i]? with | some (.fz d) => .ok d M | _ => .st
  | [], i => by simp [rdV]
  | x :: ρ, 0 => by cases x <;> rfl
  | x :: ρ, i + 1 => by rw [rdV_s, rdV_eq]; rfl
theorem E_aug {c : Cfg} {i : Nat} {o : BOp} {e : Ex} {ρ : Sl} {M : Mem} : evS c (.aug i o e) ρ M = kAug0 c o i e ρ (rdV ρ i M) := by
  rw [evS.eq_6, rdV_eq]
  cases ρ[i]? with
  | none => rfl
  | some x =>
    cases x with
    | fz d =>
      show _ = kAug1 o i d ρ (evE c e ρ M)
      unfold kAug1
      dsimp only
      congr 1
      funext y M1
      cases augD o d y <;> rfl
    | _ => rfl
def kExpr (ρ : Sl) (x : R D) : RS := x.to ρ fun _ M1 => .nx ρ M1
theorem kExpr_ok {ρ : Sl} {d : D} {M : Mem} : kExpr ρ (.ok d M) = .nx ρ M := rfl
theorem kExpr_ex {ρ : Sl} {k : Nat} {M : Mem} : kExpr ρ (.ex k M) = .ex k ρ M := rfl
theorem E_expr {c : Cfg} {e : Ex} {ρ : Sl} {M : Mem} : evS c (.expr e) ρ M = kExpr ρ (evE c e ρ M) := by rw [evS.eq_7]; rfl
def kRet (ρ : Sl) (x : R D) : RS := x.to ρ fun d M1 => .rt (Md.z, d) M1
theorem kRet_ok {ρ : Sl} {d : D} {M : Mem} : kRet ρ (.ok d M) = .rt (Md.z, d) M := rfl
theorem kRet_ex {ρ : Sl} {k : Nat} {M : Mem} : kRet ρ (.ex k M) = .ex k ρ M := rfl
theorem E_ret {c : Cfg} {e : Ex} {ρ : Sl} {M : Mem} : evS c (.ret e) ρ M = kRet ρ (evE c e ρ M) := by rw [evS.eq_8]; rfl
theorem E_retN {c : Cfg} {ρ : Sl} {M : Mem} : evS c .retN ρ M = .rt (Md.z, .non) M := by rw [evS.eq_9]
def kRetA (ρ : Sl) (x : R (Md × D)) : RS := x.to ρ fun r M1 => .rt r M1
theorem kRetA_ok {ρ : Sl} {d : Md × D} {M : Mem} : kRetA ρ (.ok d M) = .rt d M := rfl
theorem kRetA_ex {ρ : Sl} {k : Nat} {M : Mem} : kRetA ρ (.ex k M) = .ex k ρ M := rfl
theorem E_retA {c : Cfg} {a : Ax} {ρ : Sl} {M : Mem} : evS c (.retA a) ρ M = kRetA ρ (evA c a ρ M) := by rw [evS.eq_10]; rfl
def rtV : Sl → Nat → Mem → RS
  | .ow m d :: _, 0, M => .rt (m, d) M
  | .fz d :: _, 0, M => .rt (Md.z, d) M
  | _ :: ρ, i + 1, M => rtV ρ i M
  | _, _, _ => .st
theorem rtV_ow {m : Md} {d : D} {ρ : Sl} {M : Mem} : rtV (.ow m d :: ρ) 0 M = .rt (m, d) M := rfl
theorem rtV_fz {d : D} {ρ : Sl} {M : Mem} : rtV (.fz d :: ρ) 0 M = .rt (Md.z, d) M := rfl
theorem rtV_s {x : SV} {ρ : Sl} {i : Nat} {M : Mem} : rtV (x :: ρ) (i + 1) M = rtV ρ i M := by cases x <;> rfl
theorem rtV_eq {M : Mem} : ∀ {ρ : Sl} {i : Nat}, rtV ρ i M = match ρ[i]? with | some (.ow m d) => .rt (m, d) M | some (.fz d) => .rt (Md.z, d) M | _ => .st
  | [], i => by simp [rtV]
  | x :: ρ, 0 => by cases x <;> rfl
  | x :: ρ, i + 1 => by rw [rtV_s, rtV_eq]; rfl
theorem E_retV {c : Cfg} {i : Nat} {ρ : Sl} {M : Mem} : evS c (.retV i) ρ M = rtV ρ i M := by
  rw [evS.eq_11, rtV_eq]
  all_goals (cases ρ[i]? with
    | none => rfl
    | some y => cases y <;> rfl)
noncomputable def kIf (c : Cfg) (a b : List Sm) (ρ : Sl) (x : R Bool) : RS := x.to ρ fun t M1 => if t then evSs c a ρ M1 else evSs c b ρ M1
theorem kIf_t {c : Cfg} {a b : List Sm} {ρ : Sl} {M : Mem} : kIf c a b ρ (.ok true M) = evSs c a ρ M := rfl
theorem kIf_f {c : Cfg} {a b : List Sm} {ρ : Sl} {M : Mem} : kIf c a b ρ (.ok false M) = evSs c b ρ M := rfl
theorem kIf_ex {c : Cfg} {a b : List Sm} {ρ : Sl} {k : Nat} {M : Mem} : kIf c a b ρ (.ex k M) = .ex k ρ M := rfl
theorem E_ifs {c : Cfg} {q : Ex} {a b : List Sm} {ρ : Sl} {M : Mem} : evS c (.ifs q a b) ρ M = kIf c a b ρ (evT c q ρ M) := by rw [evS.eq_12]; rfl
noncomputable def kFor2 (c : Cfg) (p : Pt) (body : List Sm) (ρ : Sl) (x : Option (List D)) (M : Mem) : RS := match x with
  | some items => forL (forB c p body) items ρ M
  | none => .st
theorem kFor2_some {c : Cfg} {p : Pt} {body : List Sm} {ρ : Sl} {items : List D} {M : Mem} : kFor2 c p body ρ (some items) M = forL (forB c p body) items ρ M := rfl
noncomputable def kFor (c : Cfg) (p : Pt) (k : ItK) (body : List Sm) (ρ : Sl) (x : R (List D)) : RS := x.to ρ fun ds M1 => kFor2 c p body ρ (itD k ds) M1
theorem kFor_ok {c : Cfg} {p : Pt} {k : ItK} {body : List Sm} {ρ : Sl} {ds : List D} {M : Mem} : kFor c p k body ρ (.ok ds M) = kFor2 c p body ρ (itD k ds) M := rfl
theorem kFor_ex {c : Cfg} {p : Pt} {k : ItK} {body : List Sm} {ρ : Sl} {q : Nat} {M : Mem} : kFor c p k body ρ (.ex q M) = .ex q ρ M := rfl
theorem E_for {c : Cfg} {p : Pt} {k : ItK} {args : List Ex} {body : List Sm} {ρ : Sl} {M : Mem} : evS c (.for_ p k args body) ρ M = kFor c p k body ρ (evEs c args ρ M) := by
  rw [evS.eq_13]
  unfold kFor
  congr 1
  funext ds M1
  cases itD k ds <;> rfl
noncomputable def kWhile (c : Cfg) (q : Ex) (body : List Sm) (ρ : Sl) (M : Mem) : RS := whileW (evT c q) (evSs c body) ρ M
theorem E_while {c : Cfg} {q : Ex} {body : List Sm} {ρ : Sl} {M : Mem} : evS c (.while_ q body) ρ M = kWhile c q body ρ M := by
  rw [evS.eq_14]; rfl
theorem E_brk {c : Cfg} {ρ : Sl} {M : Mem} : evS c .brk ρ M = .bk ρ M := by rw [evS.eq_15]
theorem E_cnt {c : Cfg} {ρ : Sl} {M : Mem} : evS c .cnt ρ M = .ct ρ M := by rw [evS.eq_16]
theorem E_pass {c : Cfg} {ρ : Sl} {M : Mem} : evS c .pass ρ M = .nx ρ M := by rw [evS.eq_17]
theorem E_raise {c : Cfg} {e : Nat} {ρ : Sl} {M : Mem} : evS c (.raise e) ρ M = .ex e ρ M := by rw [evS.eq_18]
def fzV : Sl → Nat → Option Sl
  | .ow _ d :: ρ, 0 => some (.fz d :: ρ)
  | .fz d :: ρ, 0 => some (.fz d :: ρ)
  | x :: ρ, i + 1 => (fzV ρ i).map (x :: ·)
  | _, _ => none
theorem fzV_ow {m : Md} {d : D} {ρ : Sl} : fzV (.ow m d :: ρ) 0 = some (.fz d :: ρ) := rfl
theorem fzV_fz {d : D} {ρ : Sl} : fzV (.fz d :: ρ) 0 = some (.fz d :: ρ) := rfl
theorem fzV_s {x : SV} {ρ : Sl} {i : Nat} : fzV (x :: ρ) (i + 1) = (fzV ρ i).map (x :: ·) := by cases x <;> rfl
theorem fzV_eq : ∀ {ρ : Sl} {i : Nat}, fzV ρ i = match ρ[i]? with | some (.ow _ d) => some (ρ.set i (.fz d)) | some (.fz _) => some ρ | _ => none
  | [], i => by simp [fzV]
  | x :: ρ, 0 => by cases x <;> rfl
  | x :: ρ, i + 1 => by
    rw [fzV_s, fzV_eq]
    simp only [List.getElem?_cons_succ, List.set_cons_succ]
    cases ρ[i]? with
    | none => rfl
    | some y => cases y <;> rfl
theorem E_freeze {c : Cfg} {i : Nat} {ρ : Sl} {M : Mem} : evS c (.freeze i) ρ M = kBd (fzV ρ i) M := by
  rw [evS.eq_19, fzV_eq]
  cases ρ[i]? with
  | none => rfl
  | some y => cases y <;> rfl
theorem E_kill {c : Cfg} {is : List Nat} {ρ : Sl} {M : Mem} : evS c (.kill is) ρ M = .nx (killS ρ is) M := by rw [evS.eq_20]
/-! expressions -/
theorem E_lit {c : Cfg} {d : D} {ρ : Sl} {M : Mem} : evE c (.lit d) ρ M = .ok d M := by rw [evE.eq_2]
theorem E_glob {c : Cfg} {k : Nat} {ρ : Sl} {M : Mem} : evE c (.glob k) ρ M = R.of c.consts[k]? M := by rw [evE.eq_3]
def kTup (x : R (List D)) : R D := x.bind fun ds M1 => .ok (.tup ds) M1
theorem kTup_ok {ds : List D} {M : Mem} : kTup (.ok ds M) = .ok (.tup ds) M := rfl
theorem kTup_ex {k : Nat} {M : Mem} : kTup (.ex k M) = .ex k M := rfl
theorem E_tup {c : Cfg} {es : List Ex} {ρ : Sl} {M : Mem} : evE c (.tup es) ρ M = kTup (evEs c es ρ M) := by rw [evE.eq_4]; rfl
def kLst (x : R (List D)) : R D := x.bind fun ds M1 => .ok (.lst ds) M1
theorem kLst_ok {ds : List D} {M : Mem} : kLst (.ok ds M) = .ok (.lst ds) M := rfl
theorem kLst_ex {k : Nat} {M : Mem} : kLst (.ex k M) = .ex k M := rfl
theorem E_lst {c : Cfg} {es : List Ex} {ρ : Sl} {M : Mem} : evE c (.lst es) ρ M = kLst (evEs c es ρ M) := by rw [evE.eq_5]; rfl
def kBin2 (o : BOp) (x : D) (r : R D) : R D := r.bind fun y M2 => R.of (binD o x y) M2
theorem kBin2_ok {o : BOp} {x y : D} {M : Mem} : kBin2 o x (.ok y M) = R.of (binD o x y) M := rfl
theorem kBin2_ex {o : BOp} {x : D} {k : Nat} {M : Mem} : kBin2 o x (.ex k M) = .ex k M := rfl
def kBin (c : Cfg) (o : BOp) (b : Ex) (ρ : Sl) (r : R D) : R D := r.bind fun x M1 => kBin2 o x (evE c b ρ M1)
theorem kBin_ok {c : Cfg} {o : BOp} {b : Ex} {ρ : Sl} {x : D} {M : Mem} : kBin c o b ρ (.ok x M) = kBin2 o x (evE c b ρ M) := rfl
theorem kBin_ex {c : Cfg} {o : BOp} {b : Ex} {ρ : Sl} {k : Nat} {M : Mem} : kBin c o b ρ (.ex k M) = .ex k M := rfl
theorem E_bin {c : Cfg} {o : BOp} {a b : Ex} {ρ : Sl} {M : Mem} : evE c (.bin o a b) ρ M = kBin c o b ρ (evE c a ρ M) := by rw [evE.eq_7]; rfl
def kNeg (r : R D) : R D := r.bind fun x M1 => match x with | .int i => .ok (.int (-i)) M1 | _ => .st
theorem kNeg_ok {i : Int} {M : Mem} : kNeg (.ok (.int i) M) = .ok (.int (-i)) M := rfl
theorem E_neg {c : Cfg} {a : Ex} {ρ : Sl} {M : Mem} : evE c (.neg a) ρ M = kNeg (evE c a ρ M) := by rw [evE.eq_8]; rfl
def kCmp2 (o : COp) (x : D) (r : R D) : R D := r.bind fun y M2 => R.of (cmpD o x y) M2
theorem kCmp2_ok {o : COp} {x y : D} {M : Mem} : kCmp2 o x (.ok y M) = R.of (cmpD o x y) M := rfl
theorem kCmp2_ex {o : COp} {x : D} {k : Nat} {M : Mem} : kCmp2 o x (.ex k M) = .ex k M := rfl
def kCmp (c : Cfg) (o : COp) (b : Ex) (ρ : Sl) (r : R D) : R D := r.bind fun x M1 => kCmp2 o x (evE c b ρ M1)
theorem kCmp_ok {c : Cfg} {o : COp} {b : Ex} {ρ : Sl} {x : D} {M : Mem} : kCmp c o b ρ (.ok x M) = kCmp2 o x (evE c b ρ M) := rfl
theorem kCmp_ex {c : Cfg} {o : COp} {b : Ex} {ρ : Sl} {k : Nat} {M : Mem} : kCmp c o b ρ (.ex k M) = .ex k M := rfl
theorem E_cmp {c : Cfg} {o : COp} {a b : Ex} {ρ : Sl} {M : Mem} : evE c (.cmp o a b) ρ M = kCmp c o b ρ (evE c a ρ M) := by rw [evE.eq_9]; rfl
def kCh3 (c : Cfg) (o2 : COp) (y : D) (d : Ex) (ρ : Sl) (r : R D) : R D := r.bind fun t M3 => match t with
  | .bl true => kCmp2 o2 y (evE c d ρ M3)
  | .bl false => .ok (.bl false) M3
  | _ => .st
theorem kCh3_t {c : Cfg} {o2 : COp} {y : D} {d : Ex} {ρ : Sl} {M : Mem} : kCh3 c o2 y d ρ (.ok (.bl true) M) = kCmp2 o2 y (evE c d ρ M) := rfl
theorem kCh3_f {c : Cfg} {o2 : COp} {y : D} {d : Ex} {ρ : Sl} {M : Mem} : kCh3 c o2 y d ρ (.ok (.bl false) M) = .ok (.bl false) M := rfl
def kCh2 (c : Cfg) (o o2 : COp) (x : D) (d : Ex) (ρ : Sl) (r : R D) : R D := r.bind fun y M2 => kCh3 c o2 y d ρ (R.of (cmpD o x y) M2)
theorem kCh2_ok {c : Cfg} {o o2 : COp} {x y : D} {d : Ex} {ρ : Sl} {M : Mem} : kCh2 c o o2 x d ρ (.ok y M) = kCh3 c o2 y d ρ (R.of (cmpD o x y) M) := rfl
def kCh1 (c : Cfg) (o o2 : COp) (b d : Ex) (ρ : Sl) (r : R D) : R D := r.bind fun x M1 => kCh2 c o o2 x d ρ (evE c b ρ M1)
theorem kCh1_ok {c : Cfg} {o o2 : COp} {x : D} {b d : Ex} {ρ : Sl} {M : Mem} : kCh1 c o o2 b d ρ (.ok x M) = kCh2 c o o2 x d ρ (evE c b ρ M) := rfl
theorem E_chain {c : Cfg} {o o2 : COp} {a b d : Ex} {ρ : Sl} {M : Mem} : evE c (.chain o o2 a b d) ρ M = kCh1 c o o2 b d ρ (evE c a ρ M) := by rw [evE.eq_10]; rfl
def kIsN (ng : Bool) (r : R D) : R D := r.bind fun x M1 => .ok (.bl (match x with | .non => !ng | _ => ng)) M1
theorem kIsN_non {ng : Bool} {M : Mem} : kIsN ng (.ok .non M) = .ok (.bl (!ng)) M := rfl
theorem kIsN_int {ng : Bool} {i : Int} {M : Mem} : kIsN ng (.ok (.int i) M) = .ok (.bl ng) M := rfl
theorem kIsN_bl {ng : Bool} {i : Bool} {M : Mem} : kIsN ng (.ok (.bl i) M) = .ok (.bl ng) M := rfl
theorem kIsN_str {ng : Bool} {i : Str} {M : Mem} : kIsN ng (.ok (.str i) M) = .ok (.bl ng) M := rfl
theorem kIsN_tup {ng : Bool} {i : List D} {M : Mem} : kIsN ng (.ok (.tup i) M) = .ok (.bl ng) M := rfl
theorem kIsN_lst {ng : Bool} {i : List D} {M : Mem} : kIsN ng (.ok (.lst i) M) = .ok (.bl ng) M := rfl
theorem kIsN_dic {ng : Bool} {t : Bool} {i : List (D × D)} {M : Mem} : kIsN ng (.ok (.dic t i) M) = .ok (.bl ng) M := rfl
theorem kIsN_ktup {ng : Bool} {i : List D} {M : Mem} : kIsN ng (.ok (.ktup i) M) = .ok (.bl ng) M := rfl
theorem E_isN {c : Cfg} {a : Ex} {ng : Bool} {ρ : Sl} {M : Mem} : evE c (.isN a ng) ρ M = kIsN ng (evE c a ρ M) := by rw [evE.eq_11]; rfl
theorem E_and {c : Cfg} {es : List Ex} {ρ : Sl} {M : Mem} : evE c (.and es) ρ M = evAnd c es ρ M := by rw [evE.eq_12]
theorem E_or {c : Cfg} {es : List Ex} {ρ : Sl} {M : Mem} : evE c (.or es) ρ M = evOr c es ρ M := by rw [evE.eq_13]
def kAnd2 (c : Cfg) (es : List Ex) (ρ : Sl) (d : D) (x : Option Bool) (M : Mem) : R D := match x with
  | some true => evAnd c es ρ M
  | some false => .ok d M
  | none => .st
theorem kAnd2_t {c : Cfg} {es : List Ex} {ρ : Sl} {d : D} {M : Mem} : kAnd2 c es ρ d (some true) M = evAnd c es ρ M := rfl
theorem kAnd2_f {c : Cfg} {es : List Ex} {ρ : Sl} {d : D} {M : Mem} : kAnd2 c es ρ d (some false) M = .ok d M := rfl
def kAnd (c : Cfg) (es : List Ex) (ρ : Sl) (r : R D) : R D := r.bind fun d M1 => kAnd2 c es ρ d (truth d) M1
theorem kAnd_ok {c : Cfg} {es : List Ex} {ρ : Sl} {d : D} {M : Mem} : kAnd c es ρ (.ok d M) = kAnd2 c es ρ d (truth d) M := rfl
theorem kAnd_ex {c : Cfg} {es : List Ex} {ρ : Sl} {k : Nat} {M : Mem} : kAnd c es ρ (.ex k M) = .ex k M := rfl
theorem E_and1 {c : Cfg} {e : Ex} {ρ : Sl} {M : Mem} : evAnd c [e] ρ M = evE c e ρ M := by
  unfold evAnd
  cases evE c e ρ M <;> rfl
theorem E_and2 {c : Cfg} {e e2 : Ex} {es : List Ex} {ρ : Sl} {M : Mem} : evAnd c (e :: e2 :: es) ρ M = kAnd c (e2 :: es) ρ (evE c e ρ M) := by
  rw [evAnd_cc]
  unfold kAnd
  congr 1
  funext d M1
  cases truth d with
  | none => rfl
  | some b => cases b <;> rfl
def kOr2 (c : Cfg) (es : List Ex) (ρ : Sl) (d : D) (x : Option Bool) (M : Mem) : R D := match x with
  | some true => .ok d M
  | some false => evOr c es ρ M
  | none => .st
theorem kOr2_f {c : Cfg} {es : List Ex} {ρ : Sl} {d : D} {M : Mem} : kOr2 c es ρ d (some false) M = evOr c es ρ M := rfl
theorem kOr2_t {c : Cfg} {es : List Ex} {ρ : Sl} {d : D} {M : Mem} : kOr2 c es ρ d (some true) M = .ok d M := rfl
def kOr (c : Cfg) (es : List Ex) (ρ : Sl) (r : R D) : R D := r.bind fun d M1 => kOr2 c es ρ d (truth d) M1
theorem kOr_ok {c : Cfg} {es : List Ex} {ρ : Sl} {d : D} {M : Mem} : kOr c es ρ (.ok d M) = kOr2 c es ρ d (truth d) M := rfl
theorem kOr_ex {c : Cfg} {es : List Ex} {ρ : Sl} {k : Nat} {M : Mem} : kOr c es ρ (.ex k M) = .ex k M := rfl
theorem E_or1 {c : Cfg} {e : Ex} {ρ : Sl} {M : Mem} : evOr c [e] ρ M = evE c e ρ M := by
  unfold evOr
  cases evE c e ρ M <;> rfl
theorem E_or2 {c : Cfg} {e e2 : Ex} {es : List Ex} {ρ : Sl} {M : Mem} : evOr c (e :: e2 :: es) ρ M = kOr c (e2 :: es) ρ (evE c e ρ M) := by
  rw [evOr_cc]
  unfold kOr
  congr 1
  funext d M1
  cases truth d with
  | none => rfl
  | some b => cases b <;> rfl
def kTru2 (x : Option Bool) (M : Mem) : R Bool := R.of x M
theorem kTru2_some {b : Bool} {M : Mem} : kTru2 (some b) M = .ok b M := rfl
def kTru (r : R D) : R Bool := r.bind fun d M1 => kTru2 (truth d) M1
theorem kTru_ok {d : D} {M : Mem} : kTru (.ok d M) = kTru2 (truth d) M := rfl
theorem kTru_ex {k : Nat} {M : Mem} : kTru (.ex k M) = .ex k M := rfl
theorem E_tst {c : Cfg} {e : Ex} {ρ : Sl} {M : Mem} : evT c e ρ M = kTru (evE c e ρ M) := rfl
def kNot (r : R Bool) : R D := r.bind fun b M2 => .ok (.bl (!b)) M2
theorem kNot_ok {b : Bool} {M : Mem} : kNot (.ok b M) = .ok (.bl (!b)) M := rfl
theorem kNot_ex {k : Nat} {M : Mem} : kNot (.ex k M) = .ex k M := rfl
theorem E_not {c : Cfg} {a : Ex} {ρ : Sl} {M : Mem} : evE c (.not a) ρ M = kNot (kTru (evE c a ρ M)) := by
  rw [evE.eq_14]
  cases evE c a ρ M <;> rfl
def kIte (c : Cfg) (a b : Ex) (ρ : Sl) (r : R Bool) : R D := r.bind fun t M2 => if t then evE c a ρ M2 else evE c b ρ M2
theorem kIte_t {c : Cfg} {a b : Ex} {ρ : Sl} {M : Mem} : kIte c a b ρ (.ok true M) = evE c a ρ M := rfl
theorem kIte_f {c : Cfg} {a b : Ex} {ρ : Sl} {M : Mem} : kIte c a b ρ (.ok false M) = evE c b ρ M := rfl
theorem E_ite {c : Cfg} {q a b : Ex} {ρ : Sl} {M : Mem} : evE c (.ite q a b) ρ M = kIte c a b ρ (kTru (evE c q ρ M)) := by
  rw [evE.eq_15]
  cases evE c q ρ M <;> rfl
def kIx2 (x : D) (r : R D) : R D := r.bind fun y M2 => R.of (ixD x y) M2
theorem kIx2_ok {x y : D} {M : Mem} : kIx2 x (.ok y M) = R.of (ixD x y) M := rfl
theorem kIx2_ex {x : D} {k : Nat} {M : Mem} : kIx2 x (.ex k M) = .ex k M := rfl
def kIx (c : Cfg) (b : Ex) (ρ : Sl) (r : R D) : R D := r.bind fun x M1 => kIx2 x (evE c b ρ M1)
theorem kIx_ok {c : Cfg} {b : Ex} {ρ : Sl} {x : D} {M : Mem} : kIx c b ρ (.ok x M) = kIx2 x (evE c b ρ M) := rfl
theorem kIx_ex {c : Cfg} {b : Ex} {ρ : Sl} {k : Nat} {M : Mem} : kIx c b ρ (.ex k M) = .ex k M := rfl
theorem E_ix {c : Cfg} {a b : Ex} {ρ : Sl} {M : Mem} : evE c (.ix a b) ρ M = kIx c b ρ (evE c a ρ M) := by rw [evE.eq_16]; rfl
def kSl4 (x : D) (l u : Option Int) (M : Mem) : R D := R.of (slD x l u) M
def kSl3 (x : D) (l : Option Int) (o : Option (Option Int)) (M : Mem) : R D := match o with
  | some u => R.of (slD x l u) M
  | none => .st
theorem kSl3_some {x : D} {l u : Option Int} {M : Mem} : kSl3 x l (some u) M = R.of (slD x l u) M := rfl
def kSl2b (hi : Ex) (x : D) (l : Option Int) (r : R D) : R D := r.bind fun z M4 => kSl3 x l (partX hi z) M4
theorem kSl2b_ok {hi : Ex} {x z : D} {l : Option Int} {M : Mem} : kSl2b hi x l (.ok z M) = kSl3 x l (partX hi z) M := rfl
def kSl2a (c : Cfg) (hi : Ex) (ρ : Sl) (x : D) (o : Option (Option Int)) (M : Mem) : R D := match o with
  | some l => kSl2b hi x l (evE c hi ρ M)
  | none => .st
theorem kSl2a_some {c : Cfg} {hi : Ex} {ρ : Sl} {x : D} {l : Option Int} {M : Mem} : kSl2a c hi ρ x (some l) M = kSl2b hi x l (evE c hi ρ M) := rfl
def kSl1 (c : Cfg) (lo hi : Ex) (ρ : Sl) (x : D) (r : R D) : R D := r.bind fun y M2 => kSl2a c hi ρ x (partX lo y) M2
theorem kSl1_ok {c : Cfg} {lo hi : Ex} {ρ : Sl} {x y : D} {M : Mem} : kSl1 c lo hi ρ x (.ok y M) = kSl2a c hi ρ x (partX lo y) M := rfl
def kSl (c : Cfg) (lo hi : Ex) (ρ : Sl) (r : R D) : R D := r.bind fun x M1 => kSl1 c lo hi ρ x (evE c lo ρ M1)
theorem kSl_ok {c : Cfg} {lo hi : Ex} {ρ : Sl} {x : D} {M : Mem} : kSl c lo hi ρ (.ok x M) = kSl1 c lo hi ρ x (evE c lo ρ M) := rfl
theorem E_sl {c : Cfg} {a lo hi : Ex} {ρ : Sl} {M : Mem} : evE c (.sl a lo hi) ρ M = kSl c lo hi ρ (evE c a ρ M) := by
  rw [evE.eq_17]
  unfold kSl kSl1 kSl2a kSl2b kSl3
  congr 1
  funext x M1
  congr 1
  funext y M2
  cases partX lo y with
  | none => rfl
  | some l =>
    simp only [R.of_some, R.bind_ok]
    congr 1
    funext z M3
    cases partX hi z <;> rfl
def kC2 (r : R (Md × D)) : R D := r.bind fun r M2 => .ok r.2 M2
theorem kC2_ok {m : Md} {d : D} {M : Mem} : kC2 (.ok (m, d) M) = .ok d M := rfl
theorem kC2_ex {k : Nat} {M : Mem} : kC2 (.ex k M) = .ex k M := rfl
def kCall (c : Cfg) (f : Nat) (r : R (List D)) : R (Md × D) := r.bind fun ds M1 => c.call f ds M1
theorem kCall_ok {P : Prog} {n f : Nat} {ds : List D} {M : Mem} : kCall (cfgN P n) f (.ok ds M) = callN P n f ds M := rfl
theorem kCall_ex {c : Cfg} {f k : Nat} {M : Mem} : kCall c f (.ex k M) = .ex k M := rfl
theorem E_call {c : Cfg} {f : Nat} {es : List Ex} {ρ : Sl} {M : Mem} : evE c (.call f es) ρ M = kC2 (kCall c f (evEs c es ρ M)) := by
  rw [evE.eq_18]
  cases evEs c es ρ M <;> rfl
def kBlt (b : Blt) (r : R (List D)) : R D := r.bind fun ds M1 => R.of (bltD b ds) M1
theorem kBlt_ok {b : Blt} {ds : List D} {M : Mem} : kBlt b (.ok ds M) = R.of (bltD b ds) M := rfl
theorem kBlt_ex {b : Blt} {k : Nat} {M : Mem} : kBlt b (.ex k M) = .ex k M := rfl
theorem evRs_eq {c : Cfg} {ρ : Sl} : ∀ {es : List Ex} {M : Mem}, evRs c es ρ M = evEs c es ρ M
  | [], M => by rw [evRs.eq_1, evEs.eq_1]
  | e :: es, M => by
    rw [evRs.eq_2, evEs.eq_2]
    congr 1
    funext d M1
    rw [evRs_eq]
theorem E_blt {c : Cfg} {b : Blt} {es : List Ex} {ρ : Sl} {M : Mem} : evE c (.blt b es) ρ M = kBlt b (evEs c es ρ M) := by rw [evE.eq_19, evRs_eq]; rfl
def kIsi2 (x : Option Bool) (M : Mem) : R D := match x with | some b => .ok (.bl b) M | none => .st
theorem kIsi2_some {b : Bool} {M : Mem} : kIsi2 (some b) M = .ok (.bl b) M := rfl
def kIsi (t : Ty) (r : R D) : R D := r.bind fun x M1 => kIsi2 (isiD t x) M1
theorem kIsi_ok {t : Ty} {x : D} {M : Mem} : kIsi t (.ok x M) = kIsi2 (isiD t x) M := rfl
theorem E_isi {c : Cfg} {a : Ex} {t : Ty} {ρ : Sl} {M : Mem} : evE c (.isi a t) ρ M = kIsi t (evE c a ρ M) := by
  rw [evE.eq_21]
  unfold kIsi
  congr 1
  funext x M1
  cases isiD t x <;> rfl
def cmpB (c : Cfg) (elt : Ex) (p : Pt) (conds : List Ex) (ρ0 : Sl) : D → Mem → R (Option D) := fun d M3 => match bindP p d ρ0 with
  | some ρ' => (evAll c conds ρ' M3).bind fun b M4 => if b then (evE c elt ρ' M4).bind fun y M5 => .ok (some y) M5 else .ok none M4
  | none => .st
def kCp1 (c : Cfg) (elt : Ex) (ρ : Sl) (r : R Bool) : R (Option D) := r.bind fun b M4 => if b then (evE c elt ρ M4).bind fun y M5 => .ok (some y) M5 else .ok none M4
def kCp2 (r : R D) : R (Option D) := r.bind fun y M5 => .ok (some y) M5
theorem kCp2_ok {y : D} {M : Mem} : kCp2 (.ok y M) = .ok (some y) M := rfl
theorem kCp1_t {c : Cfg} {elt : Ex} {ρ : Sl} {M : Mem} : kCp1 c elt ρ (.ok true M) = kCp2 (evE c elt ρ M) := rfl
theorem kCp1_f {c : Cfg} {elt : Ex} {ρ : Sl} {M : Mem} : kCp1 c elt ρ (.ok false M) = .ok none M := rfl
def kCp0 (c : Cfg) (elt : Ex) (conds : List Ex) (M : Mem) (o : Option Sl) : R (Option D) := match o with
  | some ρ' => kCp1 c elt ρ' (evAll c conds ρ' M)
  | none => .st
theorem kCp0_some {c : Cfg} {elt : Ex} {conds : List Ex} {M : Mem} {ρ : Sl} : kCp0 c elt conds M (some ρ) = kCp1 c elt ρ (evAll c conds ρ M) := rfl
theorem cmpB_eq {c : Cfg} {elt : Ex} {p : Pt} {conds : List Ex} {ρ0 : Sl} {d : D} {M : Mem} : cmpB c elt p conds ρ0 d M = kCp0 c elt conds M (bindP p d ρ0) := by
  unfold cmpB kCp0
  cases bindP p d ρ0 <;> rfl
def kLc (r : R (List D)) : R D := r.nox.bind fun r M3 => .ok (.lst r) M3
theorem kLc_ok {ds : List D} {M : Mem} : kLc (.ok ds M) = .ok (.lst ds) M := rfl
def kCm2 (c : Cfg) (elt : Ex) (p : Pt) (conds : List Ex) (ρ0 : Sl) (x : Option (List D)) (M : Mem) : R D := match x with
  | some items => kLc (compL (cmpB c elt p conds ρ0) items M)
  | none => .st
theorem kCm2_some {c : Cfg} {elt : Ex} {p : Pt} {conds : List Ex} {ρ0 : Sl} {items : List D} {M : Mem} : kCm2 c elt p conds ρ0 (some items) M = kLc (compL (cmpB c elt p conds ρ0) items M) := rfl
def kCm (c : Cfg) (elt : Ex) (p : Pt) (k : ItK) (conds : List Ex) (ρ0 : Sl) (r : R (List D)) : R D := r.bind fun ds M1 => kCm2 c elt p conds ρ0 (itD k ds) M1
theorem kCm_ok {c : Cfg} {elt : Ex} {p : Pt} {k : ItK} {conds : List Ex} {ρ0 : Sl} {ds : List D} {M : Mem} : kCm c elt p k conds ρ0 (.ok ds M) = kCm2 c elt p conds ρ0 (itD k ds) M := rfl
theorem E_comp {c : Cfg} {elt : Ex} {p : Pt} {k : ItK} {args conds : List Ex} {own : List Nat} {ρ : Sl} {M : Mem} : evE c (.comp elt p k args conds own) ρ M = kCm c elt p k conds (killS ρ own) (evEs c args ρ M) := by
  rw [evE.eq_22]
  unfold kCm
  congr 1
  funext ds M1
  cases itD k ds <;> rfl
theorem E_bor {c : Cfg} {e : Ex} {ρ : Sl} {M : Mem} : evE c (.bor e) ρ M = borR M D.noL (evE c e (viewS ρ) M) := by rw [evE.eq_23]
def kEs2 (d : D) (r : R (List D)) : R (List D) := r.bind fun ds M2 => .ok (d :: ds) M2
theorem kEs2_ok {d : D} {ds : List D} {M : Mem} : kEs2 d (.ok ds M) = .ok (d :: ds) M := rfl
theorem kEs2_ex {d : D} {k : Nat} {M : Mem} : kEs2 d (.ex k M) = .ex k M := rfl
def kEs (c : Cfg) (es : List Ex) (ρ : Sl) (r : R D) : R (List D) := r.bind fun d M1 => kEs2 d (evEs c es ρ M1)
theorem kEs_ok {c : Cfg} {es : List Ex} {ρ : Sl} {d : D} {M : Mem} : kEs c es ρ (.ok d M) = kEs2 d (evEs c es ρ M) := rfl
theorem kEs_ex {c : Cfg} {es : List Ex} {ρ : Sl} {k : Nat} {M : Mem} : kEs c es ρ (.ex k M) = .ex k M := rfl
theorem E_es0 {c : Cfg} {ρ : Sl} {M : Mem} : evEs c [] ρ M = .ok [] M := by rw [evEs.eq_1]
theorem E_es {c : Cfg} {e : Ex} {es : List Ex} {ρ : Sl} {M : Mem} : evEs c (e :: es) ρ M = kEs c es ρ (evE c e ρ M) := by rw [evEs.eq_2]; rfl
theorem E_all0 {c : Cfg} {ρ : Sl} {M : Mem} : evAll c [] ρ M = .ok true M := by rw [evAll.eq_1]
theorem E_all1 {c : Cfg} {e : Ex} {ρ : Sl} {M : Mem} : evAll c [e] ρ M = kTru (evE c e ρ M) := by
  rw [evAll.eq_2]
  unfold kTru
  congr 1
  funext d M1
  cases truth d with
  | none => rfl
  | some b =>
    show (if b = true then evAll c [] ρ M1 else .ok false M1) = .ok b M1
    cases b
    · rfl
    · rw [evAll.eq_1]; rfl
/-! list(range(..)), dicts -/
def kLr2 (x : Option (List D)) (M : Mem) : R D := match x with | some its => .ok (.lst its) M | none => .st
theorem kLr2_some {its : List D} {M : Mem} : kLr2 (some its) M = .ok (.lst its) M := rfl
def kLr (r : R (List D)) : R D := r.bind fun ds M1 => kLr2 (itD (if ds.length = 1 then .rng1 else .rng2) ds) M1
theorem kLr_1 {d : D} {M : Mem} : kLr (.ok [d] M) = kLr2 (itD .rng1 [d]) M := rfl
theorem kLr_2 {d e : D} {M : Mem} : kLr (.ok [d, e] M) = kLr2 (itD .rng2 [d, e]) M := rfl
theorem E_lrng {c : Cfg} {es : List Ex} {ρ : Sl} {M : Mem} : evE c (.lrng es) ρ M = kLr (evEs c es ρ M) := by
  rw [evE.eq_24]
  unfold kLr
  congr 1
  funext ds M1
  cases itD (if ds.length = 1 then .rng1 else .rng2) ds <;> rfl
/-- at a key -/
def atK (t : Bool) (y : D) (kvs : List (D × D)) (z : Option D → R D) : R D := if okK t y = true then z (lookD y kvs) else .st
def kG3 (x : Option D) (r : R D) : R D := r.bind fun z M3 => .ok (x.getD z) M3
theorem kG3_ok {x : Option D} {z : D} {M : Mem} : kG3 x (.ok z M) = .ok (x.getD z) M := rfl
def kG2 (c : Cfg) (t : Bool) (kvs : List (D × D)) (ρ : Sl) (o : Option Ex) (r : R D) : R D := r.bind fun y M2 => atK t y kvs fun x => match o with
  | none => .ok (x.getD .non) M2
  | some e => kG3 x (evE c e ρ M2)
theorem kG2_n {c : Cfg} {t : Bool} {kvs : List (D × D)} {ρ : Sl} {y : D} {M : Mem} (h : okK t y = true) : kG2 c t kvs ρ none (.ok y M) = .ok ((lookD y kvs).getD .non) M := by
  unfold kG2 atK; rw [R.bind_ok, if_pos h]
theorem kG2_s {c : Cfg} {t : Bool} {kvs : List (D × D)} {ρ : Sl} {e : Ex} {y : D} {M : Mem} (h : okK t y = true) : kG2 c t kvs ρ (some e) (.ok y M) = kG3 (lookD y kvs) (evE c e ρ M) := by
  unfold kG2 atK; rw [R.bind_ok, if_pos h]
def kG1 (c : Cfg) (k : Ex) (o : Option Ex) (ρ : Sl) (r : R D) : R D := r.bind fun x M1 => match x with
  | .dic t kvs => kG2 c t kvs ρ o (evE c k ρ M1)
  | _ => .st
theorem kG1_ok {c : Cfg} {k : Ex} {o : Option Ex} {ρ : Sl} {t : Bool} {kvs : List (D × D)} {M : Mem} : kG1 c k o ρ (.ok (.dic t kvs) M) = kG2 c t kvs ρ o (evE c k ρ M) := rfl
theorem E_dget {c : Cfg} {d k : Ex} {o : Option Ex} {ρ : Sl} {M : Mem} : evE c (.dget d k o) ρ M = kG1 c k o ρ (evE c d ρ M) := by
  rw [evE.eq_25]
  unfold kG1
  congr 1
def kX2 (t : Bool) (kvs : List (D × D)) (r : R D) : R D := r.bind fun y M2 => atK t y kvs fun x => R.of x M2
theorem kX2_ok {t : Bool} {kvs : List (D × D)} {y : D} {M : Mem} (h : okK t y = true) : kX2 t kvs (.ok y M) = R.of (lookD y kvs) M := by
  unfold kX2 atK; rw [R.bind_ok, if_pos h]
def kX1 (c : Cfg) (k : Ex) (ρ : Sl) (r : R D) : R D := r.bind fun x M1 => match x with
  | .dic t kvs => kX2 t kvs (evE c k ρ M1)
  | _ => .st
theorem kX1_ok {c : Cfg} {k : Ex} {ρ : Sl} {t : Bool} {kvs : List (D × D)} {M : Mem} : kX1 c k ρ (.ok (.dic t kvs) M) = kX2 t kvs (evE c k ρ M) := rfl
theorem E_dix {c : Cfg} {d k : Ex} {ρ : Sl} {M : Mem} : evE c (.dix d k) ρ M = kX1 c k ρ (evE c d ρ M) := by
  rw [evE.eq_26]
  unfold kX1
  congr 1
def kN2 (y : D) (ng : Bool) (r : R D) : R D := r.bind fun x M2 => match x with
  | .dic t kvs => atK t y kvs fun x => .ok (.bl (x.isSome != ng)) M2
  | _ => .st
theorem kN2_ok {y : D} {ng t : Bool} {kvs : List (D × D)} {M : Mem} (h : okK t y = true) : kN2 y ng (.ok (.dic t kvs) M) = .ok (.bl ((lookD y kvs).isSome != ng)) M := by
  unfold kN2 atK; rw [R.bind_ok]; exact if_pos h
def kN1 (c : Cfg) (d : Ex) (ng : Bool) (ρ : Sl) (r : R D) : R D := r.bind fun y M1 => kN2 y ng (evE c d ρ M1)
theorem kN1_ok {c : Cfg} {d : Ex} {ng : Bool} {ρ : Sl} {y : D} {M : Mem} : kN1 c d ng ρ (.ok y M) = kN2 y ng (evE c d ρ M) := rfl
theorem E_din {c : Cfg} {k d : Ex} {ng : Bool} {ρ : Sl} {M : Mem} : evE c (.din k d ng) ρ M = kN1 c d ng ρ (evE c k ρ M) := by
  rw [evE.eq_27]
  unfold kN1
  congr 1
def kDs3 (i : Nat) (t : Bool) (kvs : List (D × D)) (x : D) (ρ : Sl) (r : R D) : RS := r.to ρ fun y M2 => if kvs.length < sizeLine ∧ okK t y = true then .nx (ρ.set i (.ow (.s .z) (.dic t (putD y x kvs)))) M2 else .st
theorem kDs3_ok {i : Nat} {t : Bool} {kvs : List (D × D)} {x y : D} {ρ : Sl} {M : Mem} (h : kvs.length < 16777216) (h2 : okK t y = true) : kDs3 i t kvs x ρ (.ok y M) = .nx (ρ.set i (.ow (.s .z) (.dic t (putD y x kvs)))) M := by
  show (if _ then _ else _) = _
  rw [if_pos ⟨by rw [sizeLine_eq]; exact h, h2⟩]
def kDs2 (c : Cfg) (i : Nat) (k : Ex) (t : Bool) (kvs : List (D × D)) (ρ : Sl) (r : R D) : RS := r.to ρ fun x M1 => kDs3 i t kvs x ρ (evE c k ρ M1)
theorem kDs2_ok {c : Cfg} {i : Nat} {k : Ex} {t : Bool} {kvs : List (D × D)} {ρ : Sl} {x : D} {M : Mem} : kDs2 c i k t kvs ρ (.ok x M) = kDs3 i t kvs x ρ (evE c k ρ M) := rfl
theorem kDs2_ex {c : Cfg} {i : Nat} {k : Ex} {t : Bool} {kvs : List (D × D)} {ρ : Sl} {e : Nat} {M : Mem} : kDs2 c i k t kvs ρ (.ex e M) = .ex e ρ M := rfl
def kDs1 (c : Cfg) (i : Nat) (k v : Ex) (ρ : Sl) (M : Mem) (x : Option (Md × D)) : RS := match x with
  | some (.s .z, .dic t kvs) => kDs2 c i k t kvs ρ (evE c v ρ M)
  | _ => .st
theorem kDs1_some {c : Cfg} {i : Nat} {k v : Ex} {ρ : Sl} {M : Mem} {t : Bool} {kvs : List (D × D)} : kDs1 c i k v ρ M (some (.s .z, .dic t kvs)) = kDs2 c i k t kvs ρ (evE c v ρ M) := rfl
theorem E_dset {c : Cfg} {i : Nat} {k v : Ex} {ρ : Sl} {M : Mem} : evS c (.dset i k v) ρ M = kDs1 c i k v ρ M (getO ρ i) := by
  rw [evS.eq_25, getO_eq]
  cases e : ρ[i]? with
  | none => rfl
  | some s =>
    cases s with
    | un => rfl
    | fz d => rfl
    | ow m d =>
      cases d <;> try (cases m <;> first | rfl | (rename_i m; cases m <;> rfl))
/-! walks over dicts, pop and clear as statements, two walks -/
def kNex (r : RS) : RS := noexS r
theorem kNex_nx {ρ : Sl} {M : Mem} : kNex (.nx ρ M) = .nx ρ M := rfl
theorem kNex_rt {d : Md × D} {M : Mem} : kNex (.rt d M) = .rt d M := rfl
noncomputable def kFk (c : Cfg) (p : Pt) (body : List Sm) (ρ : Sl) (r : R D) : RS := match r with
  | .ok (.dic _ kvs) M => kNex (forL (forB c p body) (kvs.map (·.1)) ρ M)
  | _ => .st
theorem kFk_dic {c : Cfg} {p : Pt} {body : List Sm} {ρ : Sl} {t : Bool} {kvs : List (D × D)} {M : Mem} : kFk c p body ρ (.ok (.dic t kvs) M) = kNex (forL (forB c p body) (kvs.map (·.1)) ρ M) := rfl
theorem E_forK {c : Cfg} {p : Pt} {i : Nat} {body : List Sm} {ρ : Sl} {M : Mem} : evS c (.forK p i body) ρ M = kFk c p body ρ (rdV ρ i M) := by
  rw [evS.eq_22, rdV_eq]
  cases ρ[i]? with
  | none => rfl
  | some s =>
    cases s with
    | un => rfl
    | ow _ _ => rfl
    | fz d => cases d <;> rfl
def kPs5 (i : Nat) (m : Md) (d : D) (ks ds : List D) (j : Int) (ρ : Sl) (M : Mem) (o : Option Nat) : RS := match o with
  | some n => if -(2 ^ 63) ≤ j ∧ j < 2 ^ 63 then .nx (ρ.set i (.ow m (setP d ks (.lst (ds.eraseIdx n))))) M else .st
  | none => .st
theorem kPs5_some {i : Nat} {m : Md} {d : D} {ks ds : List D} {j : Int} {ρ : Sl} {M : Mem} {n : Nat} (h : -9223372036854775808 ≤ j ∧ j < 9223372036854775808) : kPs5 i m d ks ds j ρ M (some n) = .nx (ρ.set i (.ow m (setP d ks (.lst (ds.eraseIdx n))))) M := by
  show (if _ then _ else _) = _
  exact if_pos (by omega)
def kPs4 (i : Nat) (m : Md) (d : D) (ks : List D) (x : D) (ρ : Sl) (M : Mem) (o : Option (List D)) : RS := match o, x with
  | some ds, .int j => kPs5 i m d ks ds j ρ M (L2.ixN ds.length j)
  | _, _ => .st
theorem kPs4_some {i : Nat} {m : Md} {d : D} {ks ds : List D} {j : Int} {ρ : Sl} {M : Mem} : kPs4 i m d ks (.int j) ρ M (some ds) = kPs5 i m d ks ds j ρ M (L2.ixN ds.length j) := rfl
def kPs3 (i : Nat) (m : Md) (d : D) (ks : List D) (ρ : Sl) (r : R D) : RS := r.to ρ fun x M2 => kPs4 i m d ks x ρ M2 (getL d ks)
theorem kPs3_ok {i : Nat} {m : Md} {d : D} {ks : List D} {ρ : Sl} {x : D} {M : Mem} : kPs3 i m d ks ρ (.ok x M) = kPs4 i m d ks x ρ M (getL d ks) := rfl
def kPs2 (c : Cfg) (k : Option Ex) (i : Nat) (m : Md) (d : D) (ks : List D) (ρ : Sl) (M : Mem) (b : Bool) : RS := if b = true then kPs3 i m d ks ρ (evE c (k.getD (.lit (.int (-1)))) ρ M) else .st
theorem kPs2_n {c : Cfg} {i : Nat} {m : Md} {d : D} {ks : List D} {ρ : Sl} {M : Mem} : kPs2 c none i m d ks ρ M true = kPs3 i m d ks ρ (.ok (.int (-1)) M) := by
  show kPs3 i m d ks ρ (evE c (.lit (.int (-1))) ρ M) = _
  rw [evE.eq_2]
theorem kPs2_s {c : Cfg} {k : Ex} {i : Nat} {m : Md} {d : D} {ks : List D} {ρ : Sl} {M : Mem} : kPs2 c (some k) i m d ks ρ M true = kPs3 i m d ks ρ (evE c k ρ M) := rfl
def kPs1 (c : Cfg) (k : Option Ex) (i : Nat) (m : Md) (d : D) (ρ : Sl) (r : R (List D)) : RS := r.nox.to ρ fun ks M1 => kPs2 c k i m d ks ρ M1 (pathB m d ks)
theorem kPs1_ok {c : Cfg} {k : Option Ex} {i : Nat} {m : Md} {d : D} {ρ : Sl} {ks : List D} {M : Mem} : kPs1 c k i m d ρ (.ok ks M) = kPs2 c k i m d ks ρ M (pathB m d ks) := rfl
def kPs0 (c : Cfg) (ps : List Ex) (k : Option Ex) (i : Nat) (ρ : Sl) (M : Mem) (o : Option (Md × D)) : RS := match o with
  | some (m, d) => kPs1 c k i m d ρ (evEs c ps ρ M)
  | none => .st
theorem kPs0_some {c : Cfg} {ps : List Ex} {k : Option Ex} {i : Nat} {ρ : Sl} {M : Mem} {m : Md} {d : D} : kPs0 c ps k i ρ M (some (m, d)) = kPs1 c k i m d ρ (evEs c ps ρ M) := rfl
theorem E_popS {c : Cfg} {i : Nat} {ps : List Ex} {k : Option Ex} {ρ : Sl} {M : Mem} : evS c (.popS i ps k) ρ M = kPs0 c ps k i ρ M (getO ρ i) := by
  rw [evS.eq_23, getO_eq]
  cases e : ρ[i]? with
  | none => rfl
  | some x =>
    cases x with
    | ow m d =>
      show _ = kPs1 c k i m d ρ (evEs c ps ρ M)
      unfold kPs1 kPs2 kPs3
      dsimp only
      congr 1
      funext ks M1
      split
      · congr 1
        funext x M2
        unfold getL kPs4
        cases e2 : getP d ks with
        | none => rfl
        | some y =>
          cases y <;> try rfl
          rename_i ds
          cases x <;> try rfl
      · rfl
    | _ => rfl
def kLk (M : Mem) (r : R D) : R D := lookR M r
theorem kLk_ok {M : Mem} {d : D} (h : d.noL = true) : kLk M (.ok d []) = .ok d M := by unfold kLk lookR; simp [h]
theorem kLk_ex {M : Mem} {c : Nat} : kLk M (.ex c []) = .ex c M := rfl
theorem E_look {c : Cfg} {e : Ex} {ρ : Sl} {M : Mem} : evE c (.look e) ρ M = kLk M (evE c e (lookS M ρ) []) := by
  conv => lhs; unfold evE
  rfl
theorem lookV_un {M : Mem} : lookV M .un = .un := rfl
theorem lookV_ref {M : Mem} {n : Nat} {ds : List D} (h : M[n]? = some (.lst ds)) (h2 : D.noRefs ds = true) : lookV M (.fz (.ref n)) = .fz (.lst ds) := by
  unfold lookV; simp [h, h2]
theorem lookV_dic {M : Mem} {n : Nat} {t : Bool} {kvs : List (D × D)} (h : M[n]? = some (.dic t kvs)) (h2 : D.noRefk kvs = true) : lookV M (.fz (.ref n)) = .fz (.dic t kvs) := by
  unfold lookV; simp [h, h2]
def kRp1 (M : Mem) (n : Nat) (o : Option MO) : R D := match o with
  | some (.lst ds) => (match ds[ds.length - 1]? with
    | some y => .ok y (M.set n (.lst ds.dropLast))
    | none => .st)
  | _ => .st
theorem kRp1_some {M : Mem} {n : Nat} {ds : List D} {y : D} : kRp1 M n (some (.lst (ds ++ [y]))) = .ok y (M.set n (.lst ds)) := by
  unfold kRp1; simp
def kRp (r : R D) : R D := r.bind fun x M1 => match x with
  | .ref n => kRp1 M1 n M1[n]?
  | _ => .st
theorem kRp_ok {n : Nat} {M : Mem} : kRp (.ok (.ref n) M) = kRp1 M n M[n]? := rfl
theorem E_rpop {c : Cfg} {e : Ex} {ρ : Sl} {M : Mem} : evE c (.rpop e) ρ M = kRp (evE c e ρ M) := by
  conv => lhs; unfold evE
  rfl
theorem lookV_fz {M : Mem} {d : D} (h : d.noRef = true) : lookV M (.fz d) = .fz d := by
  cases d <;> first | (cases h; done) | (unfold lookV; simp [h]; done) | rfl
theorem lookV_ow {M : Mem} {m : Md} {d : D} (h : d.noRef = true) : lookV M (.ow m d) = .fz d := by unfold lookV; simp [h]
def kRa3 (M : Mem) (n : Nat) (y : D) (o : Option MO) : R D := match o with
  | some (.lst ds) => if ds.length < sizeLine then .ok .non (M.set n (.lst (ds ++ [y]))) else .st
  | _ => .st
theorem kRa3_some {M : Mem} {n : Nat} {ds : List D} {y : D} (h : ds.length < 16777216) : kRa3 M n y (some (.lst ds)) = .ok .non (M.set n (.lst (ds ++ [y]))) := by
  show (if _ then _ else _) = _
  exact if_pos (by rw [sizeLine_eq]; exact h)
def kRa2 (n : Nat) (r : R D) : R D := r.bind fun y M2 => kRa3 M2 n y M2[n]?
theorem kRa2_ok {n : Nat} {y : D} {M : Mem} : kRa2 n (.ok y M) = kRa3 M n y M[n]? := rfl
def kRa1 (n : Nat) (o : Option MO) (r : R D) : R D := match o with
  | some (.lst _) => kRa2 n r
  | _ => .st
theorem kRa1_some {n : Nat} {ds : List D} {r : R D} : kRa1 n (some (.lst ds)) r = kRa2 n r := rfl
def kRa (c : Cfg) (x : Ex) (ρ : Sl) (r : R D) : R D := r.bind fun d M1 => match d with
  | .ref n => kRa1 n M1[n]? (evE c x ρ M1)
  | _ => .st
theorem kRa_ok {c : Cfg} {x : Ex} {ρ : Sl} {n : Nat} {M : Mem} : kRa c x ρ (.ok (.ref n) M) = kRa1 n M[n]? (evE c x ρ M) := rfl
theorem E_rapp {c : Cfg} {e x : Ex} {ρ : Sl} {M : Mem} : evE c (.rapp e x) ρ M = kRa c x ρ (evE c e ρ M) := by
  conv => lhs; unfold evE
  rfl
theorem E_newD {c : Cfg} {t : Bool} {ρ : Sl} {M : Mem} : evE c (.newD t) ρ M = .ok (.ref M.length) (M ++ [.dic t []]) := by
  conv => lhs; unfold evE
def kTf (i : Nat) (ρ : Sl) (M : Mem) (o : Option (Md × D)) : RS := match o with
  | some (m, .lst ds) => if m = .z then .st else .nx (ρ.set i (.fz (.ref M.length))) (M ++ [.lst ds])
  | some (m, .dic t ds) => if m = .z then .st else .nx (ρ.set i (.fz (.ref M.length))) (M ++ [.dic t ds])
  | _ => .st
theorem kTf_d {i : Nat} {ρ : Sl} {M : Mem} {m : Md} {t : Bool} {ds : List (D × D)} : kTf i ρ M (some (.s m, .dic t ds)) = .nx (ρ.set i (.fz (.ref M.length))) (M ++ [.dic t ds]) := rfl
def kRs3 (n : Nat) (x : D) (ρ : Sl) (y : D) (M : Mem) (o : Option MO) : RS := match o with
  | some (.dic t kvs) => if kvs.length < sizeLine ∧ okK t y = true then .nx ρ (M.set n (.dic t (putD y x kvs))) else .st
  | _ => .st
theorem kRs3_some {n : Nat} {x y : D} {ρ : Sl} {M : Mem} {t : Bool} {kvs : List (D × D)} (h : kvs.length < 16777216) (h2 : okK t y = true) : kRs3 n x ρ y M (some (.dic t kvs)) = .nx ρ (M.set n (.dic t (putD y x kvs))) := by
  show (if _ then _ else _) = _
  exact if_pos ⟨by rw [sizeLine_eq]; exact h, h2⟩
def kRs2 (n : Nat) (x : D) (ρ : Sl) (o : Option MO) (r : R D) : RS := match o with
  | some (.dic _ _) => r.to ρ fun y M3 => kRs3 n x ρ y M3 M3[n]?
  | _ => .st
theorem kRs2_some {n : Nat} {x y : D} {ρ : Sl} {M : Mem} {t : Bool} {kvs : List (D × D)} : kRs2 n x ρ (some (.dic t kvs)) (.ok y M) = kRs3 n x ρ y M M[n]? := rfl
def kRs1 (c : Cfg) (k : Ex) (x : D) (ρ : Sl) (r : R D) : RS := r.to ρ fun r M2 => match r with
  | .ref n => kRs2 n x ρ M2[n]? (evE c k ρ M2)
  | _ => .st
theorem kRs1_ok {c : Cfg} {k : Ex} {x : D} {ρ : Sl} {n : Nat} {M : Mem} : kRs1 c k x ρ (.ok (.ref n) M) = kRs2 n x ρ M[n]? (evE c k ρ M) := rfl
def kRs (c : Cfg) (e k : Ex) (ρ : Sl) (r : R D) : RS := r.to ρ fun x M1 => kRs1 c k x ρ (evE c e ρ M1)
theorem kRs_ok {c : Cfg} {e k : Ex} {ρ : Sl} {x : D} {M : Mem} : kRs c e k ρ (.ok x M) = kRs1 c k x ρ (evE c e ρ M) := rfl
theorem kRs_ex {c : Cfg} {e k : Ex} {ρ : Sl} {q : Nat} {M : Mem} : kRs c e k ρ (.ex q M) = .ex q ρ M := rfl
theorem E_rset {c : Cfg} {e k v : Ex} {ρ : Sl} {M : Mem} : evS c (.rset e k v) ρ M = kRs c e k ρ (evE c v ρ M) := by
  conv => lhs; unfold evS
  rfl
theorem kTf_all {i : Nat} {ρ : Sl} {M : Mem} {ds : List D} : kTf i ρ M (some (.all, .lst ds)) = .nx (ρ.set i (.fz (.ref M.length))) (M ++ [.lst ds]) := rfl
theorem kTf_s {i : Nat} {ρ : Sl} {M : Mem} {m : Md} {ds : List D} : kTf i ρ M (some (.s m, .lst ds)) = .nx (ρ.set i (.fz (.ref M.length))) (M ++ [.lst ds]) := rfl
theorem E_toRef {c : Cfg} {i : Nat} {ρ : Sl} {M : Mem} : evS c (.toRef i) ρ M = kTf i ρ M (getO ρ i) := by
  conv => lhs; unfold evS
  rw [getO_eq]
  cases e : ρ[i]? with
  | none => rfl
  | some x =>
    cases x with
    | ow m d => cases d <;> rfl
    | _ => rfl
def kTr (sub : Nat → Nat → Option Bool) (hs : List Hd) (r : RS) : RS := tryR sub hs r
theorem kTr_nx {sub : Nat → Nat → Option Bool} {hs : List Hd} {ρ : Sl} {M : Mem} : kTr sub hs (.nx ρ M) = .nx ρ M := rfl
theorem kTr_rt {sub : Nat → Nat → Option Bool} {hs : List Hd} {d : Md × D} {M : Mem} : kTr sub hs (.rt d M) = .rt d M := rfl
theorem kTr_ex {sub : Nat → Nat → Option Bool} {hs : List Hd} {k : Nat} {ρ : Sl} {M : Mem} : kTr sub hs (.ex k ρ M) = hdR sub k hs ρ M := rfl
theorem E_try {c : Cfg} {body : List Sm} {hs : List Hd} {ρ : Sl} {M : Mem} : evS c (.try_ body hs) ρ M = kTr c.sub hs (evSs c body ρ M) := by
  unfold evS
  rfl
def kPp6 (p : Pt) (i : Nat) (m : Md) (d : D) (ks ds : List D) (j : Int) (ρ : Sl) (M : Mem) (n : Nat) (o : Option D) : RS := match o with
  | some y => if y.isLD = false ∧ -(2 ^ 63) ≤ j ∧ j < 2 ^ 63 then kBd (bindP p y (ρ.set i (.ow m (setP d ks (.lst (ds.eraseIdx n)))))) M else .st
  | none => .st
theorem kPp6_some {p : Pt} {i : Nat} {m : Md} {d : D} {ks ds : List D} {j : Int} {ρ : Sl} {M : Mem} {n : Nat} {y : D} (h0 : y.isLD = false) (h : -9223372036854775808 ≤ j ∧ j < 9223372036854775808) : kPp6 p i m d ks ds j ρ M n (some y) = kBd (bindP p y (ρ.set i (.ow m (setP d ks (.lst (ds.eraseIdx n)))))) M := by
  show (if _ then _ else _) = _
  exact if_pos ⟨h0, by omega⟩
def kPp5 (p : Pt) (i : Nat) (m : Md) (d : D) (ks ds : List D) (j : Int) (ρ : Sl) (M : Mem) (o : Option Nat) : RS := match o with
  | some n => kPp6 p i m d ks ds j ρ M n ds[n]?
  | none => .st
theorem kPp5_some {p : Pt} {i : Nat} {m : Md} {d : D} {ks ds : List D} {j : Int} {ρ : Sl} {M : Mem} {n : Nat} : kPp5 p i m d ks ds j ρ M (some n) = kPp6 p i m d ks ds j ρ M n ds[n]? := rfl
def kPp4 (p : Pt) (i : Nat) (m : Md) (d : D) (ks : List D) (x : D) (ρ : Sl) (M : Mem) (o : Option (List D)) : RS := match o, x with
  | some ds, .int j => kPp5 p i m d ks ds j ρ M (L2.ixN ds.length j)
  | _, _ => .st
theorem kPp4_some {p : Pt} {i : Nat} {m : Md} {d : D} {ks ds : List D} {j : Int} {ρ : Sl} {M : Mem} : kPp4 p i m d ks (.int j) ρ M (some ds) = kPp5 p i m d ks ds j ρ M (L2.ixN ds.length j) := rfl
def kPp3 (p : Pt) (i : Nat) (m : Md) (d : D) (ks : List D) (ρ : Sl) (r : R D) : RS := r.to ρ fun x M2 => kPp4 p i m d ks x ρ M2 (getL d ks)
theorem kPp3_ok {p : Pt} {i : Nat} {m : Md} {d : D} {ks : List D} {ρ : Sl} {x : D} {M : Mem} : kPp3 p i m d ks ρ (.ok x M) = kPp4 p i m d ks x ρ M (getL d ks) := rfl
def kPp2 (c : Cfg) (p : Pt) (k : Option Ex) (i : Nat) (m : Md) (d : D) (ks : List D) (ρ : Sl) (M : Mem) (b : Bool) : RS := if b = true then kPp3 p i m d ks ρ (evE c (k.getD (.lit (.int (-1)))) ρ M) else .st
theorem kPp2_n {c : Cfg} {p : Pt} {i : Nat} {m : Md} {d : D} {ks : List D} {ρ : Sl} {M : Mem} : kPp2 c p none i m d ks ρ M true = kPp3 p i m d ks ρ (.ok (.int (-1)) M) := by
  show kPp3 p i m d ks ρ (evE c (.lit (.int (-1))) ρ M) = _
  rw [evE.eq_2]
theorem kPp2_s {c : Cfg} {p : Pt} {k : Ex} {i : Nat} {m : Md} {d : D} {ks : List D} {ρ : Sl} {M : Mem} : kPp2 c p (some k) i m d ks ρ M true = kPp3 p i m d ks ρ (evE c k ρ M) := rfl
def kPp1 (c : Cfg) (p : Pt) (k : Option Ex) (i : Nat) (m : Md) (d : D) (ρ : Sl) (r : R (List D)) : RS := r.nox.to ρ fun ks M1 => kPp2 c p k i m d ks ρ M1 (pathB m d ks)
theorem kPp1_ok {c : Cfg} {p : Pt} {k : Option Ex} {i : Nat} {m : Md} {d : D} {ρ : Sl} {ks : List D} {M : Mem} : kPp1 c p k i m d ρ (.ok ks M) = kPp2 c p k i m d ks ρ M (pathB m d ks) := rfl
def kPp0 (c : Cfg) (p : Pt) (ps : List Ex) (k : Option Ex) (i : Nat) (ρ : Sl) (M : Mem) (o : Option (Md × D)) : RS := match o with
  | some (m, d) => kPp1 c p k i m d ρ (evEs c ps ρ M)
  | none => .st
theorem kPp0_some {c : Cfg} {p : Pt} {ps : List Ex} {k : Option Ex} {i : Nat} {ρ : Sl} {M : Mem} {m : Md} {d : D} : kPp0 c p ps k i ρ M (some (m, d)) = kPp1 c p k i m d ρ (evEs c ps ρ M) := rfl
theorem E_popK {c : Cfg} {p : Pt} {i : Nat} {ps : List Ex} {k : Option Ex} {ρ : Sl} {M : Mem} : evS c (.pop p i ps k) ρ M = kPp0 c p ps k i ρ M (getO ρ i) := by
  rw [evS.eq_5, getO_eq]
  cases e : ρ[i]? with
  | none => rfl
  | some x =>
    cases x with
    | ow m d =>
      show _ = kPp1 c p k i m d ρ (evEs c ps ρ M)
      unfold kPp1 kPp2 kPp3
      dsimp only
      congr 1
      funext ks M1
      split
      · congr 1
        funext x M2
        unfold getL kPp4
        cases e2 : getP d ks with
        | none => rfl
        | some y =>
          cases y <;> try rfl
          rename_i ds
          cases x <;> try rfl
      · rfl
    | _ => rfl
def kCl2 (ρ : Sl) (M : Mem) : Md × D → RS
  | (.z, _) => .st
  | (_, .lst _) => .nx ρ M
  | _ => .st
theorem kCl2_all {ρ : Sl} {M : Mem} {ds : List D} : kCl2 ρ M (.all, .lst ds) = .nx ρ M := rfl
theorem kCl2_s {ρ : Sl} {M : Mem} {m : Md} {ds : List D} : kCl2 ρ M (.s m, .lst ds) = .nx ρ M := rfl
def kCl (ρ : Sl) (r : R (Md × D)) : RS := r.to ρ fun r M1 => kCl2 ρ M1 r
theorem kCl_ok {ρ : Sl} {r : Md × D} {M : Mem} : kCl ρ (.ok r M) = kCl2 ρ M r := rfl
theorem kCl_ex {ρ : Sl} {k : Nat} {M : Mem} : kCl ρ (.ex k M) = .ex k ρ M := rfl
theorem E_clr {c : Cfg} {a : Ax} {ρ : Sl} {M : Mem} : evS c (.clr a) ρ M = kCl ρ (evA c a ρ M) := by
  rw [evS.eq_24]
  unfold kCl kCl2
  congr 1
/-- the inner walk of two -/
def cmpO (c : Cfg) (elt : Ex) (p : Pt) (conds : List Ex) (p2 : Pt) (k2 : ItK) (args2 conds2 : List Ex) (own2 : List Nat) (ρ0 : Sl) : D → Mem → R (Option (List D)) := fun d M3 => match bindP p d ρ0 with
  | some ρ' => (evAll c conds ρ' M3).bind fun b M4 => if b then (evEs c args2 ρ' M4).bind fun ds2 M5 => (R.of (itD k2 ds2) M5).bind fun items2 M6 =>
      (compL (cmpB c elt p2 conds2 (killS ρ' own2)) items2 M6).bind fun r M10 => .ok (some r) M10 else .ok none M4
  | none => .st
def kO4 (r : R (List D)) : R (Option (List D)) := r.bind fun r M10 => .ok (some r) M10
theorem kO4_ok {ds : List D} {M : Mem} : kO4 (.ok ds M) = .ok (some ds) M := rfl
def kO3 (c : Cfg) (elt : Ex) (p2 : Pt) (conds2 : List Ex) (ρ0 : Sl) (x : Option (List D)) (M : Mem) : R (Option (List D)) := match x with
  | some items2 => kO4 (compL (cmpB c elt p2 conds2 ρ0) items2 M)
  | none => .st
theorem kO3_some {c : Cfg} {elt : Ex} {p2 : Pt} {conds2 : List Ex} {ρ0 : Sl} {items : List D} {M : Mem} : kO3 c elt p2 conds2 ρ0 (some items) M = kO4 (compL (cmpB c elt p2 conds2 ρ0) items M) := rfl
def kO2 (c : Cfg) (elt : Ex) (p2 : Pt) (k2 : ItK) (conds2 : List Ex) (ρ0 : Sl) (r : R (List D)) : R (Option (List D)) := r.bind fun ds2 M5 => kO3 c elt p2 conds2 ρ0 (itD k2 ds2) M5
theorem kO2_ok {c : Cfg} {elt : Ex} {p2 : Pt} {k2 : ItK} {conds2 : List Ex} {ρ0 : Sl} {ds : List D} {M : Mem} : kO2 c elt p2 k2 conds2 ρ0 (.ok ds M) = kO3 c elt p2 conds2 ρ0 (itD k2 ds) M := rfl
def kO1 (c : Cfg) (elt : Ex) (p2 : Pt) (k2 : ItK) (args2 conds2 : List Ex) (own2 : List Nat) (ρ : Sl) (r : R Bool) : R (Option (List D)) := r.bind fun b M4 => if b then kO2 c elt p2 k2 conds2 (killS ρ own2) (evEs c args2 ρ M4) else .ok none M4
theorem kO1_t {c : Cfg} {elt : Ex} {p2 : Pt} {k2 : ItK} {args2 conds2 : List Ex} {own2 : List Nat} {ρ : Sl} {M : Mem} : kO1 c elt p2 k2 args2 conds2 own2 ρ (.ok true M) = kO2 c elt p2 k2 conds2 (killS ρ own2) (evEs c args2 ρ M) := rfl
theorem kO1_f {c : Cfg} {elt : Ex} {p2 : Pt} {k2 : ItK} {args2 conds2 : List Ex} {own2 : List Nat} {ρ : Sl} {M : Mem} : kO1 c elt p2 k2 args2 conds2 own2 ρ (.ok false M) = .ok none M := rfl
def kO0 (c : Cfg) (elt : Ex) (conds : List Ex) (p2 : Pt) (k2 : ItK) (args2 conds2 : List Ex) (own2 : List Nat) (M : Mem) (o : Option Sl) : R (Option (List D)) := match o with
  | some ρ' => kO1 c elt p2 k2 args2 conds2 own2 ρ' (evAll c conds ρ' M)
  | none => .st
theorem kO0_some {c : Cfg} {elt : Ex} {conds : List Ex} {p2 : Pt} {k2 : ItK} {args2 conds2 : List Ex} {own2 : List Nat} {M : Mem} {ρ : Sl} : kO0 c elt conds p2 k2 args2 conds2 own2 M (some ρ) = kO1 c elt p2 k2 args2 conds2 own2 ρ (evAll c conds ρ M) := rfl
theorem cmpO_eq {c : Cfg} {elt : Ex} {p : Pt} {conds : List Ex} {p2 : Pt} {k2 : ItK} {args2 conds2 : List Ex} {own2 : List Nat} {ρ0 : Sl} {d : D} {M : Mem} : cmpO c elt p conds p2 k2 args2 conds2 own2 ρ0 d M = kO0 c elt conds p2 k2 args2 conds2 own2 M (bindP p d ρ0) := by
  unfold cmpO kO0
  cases bindP p d ρ0 with
  | none => rfl
  | some ρ' =>
    dsimp only
    unfold kO1
    congr 1
    funext b M4
    cases b with
    | false => rfl
    | true =>
      simp only [if_true]
      unfold kO2
      congr 1
      funext ds2 M5
      cases itD k2 ds2 <;> rfl
def kLo (r : R (List (List D))) : R D := r.nox.bind fun r M3 => if r.flatten.length ≤ sizeLine then .ok (.lst r.flatten) M3 else .st
theorem kLo_ok {ds : List (List D)} {M : Mem} (h : ds.flatten.length ≤ 16777216) : kLo (.ok ds M) = .ok (.lst ds.flatten) M := by
  show (if _ then _ else _) = _
  rw [if_pos (by rw [sizeLine_eq]; exact h)]
def kCow2 (c : Cfg) (elt : Ex) (p : Pt) (conds : List Ex) (p2 : Pt) (k2 : ItK) (args2 conds2 : List Ex) (own2 : List Nat) (ρ0 : Sl) (x : Option (List D)) (M : Mem) : R D := match x with
  | some items => kLo (compL (cmpO c elt p conds p2 k2 args2 conds2 own2 ρ0) items M)
  | none => .st
theorem kCow2_some {c : Cfg} {elt : Ex} {p : Pt} {conds : List Ex} {p2 : Pt} {k2 : ItK} {args2 conds2 : List Ex} {own2 : List Nat} {ρ0 : Sl} {items : List D} {M : Mem} : kCow2 c elt p conds p2 k2 args2 conds2 own2 ρ0 (some items) M = kLo (compL (cmpO c elt p conds p2 k2 args2 conds2 own2 ρ0) items M) := rfl
def kCow (c : Cfg) (elt : Ex) (p : Pt) (k : ItK) (conds : List Ex) (p2 : Pt) (k2 : ItK) (args2 conds2 : List Ex) (own2 : List Nat) (ρ0 : Sl) (r : R (List D)) : R D := r.bind fun ds M1 => kCow2 c elt p conds p2 k2 args2 conds2 own2 ρ0 (itD k ds) M1
theorem kCow_ok {c : Cfg} {elt : Ex} {p : Pt} {k : ItK} {conds : List Ex} {p2 : Pt} {k2 : ItK} {args2 conds2 : List Ex} {own2 : List Nat} {ρ0 : Sl} {ds : List D} {M : Mem} : kCow c elt p k conds p2 k2 args2 conds2 own2 ρ0 (.ok ds M) = kCow2 c elt p conds p2 k2 args2 conds2 own2 ρ0 (itD k ds) M := rfl
theorem E_comp2 {c : Cfg} {elt : Ex} {p : Pt} {k : ItK} {args conds : List Ex} {own : List Nat} {p2 : Pt} {k2 : ItK} {args2 conds2 : List Ex} {own2 : List Nat} {ρ : Sl} {M : Mem} : evE c (.comp2 elt p k args conds own p2 k2 args2 conds2 own2) ρ M = kCow c elt p k conds p2 k2 args2 conds2 own2 (killS ρ own) (evEs c args ρ M) := by
  rw [evE.eq_28]
  unfold kCow
  congr 1
  funext ds M1
  cases itD k ds <;> rfl
theorem compL_opt {α β : Type} {f : D → Mem → R (Option β)} {M : Mem} (enc : α → D) (g : α → β) (l : List α) (h : ∀ x ∈ l, f (enc x) M = .ok (some (g x)) M) : compL f (l.map enc) M = .ok (l.map g) M := by
  induction l with
  | nil => rfl
  | cons a l ih => simp only [List.map_cons, compL, h a List.mem_cons_self, R.bind_ok, ih fun x hx => h x (List.mem_cons_of_mem _ hx)]
/-! things of one's own -/
def kAe (r : R D) : R (Md × D) := r.bind fun d M1 => .ok (Md.z, d) M1
theorem kAe_ok {d : D} {M : Mem} : kAe (.ok d M) = .ok (Md.z, d) M := rfl
theorem kAe_ex {k : Nat} {M : Mem} : kAe (.ex k M) = .ex k M := rfl
theorem A_e {c : Cfg} {x : Ex} {ρ : Sl} {M : Mem} : evA c (.e x) ρ M = kAe (evE c x ρ M) := by rw [evA.eq_1]; rfl
def kAl (r : R (List (Md × D))) : R (Md × D) := r.bind fun rs M1 => lstA rs M1
theorem kAl_ok {rs : List (Md × D)} {M : Mem} : kAl (.ok rs M) = lstA rs M := rfl
theorem kAl_ex {k : Nat} {M : Mem} : kAl (.ex k M) = .ex k M := rfl
theorem A_lst {c : Cfg} {as : List Ax} {ρ : Sl} {M : Mem} : evA c (.lst as) ρ M = kAl (evAs c as ρ M) := by rw [evA.eq_2]; rfl
theorem A_dict0 {c : Cfg} {t : Bool} {ρ : Sl} {M : Mem} : evA c (.dict0 t) ρ M = .ok (.all, .dic t []) M := by rw [evA.eq_3]
def kAf (r : R D) : R (Md × D) := r.bind fun d M1 => R.of (frA d) M1
theorem kAf_ok {d : D} {M : Mem} : kAf (.ok d M) = R.of (frA d) M := rfl
theorem A_fr {c : Cfg} {x : Ex} {ρ : Sl} {M : Mem} : evA c (.fr x) ρ M = kAf (evE c x ρ M) := by rw [evA.eq_4]; rfl
theorem A_call {c : Cfg} {f : Nat} {es : List Ex} {ρ : Sl} {M : Mem} : evA c (.call f es) ρ M = kCall c f (evEs c es ρ M) := by rw [evA.eq_5]; rfl
def kAx2 (r : Md × D) (x : R D) : R (Md × D) := x.bind fun x M2 => R.of (ixA r x) M2
theorem kAx2_ok {r : Md × D} {x : D} {M : Mem} : kAx2 r (.ok x M) = R.of (ixA r x) M := rfl
def kAx (c : Cfg) (k : Ex) (ρ : Sl) (r : R (Md × D)) : R (Md × D) := r.bind fun r M1 => kAx2 r (evE c k ρ M1)
theorem kAx_ok {c : Cfg} {k : Ex} {ρ : Sl} {r : Md × D} {M : Mem} : kAx c k ρ (.ok r M) = kAx2 r (evE c k ρ M) := rfl
theorem A_ix {c : Cfg} {a : Ax} {k : Ex} {ρ : Sl} {M : Mem} : evA c (.ix a k) ρ M = kAx c k ρ (evA c a ρ M) := by rw [evA.eq_6]; rfl
def cmpA (c : Cfg) (elt : Ax) (p : Pt) (conds : List Ex) (ρ0 : Sl) : D → Mem → R (Option (Md × D)) := fun d M3 => match bindP p d ρ0 with
  | some ρ' => (evAll c conds ρ' M3).bind fun b M4 => if b then (evA c elt ρ' M4).bind fun y M5 => .ok (some y) M5 else .ok none M4
  | none => .st
def kDp2 (r : R (Md × D)) : R (Option (Md × D)) := r.bind fun y M5 => .ok (some y) M5
theorem kDp2_ok {y : Md × D} {M : Mem} : kDp2 (.ok y M) = .ok (some y) M := rfl
def kDp1 (c : Cfg) (elt : Ax) (ρ : Sl) (r : R Bool) : R (Option (Md × D)) := r.bind fun b M4 => if b then kDp2 (evA c elt ρ M4) else .ok none M4
theorem kDp1_t {c : Cfg} {elt : Ax} {ρ : Sl} {M : Mem} : kDp1 c elt ρ (.ok true M) = kDp2 (evA c elt ρ M) := rfl
theorem kDp1_f {c : Cfg} {elt : Ax} {ρ : Sl} {M : Mem} : kDp1 c elt ρ (.ok false M) = .ok none M := rfl
def kDp0 (c : Cfg) (elt : Ax) (conds : List Ex) (M : Mem) (o : Option Sl) : R (Option (Md × D)) := match o with
  | some ρ' => kDp1 c elt ρ' (evAll c conds ρ' M)
  | none => .st
theorem kDp0_some {c : Cfg} {elt : Ax} {conds : List Ex} {M : Mem} {ρ : Sl} : kDp0 c elt conds M (some ρ) = kDp1 c elt ρ (evAll c conds ρ M) := rfl
theorem cmpA_eq {c : Cfg} {elt : Ax} {p : Pt} {conds : List Ex} {ρ0 : Sl} {d : D} {M : Mem} : cmpA c elt p conds ρ0 d M = kDp0 c elt conds M (bindP p d ρ0) := by
  unfold cmpA kDp0
  cases bindP p d ρ0 <;> rfl
def kLd (r : R (List (Md × D))) : R (Md × D) := r.nox.bind fun r M3 => lstA r M3
theorem kLd_ok {ds : List (Md × D)} {M : Mem} : kLd (.ok ds M) = lstA ds M := rfl
def kDm2 (c : Cfg) (elt : Ax) (p : Pt) (conds : List Ex) (ρ0 : Sl) (x : Option (List D)) (M : Mem) : R (Md × D) := match x with
  | some items => kLd (compL (cmpA c elt p conds ρ0) items M)
  | none => .st
theorem kDm2_some {c : Cfg} {elt : Ax} {p : Pt} {conds : List Ex} {ρ0 : Sl} {items : List D} {M : Mem} : kDm2 c elt p conds ρ0 (some items) M = kLd (compL (cmpA c elt p conds ρ0) items M) := rfl
def kDm (c : Cfg) (elt : Ax) (p : Pt) (k : ItK) (conds : List Ex) (ρ0 : Sl) (r : R (List D)) : R (Md × D) := r.bind fun ds M1 => kDm2 c elt p conds ρ0 (itD k ds) M1
theorem kDm_ok {c : Cfg} {elt : Ax} {p : Pt} {k : ItK} {conds : List Ex} {ρ0 : Sl} {ds : List D} {M : Mem} : kDm c elt p k conds ρ0 (.ok ds M) = kDm2 c elt p conds ρ0 (itD k ds) M := rfl
theorem A_comp {c : Cfg} {elt : Ax} {p : Pt} {k : ItK} {args conds : List Ex} {own : List Nat} {ρ : Sl} {M : Mem} : evA c (.comp elt p k args conds own) ρ M = kDm c elt p k conds (killS ρ own) (evEs c args ρ M) := by
  rw [evA.eq_7]
  unfold kDm
  congr 1
  funext ds M1
  cases itD k ds <;> rfl
def kDn (r : R (Md × D)) : R (Md × D) := r.bind fun r M1 => R.of (dnA r) M1
theorem kDn_ok {r : Md × D} {M : Mem} : kDn (.ok r M) = R.of (dnA r) M := rfl
theorem kDn_ex {k : Nat} {M : Mem} : kDn (.ex k M) = .ex k M := rfl
theorem A_dn {c : Cfg} {a : Ax} {ρ : Sl} {M : Mem} : evA c (.dn a) ρ M = kDn (evA c a ρ M) := by rw [evA.eq_9]; rfl
theorem A_bor {c : Cfg} {a : Ax} {ρ : Sl} {M : Mem} : evA c (.bor a) ρ M = borR M okB (evA c a (viewS ρ) M) := by rw [evA.eq_8]
/-! ### instances, displays -/
def kFld (ks : List Str) (f : Str) (r : R D) : R D := r.bind fun x M1 => match x with
  | .ins k fs => if k ∈ ks then R.of (fs.lookup f) M1 else .st
  | _ => .st
theorem kFld_ex {ks : List Str} {f : Str} {k : Nat} {M : Mem} : kFld ks f (.ex k M) = .ex k M := rfl
theorem E_fld {c : Cfg} {ks : List Str} {e : Ex} {f : Str} {ρ : Sl} {M : Mem} : evE c (.fld ks e f) ρ M = kFld ks f (evE c e ρ M) := by simp only [evE]; rfl
def kMc2 (c : Cfg) (f : Nat) (x : D) (r : R (List D)) : R (Md × D) := r.bind fun ds M2 => c.call f (x :: ds) M2
theorem kMc2_ok {P : Prog} {n f : Nat} {x : D} {ds : List D} {M : Mem} : kMc2 (cfgN P n) f x (.ok ds M) = callN P n f (x :: ds) M := rfl
theorem kMc2_ex {c : Cfg} {f k : Nat} {x : D} {M : Mem} : kMc2 c f x (.ex k M) = .ex k M := rfl
def kMc (c : Cfg) (k m : Str) (f : Nat) (es : List Ex) (ρ : Sl) (r : R D) : R (Md × D) := r.bind fun x M1 => match x with
  | .ins k' fs => if k' = k ∧ fs.lookup m = none then kMc2 c f x (evEs c es ρ M1) else .st
  | _ => .st
theorem kMc_ex {c : Cfg} {k m : Str} {f j : Nat} {es : List Ex} {ρ : Sl} {M : Mem} : kMc c k m f es ρ (.ex j M) = .ex j M := rfl
theorem E_mcall {c : Cfg} {k m : Str} {f : Nat} {o : Ex} {es : List Ex} {ρ : Sl} {M : Mem} : evE c (.mcall k m f o es) ρ M = kC2 (kMc c k m f es ρ (evE c o ρ M)) := by
  simp only [evE]
  cases evE c o ρ M with
  | ok d M1 =>
    cases d <;> try rfl
    rename_i k' fs
    simp only [kMc, R.bind_ok]
    split <;> first | rfl | (unfold kMc2 kC2; cases evEs c es ρ M1 <;> rfl)
  | ex _ _ => rfl
  | st => rfl
theorem A_mcall {c : Cfg} {k m : Str} {f : Nat} {o : Ex} {es : List Ex} {ρ : Sl} {M : Mem} : evA c (.mcall k m f o es) ρ M = kMc c k m f es ρ (evE c o ρ M) := by
  simp only [evA]
  cases evE c o ρ M with
  | ok d M1 => cases d <;> rfl
  | ex _ _ => rfl
  | st => rfl
def kMk (r : R (Md × D)) : R D := r.nox.bind fun q M2 => if q.1 = .z then .ok q.2 M2 else .st
theorem kMk_ok {d : D} {M : Mem} : kMk (.ok (.z, d) M) = .ok d M := rfl
def kMkA (c : Cfg) (f : Nat) (r : R (List D)) : R D := r.bind fun ds M1 => kMk (c.call f ds M1)
theorem kMkA_ok {P : Prog} {n f : Nat} {ds : List D} {M : Mem} : kMkA (cfgN P n) f (.ok ds M) = kMk (callN P n f ds M) := rfl
theorem kMkA_ex {c : Cfg} {f k : Nat} {M : Mem} : kMkA c f (.ex k M) = .ex k M := rfl
theorem E_mk {c : Cfg} {f : Nat} {es : List Ex} {ρ : Sl} {M : Mem} : evE c (.mk f es) ρ M = kMkA c f (evEs c es ρ M) := by simp only [evE]; rfl
def kDs (ks : List Str) (r : R (List D)) : R D := r.bind fun ds M1 => if ks.length = ds.length then .ok (.dic false (((ks.map .str).zip ds).foldl (fun acc q => putD q.1 q.2 acc) [])) M1 else .st
theorem E_disp {c : Cfg} {ks : List Str} {es : List Ex} {ρ : Sl} {M : Mem} : evE c (.disp ks es) ρ M = kDs ks (evEs c es ρ M) := by simp only [evE]; rfl
def dcB (c : Cfg) (kx vx : Ex) (p : Pt) (ρ0 : Sl) : D → Mem → R (Option (D × D)) := fun d M3 => match bindP p d ρ0 with
  | some ρ' => (evE c kx ρ' M3).bind fun y M4 => (evE c vx ρ' M4).bind fun z M5 => if okK false y = true then .ok (some (y, z)) M5 else .st
  | none => .st
def kDc (c : Cfg) (kx vx : Ex) (p : Pt) (k : ItK) (ρ0 : Sl) (r : R (List D)) : R D := r.bind fun ds M1 => (R.of (itD k ds) M1).bind fun items M2 => ((compL (dcB c kx vx p ρ0) items M2).nox).bind fun r M3 => .ok (.dic false (r.foldl (fun acc q => putD q.1 q.2 acc) [])) M3
theorem E_dcomp {c : Cfg} {kx vx : Ex} {p : Pt} {k : ItK} {args : List Ex} {own : List Nat} {ρ : Sl} {M : Mem} : evE c (.dcomp kx vx p k args own) ρ M = kDc c kx vx p k (killS ρ own) (evEs c args ρ M) := by simp only [evE]; rfl
def kMt2 (m : Mth) (x : D) (r : R (List D)) : R D := r.bind fun ds M2 => R.of (mthD m x ds) M2
theorem kMt2_ok {m : Mth} {x : D} {ds : List D} {M : Mem} : kMt2 m x (.ok ds M) = R.of (mthD m x ds) M := rfl
def kMt (c : Cfg) (m : Mth) (es : List Ex) (ρ : Sl) (r : R D) : R D := r.bind fun x M1 => if mthOk m x = true then kMt2 m x (evEs c es ρ M1) else .st
theorem kMt_ix {c : Cfg} {es : List Ex} {ρ : Sl} {ds : List D} {M : Mem} : kMt c .index es ρ (.ok (.ktup ds) M) = kMt2 .index (.ktup ds) (evEs c es ρ M) := rfl
theorem kMt_ixL {c : Cfg} {es : List Ex} {ρ : Sl} {ds : List D} {M : Mem} : kMt c .indexL es ρ (.ok (.lst ds) M) = kMt2 .indexL (.lst ds) (evEs c es ρ M) := rfl
theorem E_mth {c : Cfg} {m : Mth} {o : Ex} {es : List Ex} {ρ : Sl} {M : Mem} : evE c (.mth m o es) ρ M = kMt c m es ρ (evE c o ρ M) := by simp only [evE]; rfl
theorem E_fs0 {c : Cfg} {ρ : Sl} {M : Mem} : evFs c [] ρ M = .ok [] M := rfl
def kFs2 (f : Str) (d : D) (r : R (List (Str × D))) : R (List (Str × D)) := r.bind fun ds M2 => .ok ((f, d) :: ds) M2
theorem kFs2_ok {f : Str} {d : D} {ds : List (Str × D)} {M : Mem} : kFs2 f d (.ok ds M) = .ok ((f, d) :: ds) M := rfl
def kFs (c : Cfg) (f : Str) (r : List (Str × Ex)) (ρ : Sl) (q : R D) : R (List (Str × D)) := q.bind fun d M1 => kFs2 f d (evFs c r ρ M1)
theorem kFs_ok {c : Cfg} {f : Str} {r : List (Str × Ex)} {ρ : Sl} {d : D} {M : Mem} : kFs c f r ρ (.ok d M) = kFs2 f d (evFs c r ρ M) := rfl
theorem E_fs {c : Cfg} {f : Str} {e : Ex} {r : List (Str × Ex)} {ρ : Sl} {M : Mem} : evFs c ((f, e) :: r) ρ M = kFs c f r ρ (evE c e ρ M) := rfl
def kMI (k : Str) (ρ : Sl) (r : R (List (Str × D))) : RS := r.to ρ fun d M1 => .rt (Md.z, .ins k d) M1
theorem kMI_ok {k : Str} {ρ : Sl} {d : List (Str × D)} {M : Mem} : kMI k ρ (.ok d M) = .rt (Md.z, .ins k d) M := rfl
theorem E_mkI {c : Cfg} {k : Str} {fs : List (Str × Ex)} {ρ : Sl} {M : Mem} : evS c (.mkI k fs) ρ M = kMI k ρ (evFs c fs (.un :: ρ) M) := by simp only [evS]; rfl
def kAs2 (d : Md × D) (r : R (List (Md × D))) : R (List (Md × D)) := r.bind fun ds M2 => .ok (d :: ds) M2
theorem kAs2_ok {d : Md × D} {ds : List (Md × D)} {M : Mem} : kAs2 d (.ok ds M) = .ok (d :: ds) M := rfl
def kAs (c : Cfg) (es : List Ax) (ρ : Sl) (r : R (Md × D)) : R (List (Md × D)) := r.bind fun d M1 => kAs2 d (evAs c es ρ M1)
theorem kAs_ok {c : Cfg} {es : List Ax} {ρ : Sl} {d : Md × D} {M : Mem} : kAs c es ρ (.ok d M) = kAs2 d (evAs c es ρ M) := rfl
theorem A_as0 {c : Cfg} {ρ : Sl} {M : Mem} : evAs c [] ρ M = .ok [] M := by rw [evAs.eq_1]
theorem A_as {c : Cfg} {e : Ax} {es : List Ax} {ρ : Sl} {M : Mem} : evAs c (e :: es) ρ M = kAs c es ρ (evA c e ρ M) := by rw [evAs.eq_2]; rfl
def kOf {α : Type} (o : Option α) (M : Mem) : R α := R.of o M
def kEl (M : Mem) (o : Option (Md × D)) : R (Md × D) := match o with | some r => .ok r M | none => .st
theorem kEl_some {r : Md × D} {M : Mem} : kEl M (some r) = .ok r M := rfl
theorem L_a {c : Cfg} {a : Ax} {ρ : Sl} {M : Mem} : evL c (.a a) ρ M = evA c a ρ M := rfl
theorem L_mv {c : Cfg} {j : Nat} {ρ : Sl} {M : Mem} : evL c (.mv j) ρ M = kEl M (getO ρ j) := by
  unfold evL
  rw [getO_eq]
  dsimp only
  cases ρ[j]? with
  | none => rfl
  | some x => cases x <;> rfl
theorem give_a {a : Ax} {ρ : Sl} : giveS (.a a) ρ = ρ := rfl
theorem give_mv {j : Nat} {ρ : Sl} : giveS (.mv j) ρ = ρ.set j .un := rfl
theorem forB_eq {c : Cfg} {p : Pt} {body : List Sm} {d : D} {ρ : Sl} {M : Mem} : forB c p body d ρ M = kSeq c body (kBd (bindP p d ρ) M) := by
  unfold forB
  cases bindP p d ρ <;> rfl
/-! ### later: tuples that own, a dict of the top, a list backwards, extend -/
def kAt (r : R (List (Md × D))) : R (Md × D) := r.bind fun rs M1 => tupA rs M1
theorem kAt_ok {rs : List (Md × D)} {M : Mem} : kAt (.ok rs M) = tupA rs M := rfl
theorem kAt_ex {k : Nat} {M : Mem} : kAt (.ex k M) = .ex k M := rfl
theorem A_tup {c : Cfg} {as : List Ax} {ρ : Sl} {M : Mem} : evA c (.tup as) ρ M = kAt (evAs c as ρ M) := by simp only [evA]; rfl
def kL2 (d : Md × D) (r : R (List (Md × D))) : R (List (Md × D)) := r.bind fun ds M2 => .ok (d :: ds) M2
theorem kL2_ok {d : Md × D} {ds : List (Md × D)} {M : Mem} : kL2 d (.ok ds M) = .ok (d :: ds) M := rfl
theorem kL2_ex {d : Md × D} {k : Nat} {M : Mem} : kL2 d (.ex k M) = .ex k M := rfl
def kL1 (c : Cfg) (es : List El) (ρ : Sl) (r : R (Md × D)) : R (List (Md × D)) := r.bind fun d M1 => kL2 d (evLs c es ρ M1)
theorem kL1_ok {c : Cfg} {es : List El} {ρ : Sl} {d : Md × D} {M : Mem} : kL1 c es ρ (.ok d M) = kL2 d (evLs c es ρ M) := rfl
theorem kL1_ex {c : Cfg} {es : List El} {ρ : Sl} {k : Nat} {M : Mem} : kL1 c es ρ (.ex k M) = .ex k M := rfl
theorem L_s0 {c : Cfg} {ρ : Sl} {M : Mem} : evLs c [] ρ M = .ok [] M := rfl
theorem L_s {c : Cfg} {e : El} {es : List El} {ρ : Sl} {M : Mem} : evLs c (e :: es) ρ M = kL1 c es (giveS e ρ) (evL c e ρ M) := rfl
theorem E_retT {c : Cfg} {es : List El} {ρ : Sl} {M : Mem} : evS c (.retT es) ρ M = kRetA ρ (kAt (evLs c es ρ M)) := by simp only [evS]; rfl
/-- the depth of a tuple's parts -/
theorem tupA_eq {rs : List (Md × D)} {M : Mem} {m : Md} (h : joinM rs = some m) : tupA rs M = .ok (m.up, .tup (rs.map (·.2))) M := by unfold tupA; rw [h]
def kTu (rs : List (Md × D)) (M : Mem) (o : Option Md) : R (Md × D) := match o with
  | some m => .ok (m.up, .tup (rs.map (·.2))) M
  | none => .st
theorem kTu_some {rs : List (Md × D)} {M : Mem} {m : Md} : kTu rs M (some m) = .ok (m.up, .tup (rs.map (·.2))) M := rfl
theorem A_tupA {rs : List (Md × D)} {M : Mem} : tupA rs M = kTu rs M (joinM rs) := by
  unfold tupA kTu
  cases joinM rs <;> rfl
theorem kJn_nil : joinM [] = some .all := rfl
theorem kJn_f {r : Md × D} {rs : List (Md × D)} (h : r.2.isLD = false) : joinM (r :: rs) = joinM rs := by
  unfold joinM
  rw [List.filter_cons, h]
  rfl
theorem kJn_t {r : Md × D} {rs : List (Md × D)} (h : r.2.isLD = true) (h2 : (rs.all fun q => !q.2.isLD || decide (q.1 = r.1)) = true) : joinM (r :: rs) = some r.1 := by
  unfold joinM
  rw [List.filter_cons, h]
  simp only [if_true]
  rw [if_pos]
  rw [List.all_eq_true]
  intro q hq
  obtain ⟨h3, h4⟩ := List.mem_filter.mp hq
  have := List.all_eq_true.mp h2 q h3
  simpa [h4] using this
theorem kUp_all : Md.all.up = .all := rfl
theorem kUp_s {m : Md} : (Md.s m).up = .s (.s m) := rfl
theorem kUp_z : Md.z.up = .s .z := rfl
def kLkA (M : Mem) (r : R (Md × D)) : R (Md × D) := lookA M r
theorem kLkA_s {M : Mem} {ds : List D} (h : D.noLs ds = true) : kLkA M (.ok (.s .z, .lst ds) []) = .ok (.s .z, .lst ds) M := by unfold kLkA lookA lkB; simp [h]
theorem kLkA_all {M : Mem} {d : D} (h : d.tupNoL = true) : kLkA M (.ok (.all, d) []) = .ok (.all, d) M := by unfold kLkA lookA lkB okB; simp [h]
theorem kLkA_ex {M : Mem} {c : Nat} : kLkA M (.ex c []) = .ex c M := rfl
theorem A_look {c : Cfg} {a : Ax} {ρ : Sl} {M : Mem} : evA c (.look a) ρ M = kLkA M (evA c a (lookS M ρ) []) := by simp only [evA]; rfl
def kRl (r : R D) : R D := r.bind fun x M1 => match x with
  | .lst ds => .ok (.lst ds.reverse) M1
  | _ => .st
theorem kRl_ok {ds : List D} {M : Mem} : kRl (.ok (.lst ds) M) = .ok (.lst ds.reverse) M := rfl
theorem kRl_ex {k : Nat} {M : Mem} : kRl (.ex k M) = .ex k M := rfl
theorem E_rsl {c : Cfg} {a : Ex} {ρ : Sl} {M : Mem} : evE c (.rsl a) ρ M = kRl (evE c a ρ M) := by simp only [evE]; rfl
def kKg (ds : List (List (Str × D))) (k : Nat) (r : R D) : R D := r.bind fun x M1 => R.of (kgetD ds k x) M1
theorem kKg_ok {ds : List (List (Str × D))} {k : Nat} {x : D} {M : Mem} : kKg ds k (.ok x M) = R.of (kgetD ds k x) M := rfl
theorem kKg_ex {ds : List (List (Str × D))} {k j : Nat} {M : Mem} : kKg ds k (.ex j M) = .ex j M := rfl
theorem E_kget {P : Prog} {n k : Nat} {e : Ex} {ρ : Sl} {M : Mem} : evE (cfgN P n) (.kget k e) ρ M = kKg P.dcts k (evE (cfgN P n) e ρ M) := by simp only [evE]; rfl
def kMx2 (x : D) (r : R D) : R D := r.bind fun y M2 => R.of (mxdD x y) M2
theorem kMx2_ok {x y : D} {M : Mem} : kMx2 x (.ok y M) = R.of (mxdD x y) M := rfl
def kMx (c : Cfg) (d : Ex) (ρ : Sl) (r : R D) : R D := r.bind fun x M1 => kMx2 x (evE c d ρ M1)
theorem kMx_ok {c : Cfg} {d : Ex} {ρ : Sl} {x : D} {M : Mem} : kMx c d ρ (.ok x M) = kMx2 x (evE c d ρ M) := rfl
theorem kMx_ex {c : Cfg} {d : Ex} {ρ : Sl} {k : Nat} {M : Mem} : kMx c d ρ (.ex k M) = .ex k M := rfl
theorem E_mxd {c : Cfg} {a d : Ex} {ρ : Sl} {M : Mem} : evE c (.mxd a d) ρ M = kMx c d ρ (evE c a ρ M) := by simp only [evE]; rfl
def kEx2 (i : Nat) (m : Md) (d : D) (ks : List D) (ρ : Sl) (r : R (Md × D)) : RS := r.to ρ fun r M2 => extR i m d ks r ρ M2
theorem kEx2_ok {i : Nat} {m : Md} {d : D} {ks : List D} {ρ : Sl} {r : Md × D} {M : Mem} : kEx2 i m d ks ρ (.ok r M) = extR i m d ks r ρ M := rfl
theorem kEx2_ex {i : Nat} {m : Md} {d : D} {ks : List D} {ρ : Sl} {k : Nat} {M : Mem} : kEx2 i m d ks ρ (.ex k M) = .ex k ρ M := rfl
def kEx1 (c : Cfg) (i : Nat) (a : Ax) (ρ : Sl) (m : Md) (d : D) (r : R (List D)) : RS := r.nox.to ρ fun ks M1 => if pathB m d ks = true then kEx2 i m d ks ρ (evA c a ρ M1) else .st
theorem kEx1_0 {c : Cfg} {i : Nat} {a : Ax} {ρ : Sl} {m : Md} {ds : List D} {M : Mem} (h : m ≠ .z) : kEx1 c i a ρ m (.lst ds) (.ok [] M) = kEx2 i m (.lst ds) [] ρ (evA c a ρ M) := by
  cases m with
  | z => exact absurd rfl h
  | s _ => rfl
  | all => rfl
def kEx0 (c : Cfg) (i : Nat) (ps : List Ex) (a : Ax) (ρ : Sl) (M : Mem) (o : Option (Md × D)) : RS := match o with
  | some (m, d) => kEx1 c i a ρ m d (evEs c ps ρ M)
  | none => .st
theorem kEx0_some {c : Cfg} {i : Nat} {ps : List Ex} {a : Ax} {ρ : Sl} {M : Mem} {m : Md} {d : D} : kEx0 c i ps a ρ M (some (m, d)) = kEx1 c i a ρ m d (evEs c ps ρ M) := rfl
theorem E_ext {c : Cfg} {i : Nat} {ps : List Ex} {a : Ax} {ρ : Sl} {M : Mem} : evS c (.ext i ps a) ρ M = kEx0 c i ps a ρ M (getO ρ i) := by
  simp only [evS]
  rw [getO_eq]
  cases e : ρ[i]? with
  | none => rfl
  | some x => cases x <;> rfl
/-- extend at the top of a list whose parts are settled -/
theorem ext_top {i : Nat} {m : Md} {ds ys : List D} {ρ : Sl} {M : Mem} (h : ds.length + ys.length ≤ sizeLine) (hm : m = .s .z ∨ m = .all ∧ ys.all (fun y => !y.isLD) = true) : extR i (.s .z) (.lst ds) [] (m, .lst ys) ρ M = .nx (ρ.set i (.ow (.s .z) (.lst (ds ++ ys)))) M := by
  unfold extR
  simp only [getP]
  rw [if_pos]
  · rfl
  · rcases hm with rfl | ⟨rfl, h2⟩
    · exact ⟨by decide, .inl rfl, h⟩
    · exact ⟨by decide, .inr h2, h⟩
def kHl (c : Cfg) (ρ : Sl) : List (COp × Ex) → D → Mem → R D
  | [], x, M => .ok x M
  | [p], x, M => (evE c p.2 ρ M).bind fun y M2 => R.of (cmpD p.1 x y) M2
  | p :: q :: r, x, M => (evE c p.2 ρ M).bind fun y M2 => chR (R.of (cmpD p.1 x y) M2) fun M3 => kHl c ρ (q :: r) y M3
def kH0 (c : Cfg) (ρ : Sl) (l : List (COp × Ex)) (r : R D) : R D := r.bind fun x M => kHl c ρ l x M
theorem kH0_ok {c : Cfg} {ρ : Sl} {l : List (COp × Ex)} {x : D} {M : Mem} : kH0 c ρ l (.ok x M) = kHl c ρ l x M := rfl
theorem kHl_1 {c : Cfg} {ρ : Sl} {o : COp} {e : Ex} {x : D} {M : Mem} : kHl c ρ [(o, e)] x M = kCmp2 o x (evE c e ρ M) := rfl
def kHy (c : Cfg) (ρ : Sl) (o : COp) (x : D) (l : List (COp × Ex)) (r : R D) : R D := r.bind fun y M2 => chR (R.of (cmpD o x y) M2) fun M3 => kHl c ρ l y M3
def kHt (c : Cfg) (ρ : Sl) (l : List (COp × Ex)) (y : D) (r : R D) : R D := chR r fun M3 => kHl c ρ l y M3
theorem kHl_s {c : Cfg} {ρ : Sl} {o : COp} {e : Ex} {q : COp × Ex} {r : List (COp × Ex)} {x : D} {M : Mem} : kHl c ρ ((o, e) :: q :: r) x M = kHy c ρ o x (q :: r) (evE c e ρ M) := rfl
theorem kHy_ok {c : Cfg} {ρ : Sl} {o : COp} {x y : D} {l : List (COp × Ex)} {M : Mem} : kHy c ρ o x l (.ok y M) = kHt c ρ l y (R.of (cmpD o x y) M) := rfl
theorem kHt_b {c : Cfg} {ρ : Sl} {l : List (COp × Ex)} {y : D} {t : Bool} {M : Mem} : kHt c ρ l y (.ok (.bl t) M) = if t = true then kHl c ρ l y M else .ok (.bl false) M := by cases t <;> rfl
theorem E_ch4 {c : Cfg} {o1 o2 o3 o4 : COp} {a b g d e : Ex} {ρ : Sl} {M : Mem} : evE c (.ch4 o1 o2 o3 o4 a b g d e) ρ M = kH0 c ρ [(o1, b), (o2, g), (o3, d), (o4, e)] (evE c a ρ M) := by simp only [evE]; rfl
theorem cfg_dcts (P : Prog) (n : Nat) : (cfgN P n).dcts = P.dcts := rfl
/-! ### loops -/
@[simp] theorem forL_nil (f : D → Sl → Mem → RS) (ρ : Sl) (M : Mem) : forL f [] ρ M = .nx ρ M := rfl
theorem forL_fold {α β : Type} {body : D → Sl → Mem → RS} {M : Mem} (enc : α → D) (st : β → Sl) (g : β → α → β) : ∀ (items : List α) (b : β), (∀ b x, x ∈ items → body (enc x) (st b) M = .nx (st (g b x)) M) →
    forL body (items.map enc) (st b) M = .nx (st (items.foldl g b)) M
  | [], _, _ => rfl
  | x :: xs, b, h => by
    simp only [List.map_cons, forL, h b x List.mem_cons_self, List.foldl_cons]
    exact forL_fold enc st g xs (g b x) fun b x hx => h b x (List.mem_cons_of_mem _ hx)
/-- a loop that changes nothing -/
theorem forL_same {body : D → Sl → Mem → RS} {M : Mem} {ρ : Sl} : ∀ (items : List D), (∀ x ∈ items, body x ρ M = .nx ρ M) → forL body items ρ M = .nx ρ M
  | [], _ => rfl
  | x :: xs, h => by
    simp only [forL, h x List.mem_cons_self]
    exact forL_same xs fun x hx => h x (List.mem_cons_of_mem _ hx)
/-- a loop by its states -/
theorem forL_run {α : Type} {body : D → Sl → Mem → RS} {M : Mem} (enc : α → D) : ∀ (items : List α) (st : Nat → Sl), (∀ i x, items[i]? = some x → body (enc x) (st i) M = .nx (st (i + 1)) M) → forL body (items.map enc) (st 0) M = .nx (st items.length) M
  | [], _, _ => rfl
  | x :: xs, st, h => by
    simp only [List.map_cons, forL, h 0 x rfl]
    exact forL_run enc xs (fun i => st (i + 1)) fun i y hy => h (i + 1) y (by simpa using hy)
theorem forL_runN {body : D → Sl → Mem → RS} {M : Mem} {n : Nat} {ρ0 ρn : Sl} (st : Nat → Sl) (h0 : st 0 = ρ0) (hn : st n = ρn) (h : ∀ i, i < n → body (.int (i : Nat)) (st i) M = .nx (st (i + 1)) M) : forL body ((List.range n).map fun i => D.int (i : Nat)) ρ0 M = .nx ρn M := by
  have := forL_run (body := body) (M := M) (fun i : Nat => D.int i) (List.range n) st fun i x hx => by
    have hi : i < n := by have := (List.getElem?_eq_some_iff.mp hx).1; simpa using this
    rw [List.getElem?_range hi] at hx
    cases hx
    exact h i hi
  rw [List.length_range] at this
  rw [← h0, ← hn]
  exact this
/-- a loop that appends -/
theorem forL_push {α : Type} {body : D → Sl → Mem → RS} {M : Mem} (enc : α → D) (st : List D → Sl) (g : α → D) : ∀ (items : List α) (acc : List D), (∀ acc x, x ∈ items → acc.length < sizeLine → body (enc x) (st acc) M = .nx (st (acc ++ [g x])) M) → acc.length + items.length ≤ sizeLine →
    forL body (items.map enc) (st acc) M = .nx (st (acc ++ items.map g)) M
  | [], acc, _, _ => by simp
  | x :: xs, acc, h, hl => by
    simp only [List.length_cons] at hl
    simp only [List.map_cons, forL, h acc x List.mem_cons_self (by omega)]
    rw [forL_push enc st g xs (acc ++ [g x]) (fun acc x hx => h acc x (List.mem_cons_of_mem _ hx)) (by simp; omega)]
    simp
theorem compL_map {α β : Type} {f : D → Mem → R (Option β)} {M : Mem} (enc : α → D) (g : α → β) : ∀ (items : List α), (∀ x ∈ items, f (enc x) M = .ok (some (g x)) M) → compL f (items.map enc) M = .ok (items.map g) M
  | [], _ => rfl
  | x :: xs, h => by
    simp only [List.map_cons, compL, h x List.mem_cons_self, R.bind_ok, compL_map enc g xs fun x hx => h x (List.mem_cons_of_mem _ hx)]
theorem compL_filter {α β : Type} {f : D → Mem → R (Option β)} {M : Mem} (enc : α → D) (g : α → Option β) : ∀ (items : List α), (∀ x ∈ items, f (enc x) M = .ok (g x) M) → compL f (items.map enc) M = .ok (items.filterMap g) M
  | [], _ => rfl
  | x :: xs, h => by
    simp only [List.map_cons, compL, h x List.mem_cons_self, R.bind_ok, compL_filter enc g xs fun x hx => h x (List.mem_cons_of_mem _ hx), List.filterMap_cons]
    cases g x <;> rfl
theorem rngD_eq (n : Nat) : rngD 0 (n : Int) = (List.range n).map fun i => D.int (i : Nat) := by
  unfold rngD
  simp
theorem itD_rng1 {n : Int} (h0 : 0 ≤ n) (h : n ≤ sizeLine) : itD .rng1 [.int n] = some ((List.range n.toNat).map fun i => D.int (i : Nat)) := by
  simp only [itD]
  rw [if_pos ⟨by omega, h⟩]
  simp [rngD]
theorem itD_rng1N {n : Nat} (h : n ≤ sizeLine) : itD .rng1 [.int (n : Int)] = some ((List.range n).map fun i => D.int (i : Nat)) := by
  rw [itD_rng1 (by omega) (by omega)]; simp
/-- plain data, not deeper than n -/
def pl : Nat → D → Prop
  | 0, _ => False
  | _ + 1, .non => True
  | _ + 1, .bl _ => True
  | _ + 1, .int _ => True
  | _ + 1, .str _ => True
  | n + 1, .tup ds => ds.length ≤ sizeLine ∧ ∀ x ∈ ds, pl n x
  | n + 1, .lst ds => ds.length ≤ sizeLine ∧ ∀ x ∈ ds, pl n x
  | _ + 1, _ => False
theorem atI_nat {α : Type} {xs : List α} {k : Nat} {x : α} (h : xs[k]? = some x) : L2.atI xs (k : Int) = some x := by
  unfold L2.atI L2.ixN
  have hk := (List.getElem?_eq_some_iff.mp h).1
  rw [if_pos (by omega), if_pos (by omega)]
  simpa using h
@[simp] theorem cfg_call (P : Prog) (n : Nat) : (cfgN P n).call = callN P n := rfl
@[simp] theorem cfg_consts (P : Prog) (n : Nat) : (cfgN P n).consts = P.consts := rfl
theorem compL_rangeN {β : Type} {f : D → Mem → R (Option β)} {M : Mem} {n : Nat} (g : Nat → β) (h : ∀ i, i < n → f (.int (i : Nat)) M = .ok (some (g i)) M) : compL f ((List.range n).map fun i => D.int (i : Nat)) M = .ok ((List.range n).map g) M :=
  compL_map (fun i : Nat => D.int i) g (List.range n) fun i hi => h i (List.mem_range.mp hi)
theorem lstA_all {rs : List (Md × D)} {M : Mem} (h : ∀ r ∈ rs, r.1 = .all ∨ r.2.isLD = false) : lstA rs M = .ok (.all, .lst (rs.map (·.2))) M := by
  have : joinM rs = some .all := by
    unfold joinM
    have hf : ∀ r ∈ rs.filter (fun r => r.2.isLD), r.1 = .all := fun r hr => by
      obtain ⟨h1, h2⟩ := List.mem_filter.mp hr
      rcases h r h1 with z | z
      · exact z
      · rw [z] at h2; cases h2
    split
    · rfl
    · rename_i r t e
      rw [e] at hf
      rw [if_pos, hf r List.mem_cons_self]
      simp only [List.all_eq_true, decide_eq_true_eq]
      intro q hq
      rw [hf r List.mem_cons_self, hf q (List.mem_cons_of_mem _ hq)]
  unfold lstA
  rw [this]; rfl
theorem lstA_map {α : Type} {M : Mem} (g : α → D) (l : List α) : lstA (l.map fun x => (Md.all, g x)) M = .ok (.all, .lst (l.map g)) M := by
  rw [lstA_all fun r hr => by
    obtain ⟨x, _, rfl⟩ := List.mem_map.mp hr
    exact .inl rfl, List.map_map]
  rfl
theorem lstA_mapz {α : Type} {M : Mem} {g : α → D} {l : List α} (h : ∀ x ∈ l, (g x).isLD = false) : lstA (l.map fun x => (Md.z, g x)) M = .ok (.all, .lst (l.map g)) M := by
  rw [lstA_all fun r hr => by
    obtain ⟨x, hx, rfl⟩ := List.mem_map.mp hr
    exact .inr (h x hx), List.map_map]
  rfl
theorem borR_nil {α : Type} {ok : α → Bool} {d : α} {M0 M : Mem} (hM : memOk M = true) (h : ok d = true) : borR M0 ok (.ok d M) = .ok d M := by
  unfold borR
  simp [h, hM]
theorem borR_bl {b : Bool} {M0 M : Mem} (hM : memOk M = true) : borR M0 D.noL (.ok (.bl b) M) = .ok (.bl b) M := borR_nil hM rfl
theorem borR_int {b : Int} {M0 M : Mem} (hM : memOk M = true) : borR M0 D.noL (.ok (.int b) M) = .ok (.int b) M := borR_nil hM rfl
theorem memOk_nil : memOk [] = true := rfl
theorem pl_mono : ∀ {n : Nat} {d : D}, pl n d → pl (n + 1) d
  | 0, _, h => h.elim
  | n + 1, d, h => by
    cases d with
    | lst ds => exact ⟨h.1, fun x hx => pl_mono (h.2 x hx)⟩
    | tup ds => exact ⟨h.1, fun x hx => pl_mono (h.2 x hx)⟩
    | non => trivial
    | bl _ => trivial
    | int _ => trivial
    | str _ => trivial
    | _ => exact h.elim
theorem pl_le {n m : Nat} {d : D} (h : pl n d) (e : n ≤ m) : pl m d := by
  induction e with
  | refl => exact h
  | step _ ih => exact pl_mono ih
theorem pl_int {n : Nat} {i : Int} (h : 1 ≤ n) : pl n (.int i) := pl_le (n := 1) trivial h
theorem pl_lst {α : Type} {n : Nat} {f : α → D} {l : List α} (h1 : l.length ≤ sizeLine) (h : ∀ x ∈ l, pl n (f x)) : pl (n + 1) (.lst (l.map f)) := ⟨by simpa using h1, fun x hx => by
  obtain ⟨y, hy, rfl⟩ := List.mem_map.mp hx
  exact h y hy⟩
theorem small_line {n : Nat} (h : n ≤ 1000000) : n ≤ sizeLine := by rw [sizeLine_eq]; omega
theorem getP_nat {ds : List D} {i : Nat} {d : D} {ks : List D} (h : ds[i]? = some d) : getP (.lst ds) (.int (i : Nat) :: ks) = getP d ks := by
  have hi := (List.getElem?_eq_some_iff.mp h).1
  have e : L2.ixN ds.length (i : Nat) = some i := by
    unfold L2.ixN; rw [if_pos (by omega), if_pos (by omega)]; simp
  simp only [getP, e, h]
theorem setP_nat {ds : List D} {i : Nat} {d x : D} {ks : List D} (h : ds[i]? = some d) : setP (.lst ds) (.int (i : Nat) :: ks) x = .lst (ds.set i (setP d ks x)) := by
  have hi := (List.getElem?_eq_some_iff.mp h).1
  have e : L2.ixN ds.length (i : Nat) = some i := by
    unfold L2.ixN; rw [if_pos (by omega), if_pos (by omega)]; simp
  simp only [setP, e, h]
theorem isLD_lst (ds : List D) : (D.lst ds).isLD = true := rfl
theorem isLD_dic (t : Bool) (ds : List (D × D)) : (D.dic t ds).isLD = true := rfl
theorem isLD_tup (ds : List D) : (D.tup ds).isLD = D.isLDs ds := by simp only [D.isLD]
theorem isLD_ktup (ds : List D) : (D.ktup ds).isLD = false := by simp only [D.isLD]
theorem isLD_ins (c : Str) (fs : List (Str × D)) : (D.ins c fs).isLD = false := by simp only [D.isLD]
theorem isLD_ref (n : Nat) : (D.ref n).isLD = false := by simp only [D.isLD]
theorem isLDs_nil : D.isLDs [] = false := by simp only [D.isLDs]
theorem isLDs_cons (d : D) (ds : List D) : D.isLDs (d :: ds) = (d.isLD || D.isLDs ds) := by simp only [D.isLDs]
theorem isLDs_map {α : Type} {enc : α → D} {l : List α} (h : ∀ x, (enc x).isLD = false) : D.isLDs (l.map enc) = false := by
  induction l with
  | nil => exact isLDs_nil
  | cons a l ih => rw [List.map_cons, isLDs_cons, h, ih]; rfl
theorem isLD_int (i : Int) : (D.int i).isLD = false := rfl
theorem isLD_bl (i : Bool) : (D.bl i).isLD = false := rfl
theorem isLD_str (i : Str) : (D.str i).isLD = false := rfl
theorem isLD_non : (D.non).isLD = false := rfl
theorem slM_ow {d : D} (h : d.isLD = true) : slM (.all, d) = .ow .all d := by unfold slM; simp [h]
theorem slM_z {d : D} : slM (.z, d) = .fz d := by unfold slM; simp
theorem slM_fz {m : Md} {d : D} (h : d.isLD = false) : slM (m, d) = .fz d := by unfold slM; simp [h]
theorem viewV_ow (m : Md) (d : D) : viewV (.ow m d) = .fz d := rfl
theorem viewV_fz (d : D) : viewV (.fz d) = .fz d := rfl
theorem viewV_un : viewV .un = .un := rfl
theorem lstA_nil {M : Mem} : lstA [] M = .ok (.all, .lst []) M := rfl
end VL

/-! VD: rules with premises; comprehensions under a binder -/
namespace VL
open PySem
abbrev iL (ns : List Int) : D := .lst (ns.map .int)
/-! ### operations -/
theorem b_add (i j : Int) : binD .add (.int i) (.int j) = some (.int (i + j)) := rfl
theorem b_sub (i j : Int) : binD .sub (.int i) (.int j) = some (.int (i - j)) := rfl
theorem b_mul {i j : Int} (h : (-18446744073709551616 < i ∧ i < 18446744073709551616) ∨ (-18446744073709551616 < j ∧ j < 18446744073709551616)) : binD .mul (.int i) (.int j) = some (.int (i * j)) := by
  have : CMulB i j = true := by
    unfold CMulB
    exact decide_eq_true (h.imp (fun ⟨a, b⟩ => ⟨by omega, by omega⟩) (fun ⟨a, b⟩ => ⟨by omega, by omega⟩))
  simp only [binD, this, if_true]
theorem b_fdiv {i j : Int} (h : 0 < j ∧ j < 1073741824) : binD .fdiv (.int i) (.int j) = some (.int (i / j)) := by simp only [binD]; rw [if_pos h]
theorem b_mod {i j : Int} (h : 0 < j) : binD .mod (.int i) (.int j) = some (.int (i % j)) := by simp only [binD]; rw [if_pos h]
theorem b_pow18 : binD .pow (.int 10) (.int 18) = some (.int 1000000000000000000) := by
  simp only [binD]
  rw [if_pos (by decide)]
  rfl
theorem b_pow3 : binD .pow (.int 10) (.int 3) = some (.int 1000) := by
  simp only [binD]
  rw [if_pos (by decide)]
  rfl
theorem b_pow4 : binD .pow (.int 10) (.int 4) = some (.int 10000) := by
  simp only [binD]
  rw [if_pos (by decide)]
  rfl
theorem b_pow5 : binD .pow (.int 10) (.int 5) = some (.int 100000) := by
  simp only [binD]
  rw [if_pos (by decide)]
  rfl
theorem b_pow6 : binD .pow (.int 10) (.int 6) = some (.int 1000000) := by
  simp only [binD]
  rw [if_pos (by decide)]
  rfl
theorem b_pow9 : binD .pow (.int 10) (.int 9) = some (.int 1000000000) := by
  simp only [binD]
  rw [if_pos (by decide)]
  rfl
theorem b_pow10 : binD .pow (.int 10) (.int 10) = some (.int 10000000000) := by
  simp only [binD]
  rw [if_pos (by decide)]
  rfl
theorem b_pow12 : binD .pow (.int 10) (.int 12) = some (.int 1000000000000) := by
  simp only [binD]
  rw [if_pos (by decide)]
  rfl
theorem b_pow15 : binD .pow (.int 10) (.int 15) = some (.int 1000000000000000) := by
  simp only [binD]
  rw [if_pos (by decide)]
  rfl
theorem b_pow20 : binD .pow (.int 10) (.int 20) = some (.int 100000000000000000000) := by
  simp only [binD]
  rw [if_pos (by decide)]
  rfl
theorem b_pow30 : binD .pow (.int 10) (.int 30) = some (.int 1000000000000000000000000000000) := by
  simp only [binD]
  rw [if_pos (by decide)]
  rfl
theorem b_adds {x y : Str} (h : x.length + y.length ≤ sizeLine) : binD .add (.str x) (.str y) = some (.str (x ++ y)) := by simp only [binD]; rw [if_pos h]
theorem c_is (a b : Bool) : cmpD .is_ (.bl a) (.bl b) = some (.bl (decide (a = b))) := rfl
theorem c_isnot (a b : Bool) : cmpD .isnot (.bl a) (.bl b) = some (.bl (!decide (a = b))) := rfl
theorem b_addl {x y : List D} (h : x.length + y.length ≤ sizeLine) : binD .add (.lst x) (.lst y) = some (.lst (x ++ y)) := by simp only [binD]; rw [if_pos h]
theorem b_addt {x y : List D} (h : x.length + y.length ≤ sizeLine) : binD .add (.tup x) (.tup y) = some (.tup (x ++ y)) := by simp only [binD]; rw [if_pos h]
theorem b_band (i j : Int) : binD .band (.int i) (.int j) = some (.int (Builtin.bitAnd i j)) := rfl
theorem a_add (i j : Int) : augD .add (.int i) (.int j) = some (.int (i + j)) := rfl
theorem a_sub (i j : Int) : augD .sub (.int i) (.int j) = some (.int (i - j)) := rfl
theorem a_adds {x y : Str} (h : x.length + y.length ≤ sizeLine) : augD .add (.str x) (.str y) = some (.str (x ++ y)) := by simp only [augD]; rw [if_pos h]
theorem c_lt (i j : Int) : cmpD .lt (.int i) (.int j) = some (.bl (decide (i < j))) := rfl
theorem c_le (i j : Int) : cmpD .le (.int i) (.int j) = some (.bl (decide (i ≤ j))) := rfl
theorem c_gt (i j : Int) : cmpD .gt (.int i) (.int j) = some (.bl (decide (j < i))) := rfl
theorem c_ge (i j : Int) : cmpD .ge (.int i) (.int j) = some (.bl (decide (j ≤ i))) := rfl
theorem c_eqi (i j : Int) : cmpD .eq (.int i) (.int j) = some (.bl (decide (i = j))) := rfl
theorem c_nei (i j : Int) : cmpD .ne (.int i) (.int j) = some (.bl (!decide (i = j))) := rfl
theorem c_eqs (i j : Str) : cmpD .eq (.str i) (.str j) = some (.bl (decide (i = j))) := rfl
theorem c_nes (i j : Str) : cmpD .ne (.str i) (.str j) = some (.bl (!decide (i = j))) := rfl
theorem c_eqb (i j : Bool) : cmpD .eq (.bl i) (.bl j) = some (.bl (decide (i = j))) := rfl
theorem c_neb (i j : Bool) : cmpD .ne (.bl i) (.bl j) = some (.bl (!decide (i = j))) := rfl
theorem atI_def {ds : List D} (n : Nat) : L2.atI ds (n : Int) = ds[n]? := by
  unfold L2.atI L2.ixN
  by_cases h : n < ds.length
  · rw [if_pos (by omega), if_pos (by omega)]; simp
  · rw [if_pos (by omega), if_neg (by omega)]
    simp [List.getElem?_eq_none (Nat.le_of_not_lt h)]
theorem x_lst {ds : List D} (n : Nat) : ixD (.lst ds) (.int (n : Int)) = ds[n]? := atI_def n
theorem x_tup {ds : List D} (n : Nat) : ixD (.tup ds) (.int (n : Int)) = ds[n]? := atI_def n
theorem x_ixN {n : Nat} {j : Int} (h0 : 0 ≤ j) (h1 : j < n) : L2.ixN n j = some j.toNat := by
  unfold L2.ixN
  rw [if_pos h0, if_pos h1]
theorem x_ixL {n : Nat} (h : 0 < n) : L2.ixN n (-1) = some (n - 1) := by
  unfold L2.ixN
  rw [if_neg (by decide)]
  simp; omega
theorem x_l0 {d : D} {ds : List D} : ixD (.lst (d :: ds)) (.int 0) = some d := x_lst 0
theorem x_t0 {d : D} {ds : List D} : ixD (.tup (d :: ds)) (.int 0) = some d := x_tup 0
theorem x_lL {d : D} {ds : List D} (n : Nat) : ixD (.lst (d :: ds)) (.int (no_index (@OfNat.ofNat Int n instOfNat))) = (d :: ds)[n]? := x_lst n
theorem x_tL {d : D} {ds : List D} (n : Nat) : ixD (.tup (d :: ds)) (.int (no_index (@OfNat.ofNat Int n instOfNat))) = (d :: ds)[n]? := x_tup n
theorem x_map {α : Type} [Inhabited α] {enc : α → D} {l : List α} {i : Int} (h0 : 0 ≤ i) (h1 : i < l.length) : ixD (.lst (l.map enc)) (.int i) = some (enc (l.getD i.toNat default)) := by
  obtain ⟨n, rfl⟩ := Int.eq_ofNat_of_zero_le h0
  rw [x_lst]
  have : n < l.length := by omega
  simp [this]
theorem x_mapt {α : Type} [Inhabited α] {enc : α → D} {l : List α} {i : Int} (h0 : 0 ≤ i) (h1 : i < l.length) : ixD (.tup (l.map enc)) (.int i) = some (enc (l.getD i.toNat default)) := by
  obtain ⟨n, rfl⟩ := Int.eq_ofNat_of_zero_le h0
  rw [x_tup]
  have : n < l.length := by omega
  simp [this]
theorem b_strF {a b : String} (h : decide (Str.ofString a = Str.ofString b) = false) : (Str.ofString a = Str.ofString b) = False := eq_false (of_decide_eq_false h)
/-! ### walks -/
def rngN (n : Nat) : List D := (List.range n).map fun i => D.int (i : Nat)
def rngF (a : Int) (n : Nat) : List D := (List.range n).map fun i => D.int (a + (i : Nat))
theorem i_rng1 {n : Int} (h : 0 ≤ n ∧ n ≤ 16777216) : itD .rng1 [.int n] = some (rngN n.toNat) := itD_rng1 h.1 (by rw [sizeLine_eq]; omega)
theorem i_rng1N {n : Nat} (h : n ≤ 16777216) : itD .rng1 [.int (n : Int)] = some (rngN n) := itD_rng1N (by rw [sizeLine_eq]; omega)
theorem i_rng2 {a b : Int} (h : -16777216 ≤ a ∧ a ≤ 16777216 ∧ -16777216 ≤ b ∧ b - a ≤ 16777216) : itD .rng2 [.int a, .int b] = some (rngF a (b - a).toNat) := by
  simp only [itD]
  rw [if_pos (by rw [sizeLine_eq]; omega)]
  rfl
theorem i_seq (ds : List D) : itD .seq [.lst ds] = some ds := rfl
theorem i_seqt (ds : List D) : itD .seq [.tup ds] = some ds := rfl
theorem i_keys (t : Bool) (kvs : List (D × D)) : itD .keys [.dic t kvs] = some (kvs.map (·.1)) := rfl
theorem i_rev (ds : List D) : itD .rev [.lst ds] = some ds.reverse := rfl
theorem i_revt (ds : List D) : itD .rev [.tup ds] = some ds.reverse := rfl
def rngS (a c : Int) (n : Nat) : List D := (List.range n).map fun i => D.int (a + (i : Nat) * c)
theorem i_rng3 {a b c : Int} (h : -16777216 ≤ a ∧ a ≤ 16777216 ∧ -16777216 ≤ b ∧ b - a ≤ 16777216) (h2 : 0 < c ∧ c < 1073741824) : itD .rng3 [.int a, .int b, .int c] = some (rngS a c ((b - a + c - 1) / c).toNat) := by
  simp only [itD]
  rw [if_pos (by rw [sizeLine_eq]; omega)]
  rfl
theorem i_zip {α β : Type} {e1 : α → D} {e2 : β → D} {l : List α} {m : List β} : itD .zip [.lst (l.map e1), .lst (m.map e2)] = some ((l.zip m).map fun p => D.tup [e1 p.1, e2 p.2]) := by
  simp only [itD]
  rw [List.zip_map, List.map_map]
  rfl
/-! ### built-ins -/
theorem f_len (ds : List D) : bltD .len [.lst ds] = some (.int ds.length) := rfl
theorem f_lent (ds : List D) : bltD .len [.tup ds] = some (.int ds.length) := rfl
theorem f_int (i : Int) : bltD .int [.int i] = some (.int i) := rfl
theorem f_intb (b : Bool) : bltD .int [.bl b] = some (.int (if b then 1 else 0)) := rfl
theorem f_list (ds : List D) : bltD .list [.lst ds] = some (.lst ds) := rfl
theorem f_listt (ds : List D) : bltD .list [.tup ds] = some (.lst ds) := rfl
theorem f_tuple (ds : List D) : bltD .tuple [.lst ds] = some (.tup ds) := rfl
theorem f_tuplet (ds : List D) : bltD .tuple [.tup ds] = some (.tup ds) := rfl
theorem f_max (i j : Int) : bltD .max [.int i, .int j] = some (.int (max i j)) := by
  simp only [bltD, Option.some.injEq, D.int.injEq]; split <;> omega
theorem f_min (i j : Int) : bltD .min [.int i, .int j] = some (.int (min i j)) := by
  simp only [bltD, Option.some.injEq, D.int.injEq]; split <;> omega
theorem f_abs (i : Int) : bltD .abs [.int i] = some (.int (i.natAbs : Nat)) := by
  simp only [bltD, Option.some.injEq, D.int.injEq]; split <;> omega
theorem intsOf_mapf {α : Type} (f : α → Int) : ∀ l : List α, intsOf (l.map fun x => .int (f x)) = some (l.map f)
  | [] => rfl
  | x :: l => by simp only [List.map_cons, intsOf, intsOf_mapf f l, Option.map_some]
theorem blsOf_mapf {α : Type} (f : α → Bool) : ∀ l : List α, blsOf (l.map fun x => .bl (f x)) = some (l.map f)
  | [] => rfl
  | x :: l => by simp only [List.map_cons, blsOf, blsOf_mapf f l, Option.map_some]
theorem f_sum {α : Type} (f : α → Int) (l : List α) : bltD .sum [.lst (l.map fun x => .int (f x))] = some (.int (l.map f).sum) := by
  simp only [bltD, intsOf_mapf, Option.map_some]
theorem f_all {α : Type} (f : α → Bool) (l : List α) : bltD .all [.lst (l.map fun x => .bl (f x))] = some (.bl (l.all f)) := by
  simp only [bltD, blsOf_mapf, Option.map_some, List.all_map, Function.comp_def, id]
theorem f_any {α : Type} (f : α → Bool) (l : List α) : bltD .any [.lst (l.map fun x => .bl (f x))] = some (.bl (l.any f)) := by
  simp only [bltD, blsOf_mapf, Option.map_some, List.any_map, Function.comp_def, id]
def maxI (l : List Int) : Int := (maxL l).getD 0
def minI (l : List Int) : Int := (minL l).getD 0
theorem f_maxl {α : Type} (f : α → Int) {l : List α} (h : 0 < l.length) : bltD .max [.lst (l.map fun x => .int (f x))] = some (.int (maxI (l.map f))) := by
  simp only [bltD, intsOf_mapf, Option.bind_some]
  cases l with
  | nil => simp at h
  | cons a r => rfl
theorem f_minl {α : Type} (f : α → Int) {l : List α} (h : 0 < l.length) : bltD .min [.lst (l.map fun x => .int (f x))] = some (.int (minI (l.map f))) := by
  simp only [bltD, intsOf_mapf, Option.bind_some]
  cases l with
  | nil => simp at h
  | cons a r => rfl
theorem f_maxI {l : List Int} (h : 0 < l.length) : bltD .max [.lst (l.map D.int)] = some (.int (maxI l)) := by
  have := f_maxl (fun x => x) h
  simpa using this
theorem f_minI {l : List Int} (h : 0 < l.length) : bltD .min [.lst (l.map D.int)] = some (.int (minI l)) := by
  have := f_minl (fun x => x) h
  simpa using this
def sortI (l : List Int) : List Int := l.mergeSort fun a b => decide (a ≤ b)
def sortP (l : List (Int × Int)) : List (Int × Int) := l.mergeSort lePB
def enP (p : Int × Int) : D := .tup [.int p.1, .int p.2]
theorem f_sortI {l : List Int} : bltD .sorted [.lst (l.map D.int)] = some (.lst ((sortI l).map D.int)) := by
  have := intsOf_mapf (fun x => x) l
  simp only [List.map_id_fun', id] at this
  simp only [bltD, srtD, this, Option.map_some]; rfl
theorem pairsOf_map' : ∀ l : List (Int × Int), pairsOf (l.map enP) = some l
  | [] => rfl
  | p :: l => by simp only [List.map_cons, enP, pairsOf]; rw [show (l.map enP) = l.map enP from rfl, pairsOf_map' l]; rfl
theorem f_sortP {l : List (Int × Int)} (h : 0 < l.length) : bltD .sorted [.lst (l.map enP)] = some (.lst ((sortP l).map enP)) := by
  have h1 : intsOf (l.map enP) = none := by
    cases l with
    | nil => simp at h
    | cons p l => rfl
  simp only [bltD, srtD, h1, pairsOf_map', Option.map_some]; rfl
/-! ### dicts, their keys ints -/
theorem f_lend (l : List (D × D)) : bltD .len [.dic false l] = some (.int l.length) := rfl
theorem f_lenk (l : List D) : bltD .len [.ktup l] = some (.int l.length) := rfl
theorem f_listd {t : Bool} (l : List (D × D)) : bltD .list [.dic t l] = some (.lst (l.map (·.1))) := by cases t <;> rfl
theorem i_seqk (ds : List D) : itD .seq [.ktup ds] = some ds := rfl
def enK {α : Type} (e : α → D) (p : Int × α) : D × D := (.int p.1, e p.2)
theorem x_okKi {i : Int} : okK false (.int i) = true := rfl
theorem x_okKs {i : Str} : okK false (.str i) = true := rfl
def lookI {α : Type} (k : Int) (l : List (Int × α)) : Option α := (l.find? fun p => decide (p.1 = k)).map (·.2)
theorem lookD_map {α : Type} {e : α → D} {k : Int} : ∀ {l : List (Int × α)}, lookD (.int k) (l.map (enK e)) = (lookI k l).map e
  | [] => rfl
  | p :: l => by
    have ih := lookD_map (e := e) (k := k) (l := l)
    unfold lookD lookI at ih ⊢
    simp only [List.map_cons, List.find?_cons, enK]
    by_cases h : p.1 = k
    · simp [h]
    · simp only [D.int.injEq, h, decide_false]; exact ih
theorem lookI_none {α : Type} {k : Int} : ∀ {l : List (Int × α)}, (∀ p ∈ l, p.1 ≠ k) → lookI k l = none
  | [], _ => rfl
  | p :: l, h => by
    unfold lookI
    rw [List.find?_cons_of_neg (by simpa using h p List.mem_cons_self)]
    exact lookI_none fun q hq => h q (List.mem_cons_of_mem _ hq)
theorem lookI_some {α : Type} {k : Int} {v : α} : ∀ {l : List (Int × α)}, (k, v) ∈ l → (∀ p ∈ l, p.1 = k → p.2 = v) → lookI k l = some v
  | [], h, _ => by cases h
  | p :: l, h, u => by
    unfold lookI
    by_cases e : p.1 = k
    · rw [List.find?_cons_of_pos (by simpa using e)]
      simp [u p List.mem_cons_self e]
    · rw [List.find?_cons_of_neg (by simpa using e)]
      refine lookI_some ?_ fun q hq => u q (List.mem_cons_of_mem _ hq)
      rcases List.mem_cons.mp h with rfl | h
      · exact absurd rfl e
      · exact h
theorem putD_new {k v : D} {l : List (D × D)} (h : ∀ p ∈ l, p.1 ≠ k) : putD k v l = l ++ [(k, v)] := by
  unfold putD
  rw [if_neg]
  simp only [List.any_eq_true, decide_eq_true_eq, not_exists, not_and]
  exact h
theorem putD_mapN {α : Type} {e : α → D} {l : List (Int × α)} {k : Int} {v : D} (h : ∀ p ∈ l, p.1 ≠ k) : putD (.int k) v (l.map (enK e)) = l.map (enK e) ++ [(.int k, v)] := by
  refine putD_new fun p hp => ?_
  obtain ⟨q, hq, rfl⟩ := List.mem_map.mp hp
  simpa [enK] using h q hq
theorem q_tn {α : Type} {f : α → D} {l : List α} (h : ∀ x, (f x).tupNoL = true) : D.tupNoL (.lst (l.map f)) = true := by
  show D.tupNoLs (l.map f) = true
  induction l with
  | nil => rfl
  | cons x l ih => simp only [List.map_cons, D.tupNoLs, h x, ih, Bool.and_self]
theorem q_borA {d : D} {M0 M : Mem} (hM : memOk M = true) (h : d.tupNoL = true) : borR M0 okB (.ok (.all, d) M) = .ok (.all, d) M := borR_nil hM (by unfold okB; simp [h])
theorem p_borAi {l : List Int} {M0 M : Mem} (hM : memOk M = true) : borR M0 okB (.ok (.all, .lst (l.map D.int)) M) = .ok (.all, .lst (l.map D.int)) M := q_borA hM (q_tn fun _ => rfl)
theorem p_borAm {α : Type} {f : α → D} {l : List α} {M0 M : Mem} (hM : memOk M = true) (h : ∀ x, (f x).tupNoL = true) : borR M0 okB (.ok (.all, .lst (l.map f)) M) = .ok (.all, .lst (l.map f)) M := q_borA hM (q_tn h)
/-! ### branches -/
theorem kIf_b {c : Cfg} {a b : List Sm} {ρ : Sl} {t : Bool} {M : Mem} : kIf c a b ρ (.ok t M) = if t = true then evSs c a ρ M else evSs c b ρ M := by cases t <;> rfl
theorem kIte_b {c : Cfg} {a b : Ex} {ρ : Sl} {t : Bool} {M : Mem} : kIte c a b ρ (.ok t M) = if t = true then evE c a ρ M else evE c b ρ M := by cases t <;> rfl
theorem kAnd2_b {c : Cfg} {es : List Ex} {ρ : Sl} {d : D} {t : Bool} {M : Mem} : kAnd2 c es ρ d (some t) M = if t = true then evAnd c es ρ M else .ok d M := by cases t <;> rfl
theorem kOr2_b {c : Cfg} {es : List Ex} {ρ : Sl} {d : D} {t : Bool} {M : Mem} : kOr2 c es ρ d (some t) M = if t = true then .ok d M else evOr c es ρ M := by cases t <;> rfl
theorem kCh3_b {c : Cfg} {o2 : COp} {y : D} {d : Ex} {ρ : Sl} {t : Bool} {M : Mem} : kCh3 c o2 y d ρ (.ok (.bl t) M) = if t = true then kCmp2 o2 y (evE c d ρ M) else .ok (.bl false) M := by cases t <;> rfl
section
variable {α : Type} {p : Prop} [Decidable p] {M : Mem}
/-- both ways end well: one value -/
theorem ok_ite {a b : α} : (if p then R.ok a M else R.ok b M) = R.ok (if p then a else b) M := by split <;> rfl
theorem bl_ite {a b : Bool} : (if p then D.bl a else D.bl b) = D.bl (if p then a else b) := by split <;> rfl
theorem int_ite {a b : Int} : (if p then D.int a else D.int b) = D.int (if p then a else b) := by split <;> rfl
theorem str_ite {a b : Str} : (if p then D.str a else D.str b) = D.str (if p then a else b) := by split <;> rfl
theorem kSeq_if {c : Cfg} {r : List Sm} {x y : RS} : kSeq c r (if p then x else y) = if p then kSeq c r x else kSeq c r y := by split <;> rfl
theorem fin_if {x y : RS} : (if p then x else y).fin = if p then x.fin else y.fin := by split <;> rfl
theorem kC2_if {x y : R (Md × D)} : kC2 (if p then x else y) = if p then kC2 x else kC2 y := by split <;> rfl
theorem ite_bl {a : Bool} : (if p then a else false) = (decide p && a) := by split <;> simp [*]
theorem ite_blT {a : Bool} : (if p then true else a) = (decide p || a) := by split <;> simp [*]
theorem ite_blF {a : Bool} : (if p then false else a) = (!decide p && a) := by split <;> simp [*]
end
/-! ### comprehensions -/
def cmpM {α β : Type} : (l : List α) → ((x : α) → x ∈ l → Mem → R (Option β)) → Mem → R (List β)
  | [], _, M => .ok [] M
  | x :: l, f, M => (f x List.mem_cons_self M).bind fun o M1 => (cmpM l (fun y h => f y (List.mem_cons_of_mem _ h)) M1).bind fun r M2 => .ok (match o with | some y => y :: r | none => r) M2
theorem compL_M {α β : Type} {f : D → Mem → R (Option β)} (enc : α → D) : ∀ (l : List α) (M : Mem), compL f (l.map enc) M = cmpM l (fun x _ M => f (enc x) M) M
  | [], _ => rfl
  | x :: l, M => by
    simp only [List.map_cons, compL, cmpM]
    congr 1
    funext o M1
    rw [compL_M enc l]
    all_goals (cases o <;> rfl)
theorem cmpM_opt {α β : Type} {g : α → Option β} : ∀ (l : List α) {M : Mem}, cmpM l (fun x _ M => .ok (g x) M) M = .ok (l.filterMap g) M
  | [], _ => rfl
  | x :: l, M => by
    simp only [cmpM, R.bind_ok, cmpM_opt l, List.filterMap_cons]
    cases g x <;> rfl
theorem cmpM_some {α β : Type} {g : α → β} {l : List α} {M : Mem} : cmpM l (fun x _ M => .ok (some (g x)) M) M = .ok (l.map g) M := by
  rw [cmpM_opt (g := fun x => some (g x))]; simp
def cmpN {β : Type} (n : Nat) (f : (i : Nat) → i < n → Mem → R (Option β)) (M : Mem) : R (List β) := cmpM (List.range n) (fun i h => f i (List.mem_range.mp h)) M
theorem cmpN_opt {β : Type} {g : Nat → Option β} {n : Nat} {M : Mem} : cmpN n (fun i _ M => .ok (g i) M) M = .ok ((List.range n).filterMap g) M := cmpM_opt _
theorem cmpN_some {β : Type} {g : Nat → β} {n : Nat} {M : Mem} : cmpN n (fun i _ M => .ok (some (g i)) M) M = .ok ((List.range n).map g) M := cmpM_some
section
variable {c : Cfg} {p : Pt} {conds : List Ex} {ρ0 : Sl} {M : Mem}
theorem kDm2_M {α : Type} {elt : Ax} {l : List α} {enc : α → D} : kDm2 c elt p conds ρ0 (some (l.map enc)) M = kLd (cmpM l (fun x _ M => kDp0 c elt conds M (bindP p (enc x) ρ0)) M) := by
  rw [kDm2_some, compL_M]; simp only [cmpA_eq]
theorem kDm2_N {elt : Ax} {n : Nat} : kDm2 c elt p conds ρ0 (some (rngN n)) M = kLd (cmpN n (fun i _ M => kDp0 c elt conds M (bindP p (.int (i : Nat)) ρ0)) M) := by
  unfold rngN; rw [kDm2_M]; rfl
theorem kDm2_F {elt : Ax} {n : Nat} {a : Int} : kDm2 c elt p conds ρ0 (some (rngF a n)) M = kLd (cmpN n (fun i _ M => kDp0 c elt conds M (bindP p (.int (a + (i : Nat))) ρ0)) M) := by
  unfold rngF; rw [kDm2_M]; rfl
theorem kCm2_M {α : Type} {elt : Ex} {l : List α} {enc : α → D} : kCm2 c elt p conds ρ0 (some (l.map enc)) M = kLc (cmpM l (fun x _ M => kCp0 c elt conds M (bindP p (enc x) ρ0)) M) := by
  rw [kCm2_some, compL_M]; simp only [cmpB_eq]
theorem kCm2_N {elt : Ex} {n : Nat} : kCm2 c elt p conds ρ0 (some (rngN n)) M = kLc (cmpN n (fun i _ M => kCp0 c elt conds M (bindP p (.int (i : Nat)) ρ0)) M) := by
  unfold rngN; rw [kCm2_M]; rfl
theorem kCm2_F {elt : Ex} {n : Nat} {a : Int} : kCm2 c elt p conds ρ0 (some (rngF a n)) M = kLc (cmpN n (fun i _ M => kCp0 c elt conds M (bindP p (.int (a + (i : Nat))) ρ0)) M) := by
  unfold rngF; rw [kCm2_M]; rfl
theorem kCow2_M {α : Type} {elt : Ex} {p2 : Pt} {k2 : ItK} {args2 conds2 : List Ex} {own2 : List Nat} {l : List α} {enc : α → D} : kCow2 c elt p conds p2 k2 args2 conds2 own2 ρ0 (some (l.map enc)) M = kLo (cmpM l (fun x _ M => kO0 c elt conds p2 k2 args2 conds2 own2 M (bindP p (enc x) ρ0)) M) := by
  rw [kCow2_some, compL_M]; simp only [cmpO_eq]
theorem kCow2_N {elt : Ex} {p2 : Pt} {k2 : ItK} {args2 conds2 : List Ex} {own2 : List Nat} {n : Nat} : kCow2 c elt p conds p2 k2 args2 conds2 own2 ρ0 (some (rngN n)) M = kLo (cmpN n (fun i _ M => kO0 c elt conds p2 k2 args2 conds2 own2 M (bindP p (.int (i : Nat)) ρ0)) M) := by
  unfold rngN; rw [kCow2_M]; rfl
theorem kCow2_F {elt : Ex} {p2 : Pt} {k2 : ItK} {args2 conds2 : List Ex} {own2 : List Nat} {n : Nat} {a : Int} : kCow2 c elt p conds p2 k2 args2 conds2 own2 ρ0 (some (rngF a n)) M = kLo (cmpN n (fun i _ M => kO0 c elt conds p2 k2 args2 conds2 own2 M (bindP p (.int (a + (i : Nat))) ρ0)) M) := by
  unfold rngF; rw [kCow2_M]; rfl
theorem kO3_M {α : Type} {elt : Ex} {l : List α} {enc : α → D} : kO3 c elt p conds ρ0 (some (l.map enc)) M = kO4 (cmpM l (fun x _ M => kCp0 c elt conds M (bindP p (enc x) ρ0)) M) := by
  rw [kO3_some, compL_M]; simp only [cmpB_eq]
theorem kO3_N {elt : Ex} {n : Nat} : kO3 c elt p conds ρ0 (some (rngN n)) M = kO4 (cmpN n (fun i _ M => kCp0 c elt conds M (bindP p (.int (i : Nat)) ρ0)) M) := by
  unfold rngN; rw [kO3_M]; rfl
theorem kO3_F {elt : Ex} {n : Nat} {a : Int} : kO3 c elt p conds ρ0 (some (rngF a n)) M = kO4 (cmpN n (fun i _ M => kCp0 c elt conds M (bindP p (.int (a + (i : Nat))) ρ0)) M) := by
  unfold rngF; rw [kO3_M]; rfl
theorem kO1_b {elt : Ex} {p2 : Pt} {k2 : ItK} {args2 conds2 : List Ex} {own2 : List Nat} {ρ : Sl} {t : Bool} : kO1 c elt p2 k2 args2 conds2 own2 ρ (.ok t M) = if t = true then kO2 c elt p2 k2 conds2 (killS ρ own2) (evEs c args2 ρ M) else .ok none M := by cases t <;> rfl
theorem kDp1_b {elt : Ax} {ρ : Sl} {t : Bool} : kDp1 c elt ρ (.ok t M) = if t = true then kDp2 (evA c elt ρ M) else .ok none M := by cases t <;> rfl
theorem kCp1_b {elt : Ex} {ρ : Sl} {t : Bool} : kCp1 c elt ρ (.ok t M) = if t = true then kCp2 (evE c elt ρ M) else .ok none M := by cases t <;> rfl
end
theorem filterMap_ite {α β : Type} {p : α → Prop} [DecidablePred p] {g : α → β} (l : List α) : l.filterMap (fun x => if p x then some (g x) else none) = (l.filter fun x => decide (p x)).map g := by
  induction l with
  | nil => rfl
  | cons x l ih =>
    by_cases h : p x
    · simp [List.filterMap_cons, List.filter_cons, h, ih]
    · simp [List.filterMap_cons, List.filter_cons, h, ih]
theorem filterMap_sm {α β : Type} {g : α → β} {l : List α} : l.filterMap (fun x => some (g x)) = l.map g := by simp
theorem fr_nil : frA (.lst []) = some (.all, .lst []) := rfl
theorem fr_flat {ds : List D} (h : (ds.all fun d => !d.isLD) = true) : frA (.lst ds) = some (.all, .lst ds) := by
  simp only [frA]; rw [if_pos h]
theorem fr_map {α : Type} {enc : α → D} {l : List α} (h : ∀ x, (enc x).isLD = false) : frA (.lst (l.map enc)) = some (.all, .lst (l.map enc)) := fr_flat (by simp [h])
theorem lstA_allB {rs : List (Md × D)} {M : Mem} (h : (rs.all fun r => decide (r.1 = .all) || !r.2.isLD) = true) : lstA rs M = .ok (.all, .lst (rs.map (·.2))) M := lstA_all fun r hr => by
  have := List.all_eq_true.mp h r hr
  simpa using this
theorem p_nil {ds : List D} : pathB .all (.lst ds) [] = true := rfl
theorem p_path {d : D} {ks : List D} {ds : List D} (h : getL d ks = some ds) : pathB .all d ks = true := pathB_L h (by rw [dnP_all]; exact fun h => by cases h)
/-- a list of settled lists: one's own at its top, once there is one -/
def mdz : Nat → Md
  | 0 => .all
  | _ + 1 => .s .z
theorem p_putz {ds : List D} {x : D} (h : x.isLD = true) : putM (mdz ds.length) true ds (.z, x) = some (mdz (ds.length + 1)) := by
  unfold putM
  cases ds with
  | nil => simp [mdz, h, Md.dn, Md.up]
  | cons d ds => simp [mdz, Md.dn]
theorem p_putzm {α : Type} {f : α → D} {l : List α} {x : D} (h : x.isLD = true) : putM (mdz l.length) true (l.map f) (.z, x) = some (mdz (l.length + 1)) := by
  have := p_putz (ds := l.map f) h
  rw [List.length_map] at this
  exact this
theorem p_zpath {n : Nat} {ds : List D} : pathB (mdz n) (.lst ds) [] = true := by
  cases n <;> rfl
theorem p_dn0 {m : Md} : dnP m [] = m := rfl
theorem p_dnall {ds : List D} : dnA (.all, .lst ds) = some (.s .z, .lst ds) := rfl
theorem p_dns {m : Md} {ds : List D} : dnA (.s m, .lst ds) = some (.s .z, .lst ds) := rfl
theorem p_dnalld {t : Bool} {kvs : List (D × D)} : dnA (.all, .dic t kvs) = some (.s .z, .dic t kvs) := rfl
theorem p_slMd {m : Md} {t : Bool} {kvs : List (D × D)} : slM (.s m, .dic t kvs) = .ow (.s m) (.dic t kvs) := by unfold slM; simp [D.isLD]
theorem p_slM {m : Md} {ds : List D} : slM (.s m, .lst ds) = .ow (.s m) (.lst ds) := by unfold slM; simp [D.isLD]
theorem p_puts {t : Bool} {ds : List D} {x : D} : putM (.s .z) t ds (.z, x) = some (.s .z) := by unfold putM; simp [Md.dn]
theorem p_spath {ds : List D} : pathB (.s .z) (.lst ds) [] = true := rfl
theorem p_dnz {α : Type} {g : α → D} {l : List α} {M : Mem} : kDn (lstA (l.map fun x => (Md.z, g x)) M) = .ok (.s .z, .lst (l.map g)) M := by
  have key : ∃ m, joinM (l.map fun x => (Md.z, g x)) = some m := by
    unfold joinM
    split
    · exact ⟨_, rfl⟩
    · rename_i r t e
      have hz : ∀ q ∈ (r :: t), q.1 = Md.z := fun q hq => by
        rw [← e] at hq
        obtain ⟨x, _, rfl⟩ := List.mem_map.mp (List.mem_filter.mp hq).1
        rfl
      refine ⟨r.1, if_pos ?_⟩
      rw [List.all_eq_true]
      intro q hq
      rw [hz r List.mem_cons_self, hz q (List.mem_cons_of_mem _ hq)]; rfl
  obtain ⟨m, hm⟩ := key
  unfold lstA
  rw [hm, List.map_map]
  show R.of (dnA (m.up, _)) M = _
  unfold dnA
  dsimp only
  rw [if_neg m.up_ne]; rfl
theorem p_mdz0 : Md.all = mdz 0 := rfl
/-! ### loops -/
theorem muD_app {k : D} {ds : List D} {y : D} (h : ds.length < 16777216) : muD .app k ds y = some (ds ++ [y]) := by
  simp only [muD]; rw [if_pos (by rw [sizeLine_eq]; exact h)]
theorem forL_N {body : D → Sl → Mem → RS} {M : Mem} {n : Nat} {ρ0 ρn : Sl} (st : Nat → Sl) (h0 : st 0 = ρ0) (hn : st n = ρn) (h : ∀ i, i < n → body (.int (i : Nat)) (st i) M = .nx (st (i + 1)) M) : forL body (rngN n) ρ0 M = .nx ρn M := forL_runN st h0 hn h
noncomputable def kFl (f : D → Sl → Mem → RS) (ds : List D) (r : RS) : RS := match r with
  | .nx ρ' M' => forL f ds ρ' M'
  | .ct ρ' M' => forL f ds ρ' M'
  | .bk ρ' M' => .nx ρ' M'
  | r => r
theorem forL_cons {f : D → Sl → Mem → RS} {d : D} {ds : List D} {ρ : Sl} {M : Mem} : forL f (d :: ds) ρ M = kFl f ds (f d ρ M) := by
  simp only [forL, kFl]
  all_goals (cases f d ρ M <;> rfl)
theorem kFl_nx {f : D → Sl → Mem → RS} {ds : List D} {ρ : Sl} {M : Mem} : kFl f ds (.nx ρ M) = forL f ds ρ M := rfl
theorem kFl_ct {f : D → Sl → Mem → RS} {ds : List D} {ρ : Sl} {M : Mem} : kFl f ds (.ct ρ M) = forL f ds ρ M := rfl
theorem kFl_bk {f : D → Sl → Mem → RS} {ds : List D} {ρ : Sl} {M : Mem} : kFl f ds (.bk ρ M) = .nx ρ M := rfl
theorem kFl_rt {f : D → Sl → Mem → RS} {ds : List D} {d : Md × D} {M : Mem} : kFl f ds (.rt d M) = .rt d M := rfl
theorem kFl_ex {f : D → Sl → Mem → RS} {ds : List D} {k : Nat} {ρ : Sl} {M : Mem} : kFl f ds (.ex k ρ M) = .ex k ρ M := rfl
theorem muD_clear {k : D} {ds : List D} {y : D} : muD .clear k ds y = some [] := rfl
theorem muD_rev {k : D} {ds : List D} {y : D} : muD .rev k ds y = some ds.reverse := rfl
theorem muD_set {e : Ex} {j : Int} {ds : List D} {y : D} (h0 : 0 ≤ j) (h1 : j < ds.length) : muD (.setk e) (.int j) ds y = some (ds.set j.toNat y) := by
  simp only [muD, L2.ixN]
  rw [if_pos h0, if_pos (by omega)]; rfl
/-- a loop by a relation of state and turn -/
theorem forL_rel {α : Type} {body : D → Sl → Mem → RS} {M : Mem} (enc : α → D) (I : Nat → Sl → Prop) : ∀ (items : List α) (k : Nat) (ρ : Sl), I k ρ → (∀ i x ρ, items[i]? = some x → I (k + i) ρ → ∃ ρ', body (enc x) ρ M = .nx ρ' M ∧ I (k + i + 1) ρ') →
    ∃ ρ', forL body (items.map enc) ρ M = .nx ρ' M ∧ I (k + items.length) ρ'
  | [], k, ρ, h, _ => ⟨ρ, rfl, h⟩
  | x :: xs, k, ρ, h, hs => by
    obtain ⟨ρ1, e1, i1⟩ := hs 0 x ρ rfl h
    obtain ⟨ρ2, e2, i2⟩ := forL_rel enc I xs (k + 1) ρ1 i1 fun i y ρ hy hi => by
      have := hs (i + 1) y ρ (by simpa using hy) (by rw [show k + (i + 1) = k + 1 + i by omega]; exact hi)
      rw [show k + (i + 1) + 1 = k + 1 + i + 1 by omega] at this
      exact this
    refine ⟨ρ2, ?_, by rw [List.length_cons, show k + (xs.length + 1) = k + 1 + xs.length by omega]; exact i2⟩
    simp only [List.map_cons, forL, e1]
    exact e2
theorem forL_relN {body : D → Sl → Mem → RS} {M : Mem} {n : Nat} (I : Nat → Sl → Prop) {ρ : Sl} (h0 : I 0 ρ) (h : ∀ i ρ, i < n → I i ρ → ∃ ρ', body (.int (i : Nat)) ρ M = .nx ρ' M ∧ I (i + 1) ρ') : ∃ ρ', forL body (rngN n) ρ M = .nx ρ' M ∧ I n ρ' := by
  have := forL_rel (body := body) (M := M) (fun i : Nat => D.int i) I (List.range n) 0 ρ h0 fun i x ρ hx hi => by
    have hi' : i < n := by have := (List.getElem?_eq_some_iff.mp hx).1; simpa using this
    rw [List.getElem?_range hi'] at hx
    cases hx
    rw [Nat.zero_add] at hi ⊢
    exact h i ρ hi' hi
  rw [List.length_range, Nat.zero_add] at this
  exact this
/-- a loop that may leave -/
theorem forL_until {α : Type} {body : D → Sl → Mem → RS} {M : Mem} {ρ : Sl} (enc : α → D) (p : α → Bool) (r : α → Md × D) : ∀ (items : List α), (∀ x ∈ items, body (enc x) ρ M = if p x = true then .rt (r x) M else .nx ρ M) →
    forL body (items.map enc) ρ M = match items.find? p with | some x => .rt (r x) M | none => .nx ρ M
  | [], _ => rfl
  | x :: xs, h => by
    have hx := h x List.mem_cons_self
    have ih := forL_until enc p r xs fun y hy => h y (List.mem_cons_of_mem _ hy)
    simp only [List.map_cons, forL, hx, List.find?_cons]
    cases e : p x
    · simp only [Bool.false_eq_true, if_false]; exact ih
    · simp only [if_true]
end VL
namespace VL
open PySem
/-- a loop that appends: what is appended is read off the turn -/
theorem forL_app {α : Type} {body : D → Sl → Mem → RS} {M : Mem} {enc : α → D} (st : List D → Sl) {g : α → D} {items : List α} {acc : List D} (hl : acc.length + items.length ≤ 16777216) (h : ∀ acc x, x ∈ items → acc.length < 16777216 → body (enc x) (st acc) M = .nx (st (acc ++ [g x])) M) :
    forL body (items.map enc) (st acc) M = .nx (st (acc ++ items.map g)) M :=
  forL_push enc st g items acc (fun acc x hx hl => h acc x hx (by rw [sizeLine_eq] at hl; exact hl)) (by rw [sizeLine_eq]; exact hl)
theorem forL_appN {body : D → Sl → Mem → RS} {M : Mem} (st : List D → Sl) {g : Nat → D} {n : Nat} {acc : List D} (hl : acc.length + n ≤ 16777216) (h : ∀ acc i, i < n → acc.length < 16777216 → body (.int (i : Nat)) (st acc) M = .nx (st (acc ++ [g i])) M) :
    forL body (rngN n) (st acc) M = .nx (st (acc ++ (List.range n).map g)) M :=
  forL_app (enc := fun i : Nat => D.int i) st (by simpa using hl) fun acc i hi => h acc i (List.mem_range.mp hi)
theorem forL_app0 {α : Type} {body : D → Sl → Mem → RS} {M : Mem} {enc : α → D} (st : List D → Sl) {g : α → D} {items : List α} (hl : items.length ≤ 16777216) (h : ∀ acc x, x ∈ items → acc.length < 16777216 → body (enc x) (st acc) M = .nx (st (acc ++ [g x])) M) :
    forL body (items.map enc) (st []) M = .nx (st (items.map g)) M := forL_app (acc := []) st (by simpa using hl) h
theorem forL_app0N {body : D → Sl → Mem → RS} {M : Mem} (st : List D → Sl) {g : Nat → D} {n : Nat} (hl : n ≤ 16777216) (h : ∀ acc i, i < n → acc.length < 16777216 → body (.int (i : Nat)) (st acc) M = .nx (st (acc ++ [g i])) M) :
    forL body (rngN n) (st []) M = .nx (st ((List.range n).map g)) M := forL_appN (acc := []) st (by simpa using hl) h
/-- a loop that may leave, what it tests and tells is read off -/
theorem forL_find {α : Type} {body : D → Sl → Mem → RS} {M : Mem} {ρ : Sl} {enc : α → D} {p : α → Prop} [DecidablePred p] {r : α → Md × D} {items : List α} (h : ∀ x ∈ items, body (enc x) ρ M = if p x then .rt (r x) M else .nx ρ M) :
    forL body (items.map enc) ρ M = match items.find? fun x => decide (p x) with | some x => .rt (r x) M | none => .nx ρ M :=
  forL_until enc (fun x => decide (p x)) r items fun x hx => by rw [h x hx]; simp
end VL
namespace VL
open PySem
/-! ### two ways that go on: one state -/
def mrg (p : Prop) [Decidable p] : Sl → Sl → Sl
  | x :: a, y :: b => (if p then x else y) :: mrg p a b
  | a, b => if p then a else b
section
variable {p : Prop} [Decidable p] {M : Mem}
theorem mrg_eq : ∀ {a b : Sl}, a.length = b.length → mrg p a b = if p then a else b
  | [], [], _ => by simp [mrg]
  | x :: a, y :: b, h => by
    simp only [mrg, mrg_eq (a := a) (b := b) (by simpa using h)]
    split <;> rfl
  | [], y :: b, h => by simp at h
  | x :: a, [], h => by simp at h
theorem kB_nx {a b : Sl} (h : a.length = b.length) : (if p then RS.nx a M else RS.nx b M) = .nx (mrg p a b) M := by
  rw [mrg_eq h]; split <;> rfl
theorem kB_nil : mrg p [] [] = [] := by simp [mrg]
theorem kB_r {r : Sl} : mrg p r r = r := by rw [mrg_eq rfl]; split <;> rfl
theorem kB_cons {x y : SV} {a b : Sl} : mrg p (x :: a) (y :: b) = (if p then x else y) :: mrg p a b := rfl
theorem kB_fz {d e : D} : (if p then SV.fz d else SV.fz e) = .fz (if p then d else e) := by split <;> rfl
theorem kB_ow {m : Md} {d e : D} : (if p then SV.ow m d else SV.ow m e) = .ow m (if p then d else e) := by split <;> rfl
theorem kB_same {α : Type} {x : α} : (if p then x else x) = x := by split <;> rfl
theorem kB_lst {a b : List D} : (if p then D.lst a else D.lst b) = .lst (if p then a else b) := by split <;> rfl
theorem kB_tup2 {a b c d : D} : (if p then D.tup [a, b] else D.tup [c, d]) = .tup [if p then a else c, if p then b else d] := by split <;> rfl
end
/-! ### lists by their places -/
theorem rg_id {α β : Type} (f : α → β) (d : α) (l : List α) : ((List.range l.length).map fun k => f (l.getD k d)) = l.map f := by
  apply List.ext_getElem
  · simp
  · intro i h1 h2; simp at h1 h2 ⊢; rw [List.getElem?_eq_getElem h1]; rfl
theorem rg_rev {α β : Type} (f : α → β) (d : α) (l : List α) {n : Int} (hn : n = l.length) : ((List.range l.length).map fun k => f (l.getD (n - 1 - (k : Nat)).toNat d)) = l.reverse.map f := by
  subst hn
  apply List.ext_getElem
  · simp
  · intro i h1 h2
    simp at h1 h2 ⊢
    rw [List.getElem?_eq_getElem (by omega)]; rfl
theorem mem_getD {α : Type} {l : List α} {i : Nat} {d : α} (h : i < l.length) : l.getD i d ∈ l := by
  rw [List.getD_eq_getElem?_getD, List.getElem?_eq_getElem h]; exact List.getElem_mem h
end VL
namespace VL
open PySem
/-- a loop that appends k things a turn -/
theorem forL_cat {α : Type} {body : D → Sl → Mem → RS} {M : Mem} {enc : α → D} (k : Nat) (st : List D → Sl) {g : α → List D} : ∀ {items : List α} {acc : List D}, (∀ x, (g x).length = k) → acc.length + k * items.length ≤ 16777216 → (∀ acc x, x ∈ items → acc.length + k ≤ 16777216 → body (enc x) (st acc) M = .nx (st (acc ++ g x)) M) →
    forL body (items.map enc) (st acc) M = .nx (st (acc ++ items.flatMap g)) M
  | [], acc, _, _, _ => by simp
  | x :: xs, acc, hk, hl, h => by
    have hl' : acc.length + k * xs.length + k ≤ 16777216 := by rw [List.length_cons, Nat.mul_add] at hl; omega
    simp only [List.map_cons, forL, h acc x List.mem_cons_self (by omega)]
    rw [forL_cat k st (items := xs) (acc := acc ++ g x) hk (by rw [List.length_append, hk]; omega) fun acc x hx => h acc x (List.mem_cons_of_mem _ hx)]
    simp
end VL
namespace VL
open PySem
/-! ### comprehensions over written lists -/
def kCq {α : Type} (y : α) (r : R (List α)) : R (List α) := r.bind fun ys M => .ok (y :: ys) M
theorem kCq_ok {α : Type} {y : α} {ys : List α} {M : Mem} : kCq y (.ok ys M) = .ok (y :: ys) M := rfl
def kCo {α : Type} (f : D → Mem → R (Option α)) (ds : List D) (r : R (Option α)) : R (List α) := match r with
  | .ok (some y) M => kCq y (compL f ds M)
  | .ok none M => compL f ds M
  | .ex c M => .ex c M
  | .st => .st
theorem kCo_some {α : Type} {f : D → Mem → R (Option α)} {ds : List D} {y : α} {M : Mem} : kCo f ds (.ok (some y) M) = kCq y (compL f ds M) := rfl
theorem kCo_none {α : Type} {f : D → Mem → R (Option α)} {ds : List D} {M : Mem} : kCo f ds (.ok none M) = compL f ds M := rfl
theorem kCo_cons {α : Type} {f : D → Mem → R (Option α)} {d : D} {ds : List D} {M : Mem} : compL f (d :: ds) M = kCo f ds (f d M) := by
  unfold kCo
  simp only [compL]
  cases f d M with
  | ok o M1 =>
    cases o with
    | some y => simp only [R.bind_ok, kCq]
    | none =>
      simp only [R.bind_ok]
      cases compL f ds M1 <;> rfl
  | ex c M1 => rfl
  | st => rfl
theorem kCo_nil {α : Type} {f : D → Mem → R (Option α)} {M : Mem} : compL f [] M = .ok [] M := rfl
theorem kCm2_cons {c : Cfg} {elt : Ex} {p : Pt} {conds : List Ex} {ρ0 : Sl} {d : D} {ds : List D} {M : Mem} : kCm2 c elt p conds ρ0 (some (d :: ds)) M = kLc (compL (cmpB c elt p conds ρ0) (d :: ds) M) := kCm2_some
theorem kDm2_cons {c : Cfg} {elt : Ax} {p : Pt} {conds : List Ex} {ρ0 : Sl} {d : D} {ds : List D} {M : Mem} : kDm2 c elt p conds ρ0 (some (d :: ds)) M = kLd (compL (cmpA c elt p conds ρ0) (d :: ds) M) := kDm2_some
theorem kCm2_nil {c : Cfg} {elt : Ex} {p : Pt} {conds : List Ex} {ρ0 : Sl} {M : Mem} : kCm2 c elt p conds ρ0 (some []) M = .ok (.lst []) M := kCm2_some
end VL

open PySem VL
local macro_rules
  | `(tactic| simp! only [$as,*]) => `(tactic| simp -implicitDefEqProofs (disch := (first | assumption | omega | exact List.mem_flatten.mpr ⟨_, by assumption, by assumption⟩ | (intros; with_unfolding_all exact @_root_.id _ rfl) | (simp only [List.length_map, List.length_range, List.length_append, List.length_cons, List.length_nil, List.length_reverse, sizeLine_eq] at *; omega))) only [kSeq_nx, kSeq_rt, kSeq_ex, kSeq_bk, kSeq_ct, E_cons, E_nil, kBd_some, kAsg_ok, kAsg_ex, E_asg, kOwn_ok, kOwn_ex, E_own, getO_0, getO_s, kMu_0, kMu_1, kMuL_some, kM4_some, kM3_ok, kM3_ex, kM2_ok, kM1_ok, kM1b_t, kM0_some, E_app, E_clear, E_rev, kS3_ok, kS2b_t, kS2_ok, kS1b_some, kS1_ok, kS1_ex, E_setk, kP4_ok, kAug2_some, kAug1_ok, kAug0_ok, rdV_0, rdV_s, E_var, E_aug, kExpr_ok, kExpr_ex, E_expr, kRet_ok, kRet_ex, E_ret, E_retN, kRetA_ok, kRetA_ex, E_retA, rtV_ow, rtV_fz, rtV_s, E_retV, kIf_t, kIf_f, kIf_ex, E_ifs, kFor2_some, kFor_ok, kFor_ex, E_for, E_brk, E_cnt, E_pass, E_raise, fzV_ow, fzV_fz, fzV_s, E_freeze, E_kill, E_lit, E_glob, kTup_ok, kTup_ex, E_tup, kLst_ok, kLst_ex, E_lst, kBin2_ok, kBin2_ex, kBin_ok, kBin_ex, E_bin, kNeg_ok, E_neg, kCmp2_ok, kCmp2_ex, kCmp_ok, kCmp_ex, E_cmp, kCh3_t, kCh3_f, kCh2_ok, kCh1_ok, E_chain, kIsN_non, kIsN_int, kIsN_bl, kIsN_str, kIsN_tup, kIsN_lst, kIsN_dic, kIsN_ktup, E_isN, E_and, E_or, kAnd2_t, kAnd2_f, kAnd_ok, kAnd_ex, E_and1, E_and2, kOr2_f, kOr2_t, kOr_ok, kOr_ex, E_or1, E_or2, kTru2_some, kTru_ok, kTru_ex, E_tst, kNot_ok, kNot_ex, E_not, kIte_t, kIte_f, E_ite, kIx2_ok, kIx2_ex, kIx_ok, kIx_ex, E_ix, kSl3_some, kSl2b_ok, kSl2a_some, kSl1_ok, kSl_ok, E_sl, kC2_ok, kC2_ex, kCall_ok, kCall_ex, E_call, kBlt_ok, kBlt_ex, E_blt, kIsi2_some, kIsi_ok, E_isi, kCp2_ok, kCp1_t, kCp1_f, kCp0_some, kLc_ok, kCm_ok, E_comp, E_bor, kEs2_ok, kEs2_ex, kEs_ok, kEs_ex, E_es0, E_es, E_all0, E_all1, kLr2_some, kLr_1, kLr_2, E_lrng, kG3_ok, kG2_n, kG2_s, kG1_ok, E_dget, kX2_ok, kX1_ok, E_dix, kN2_ok, kN1_ok, E_din, kDs3_ok, kDs2_ok, kDs2_ex, kDs1_some, E_dset, kNex_nx, kNex_rt, kFk_dic, E_forK, kPs5_some, kPs4_some, kPs3_ok, kPs2_n, kPs2_s, kPs1_ok, kPs0_some, E_popS, kLk_ok, kLk_ex, E_look, kRp1_some, kRp_ok, E_rpop, kRa3_some, kRa2_ok, kRa1_some, kRa_ok, E_rapp, E_newD, kTf_d, kRs3_some, kRs2_some, kRs1_ok, kRs_ok, kRs_ex, E_rset, kTf_all, kTf_s, E_toRef, kTr_nx, kTr_rt, kTr_ex, E_try, kPp6_some, kPp5_some, kPp4_some, kPp3_ok, kPp2_n, kPp2_s, kPp1_ok, kPp0_some, E_popK, kCl2_all, kCl2_s, kCl_ok, kCl_ex, E_clr, kO4_ok, kO2_ok, kO1_t, kO1_f, kO0_some, kLo_ok, kCow_ok, E_comp2, kAe_ok, kAe_ex, A_e, kAl_ok, kAl_ex, A_lst, A_dict0, kAf_ok, A_fr, A_call, kAx2_ok, kAx_ok, A_ix, kDp2_ok, kDp1_t, kDp1_f, kDp0_some, kLd_ok, kDm_ok, A_comp, kDn_ok, kDn_ex, A_dn, A_bor, kFld_ex, E_fld, kMc2_ok, kMc2_ex, kMc_ex, E_mcall, A_mcall, kMk_ok, kMkA_ok, kMkA_ex, E_mk, E_disp, E_dcomp, kMt2_ok, kMt_ix, kMt_ixL, E_mth, E_fs0, kFs2_ok, kFs_ok, E_fs, kMI_ok, E_mkI, kAs2_ok, kAs_ok, A_as0, A_as, kEl_some, L_a, L_mv, give_a, give_mv, kAt_ok, kAt_ex, A_tup, kL2_ok, kL2_ex, kL1_ok, kL1_ex, L_s0, L_s, E_retT, kTu_some, A_tupA, kJn_nil, kJn_f, kJn_t, kUp_all, kUp_s, kUp_z, kLkA_s, kLkA_all, kLkA_ex, A_look, kRl_ok, kRl_ex, E_rsl, kKg_ok, kKg_ex, E_kget, kMx2_ok, kMx_ok, kMx_ex, E_mxd, kEx2_ok, kEx2_ex, kEx1_0, kEx0_some, E_ext, kH0_ok, kHl_1, kHl_s, kHy_ok, kHt_b, E_ch4, b_add, b_sub, b_mul, b_fdiv, b_mod, b_pow18, b_pow3, b_pow4, b_pow5, b_pow6, b_pow9, b_pow10, b_pow12, b_pow15, b_pow20, b_pow30, b_adds, c_is, c_isnot, b_addl, b_addt, b_band, a_add, a_sub, a_adds, c_lt, c_le, c_gt, c_ge, c_eqi, c_nei, c_eqs, c_nes, c_eqb, c_neb, x_ixN, x_ixL, x_l0, x_t0, x_lL, x_tL, x_map, x_mapt, b_strF, i_rng1, i_rng2, i_seq, i_seqt, i_keys, i_rev, i_revt, i_rng3, i_zip, f_len, f_lent, f_int, f_intb, f_list, f_listt, f_tuple, f_tuplet, f_max, f_min, f_abs, f_sum, f_all, f_any, f_maxl, f_minl, f_maxI, f_minI, f_sortI, f_sortP, f_lend, f_lenk, f_listd, i_seqk, x_okKi, x_okKs, p_borAi, p_borAm, kIf_b, kIte_b, kAnd2_b, kOr2_b, kCh3_b, ok_ite, bl_ite, int_ite, str_ite, kSeq_if, fin_if, kC2_if, cmpM_opt, cmpM_some, cmpN_opt, cmpN_some, kDm2_M, kDm2_N, kDm2_F, kCm2_M, kCm2_N, kCm2_F, kCow2_M, kCow2_N, kCow2_F, kO3_M, kO3_N, kO3_F, kO1_b, kDp1_b, kCp1_b, filterMap_ite, filterMap_sm, fr_nil, fr_flat, fr_map, lstA_allB, p_nil, p_path, p_putz, p_putzm, p_zpath, p_dn0, p_dnall, p_dns, p_dnalld, p_slMd, p_slM, p_puts, p_spath, p_dnz, muD_app, kFl_nx, kFl_ct, kFl_bk, kFl_rt, kFl_ex, muD_clear, muD_rev, muD_set, kB_nx, kB_nil, kB_r, kB_cons, kB_fz, kB_ow, kB_same, kB_lst, kB_tup2, kCq_ok, kCo_some, kCo_none, kCo_cons, kCo_nil, kCm2_cons, kDm2_cons, kCm2_nil, R.of_some, RS.fin_nx, RS.fin_rt, RS.fin_ex, cfg_call, cfg_consts, List.getElem?_cons_zero, List.getElem?_cons_succ, List.set_cons_zero, List.set_cons_succ, killS, bindP, bindPs, viewS, viewV_ow, viewV_fz, viewV_un, lookS, lookV_un, lookV_ref, lookV_dic, cfg_dcts, lookV_fz, lookV_ow, List.map_cons, List.map_nil, List.length_cons, List.length_nil, truth, isiD, if_true, if_false, Bool.not_true, Bool.not_false, Bool.false_eq_true, Option.map_some, Option.map_none, slM_ow, slM_z, slM_fz, getL_nil, dnP_all, putM_flat, putM_same, isLD_lst, isLD_dic, isLD_tup, isLD_ktup, isLD_ins, isLD_ref, isLDs_nil, isLDs_cons, isLD_int, isLD_bl, isLD_str, isLD_non, partX, partD, Nat.reduceAdd, Nat.zero_add, ne_eq, reduceCtorEq, not_false_eq_true, not_true_eq_false, or_true, true_or, or_false, false_or, and_true, true_and, and_false, false_and, decide_true, decide_false, List.isEmpty_nil, List.isEmpty_cons, Bool.and_true, Bool.true_and, Bool.and_false, Bool.false_and, Bool.or_true, Bool.or_false, Bool.true_or, Bool.false_or, beq_self_eq_true, borR_bl, borR_int, lstA_nil, forB_eq, cmpA_eq, cmpB_eq, muK, iL, Int.reduceToNat, List.length_map, List.length_range, List.length_reverse, List.length_append, List.map_append, lstA_map, lstA_mapz, decide_eq_true_eq, decide_not, Bool.not_eq_true, Bool.not_eq_true', decide_eq_false_iff_not, Bool.not_not, Bool.and_eq_true, Bool.or_eq_true, Nat.reduceSub, Int.toNat_natCast, List.all_cons, List.all_nil, startS, List.replicate, List.cons_append, List.nil_append, decide_eq_true_eq, eq_self, Int.cast_ofNat_Int, lookD_map, $as,*])

/-! L0: a law's own helpers -/
namespace VL
open PySem
/-! ### the same -/
theorem same_loop {P : Prog} {f n : Nat} {M : Mem} {d : D} {ds : List D} (hd : d = .lst ds ∨ d = .tup ds) (ih : ∀ x ∈ ds, callN P n f [x, x] M = .ok (Md.z, .bl true) M) :
    forL (forB (cfgN P n) (.v 2) (t__law_same_l1 f)) (rngN ds.length) [.fz d, .fz d, .un] M = .nx [.fz d, .fz d, .un] M := by
  refine forL_same _ fun x hx => ?_
  simp only [rngN, List.mem_map, List.mem_range] at hx
  obtain ⟨k, hk, rfl⟩ := hx
  have e : ds[k]? = some ds[k] := List.getElem?_eq_getElem hk
  have e2 : ixD d (.int (k : Nat)) = some ds[k] := by
    rcases hd with rfl | rfl <;> exact atI_nat e
  have e3 := ih ds[k] (List.getElem_mem hk)
  simp! only [forB, t__law_same_l1, e2, e3]
abbrev S__law_same (P : Prog) (f : Nat) : Prop := ∀ (n : Nat) (d : D) (M : Mem), pl n d → callN P n f [d, d] M = .ok (Md.z, .bl true) M
theorem p__law_same {P : Prog} {f : Nat} (hP : P.fns[f]? = some ⟨2, 3, t__law_same f⟩) : S__law_same P f
  | 0, d, M, h => h.elim
  | n + 1, d, M, h => by
    rw [callN_eq hP rfl]
    cases d with
    | lst ds =>
      have l := same_loop (P := P) (f := f) (n := n) (M := M) (d := .lst ds) (.inl rfl) fun x hx => p__law_same hP n x M (h.2 x hx)
      have hl : ds.length ≤ 16777216 := by have := h.1; rw [sizeLine_eq] at this; exact this
      simp! only [t__law_same, l]
    | tup ds =>
      have l := same_loop (P := P) (f := f) (n := n) (M := M) (d := .tup ds) (.inr rfl) fun x hx => p__law_same hP n x M (h.2 x hx)
      have hl : ds.length ≤ 16777216 := by have := h.1; rw [sizeLine_eq] at this; exact this
      simp! only [t__law_same, l]
    | non => simp! only [t__law_same]
    | bl b => simp! only [t__law_same]
    | int b => simp! only [t__law_same]
    | str b => simp! only [t__law_same]
    | _ => exact h.elim
/-! ### cells of the script -/
def cellv (ns : List Int) (k : Nat) : Int := (ns[k]?).getD 0
abbrev S__law_cell (P : Prog) (f : Nat) : Prop := ∀ n ns (k : Int) M, 0 ≤ k → callN P (n + 1) f [iL ns, .int k] M = .ok (Md.z, .int (cellv ns k.toNat)) M
theorem p__law_cell {P : Prog} {f : Nat} (hP : P.fns[f]? = some ⟨2, 2, t__law_cell⟩) : S__law_cell P f := by
  intro n ns k M hk0
  rw [callN_eq hP rfl]
  by_cases h : k < ns.length
  · simp! only [t__law_cell, iL, List.length_map, h, x_map]
    simp [cellv, show k.toNat < ns.length by omega]
  · simp! only [t__law_cell, iL, List.length_map, h]
    simp [cellv, show ns.length ≤ k.toNat by omega]
/-! ### drawn numbers -/
def mix (cell : Int) (k : Nat) : Int :=
  let m := (cell * 48271 + k * 69621 + 7) % 2147483647
  (m * m + m * 40692 + k * 16807 + 11) % 2147483399
def nums (cell : Int) (count : Nat) (limit : Int) : List Int :=
  if 1000000000000000000 ≤ cell then (List.range count).map fun k => cell / limit ^ k % limit else (List.range count).map fun k => mix cell k / 32 % limit
theorem nums_length (cell : Int) (count : Nat) (limit : Int) : (nums cell count limit).length = count := by
  unfold nums; split <;> simp
theorem nums_get {cell : Int} {count : Nat} {limit : Int} {k : Nat} (h : k < count) (hl : 0 < limit) : ∃ x, (nums cell count limit)[k]? = some x ∧ 0 ≤ x ∧ x < limit := by
  unfold nums
  split
  · exact ⟨cell / limit ^ k % limit, by simp [h], Int.emod_nonneg _ (by omega), Int.emod_lt_of_pos _ hl⟩
  · exact ⟨mix cell k / 32 % limit, by simp [h], Int.emod_nonneg _ (by omega), Int.emod_lt_of_pos _ hl⟩
abbrev S__law_numbers (P : Prog) (f : Nat) : Prop := ∀ n cell (count : Int) limit M, 0 ≤ count → count ≤ 16777216 → 0 < limit → limit < 1073741824 → callN P (n + 1) f [.int cell, .int count, .int limit] M = .ok (.z, iL (nums cell count.toNat limit)) M
theorem p__law_numbers {P : Prog} {f : Nat} (hP : P.fns[f]? = some ⟨3, 6, t__law_numbers⟩) : S__law_numbers P f := by
  intro n cell count limit M hc0 hc h0 h1
  obtain ⟨count, rfl⟩ := Int.eq_ofNat_of_zero_le hc0
  rw [Int.toNat_natCast]
  rw [callN_eq hP rfl]
  by_cases h : (1000000000000000000 : Int) ≤ cell
  · have l := forL_N (M := M) (n := count) (body := forB (cfgN P n) (.v 4) t__law_numbers_l1) (ρ0 := [.fz (.int cell), .fz (.int count), .fz (.int limit), .ow (.s .z) (.lst []), .un, .un])
      (fun i => [.fz (.int (cell / limit ^ i)), .fz (.int count), .fz (.int limit), .ow (.s .z) (.lst ((List.range i).map fun k => .int (cell / limit ^ k % limit))), .un, .un]) (by simp) rfl fun i hi => by
        simp! only [forB, t__law_numbers_l1]
        rw [Int.pow_succ, ← Int.ediv_ediv_of_nonneg (Int.le_of_lt (Int.pow_pos h0)), List.range_succ, List.map_append]
        simp only [List.map_cons, List.map_nil]
    simp! only [t__law_numbers, h, l]
    simp only [nums, if_pos h, iL, List.map_map, Function.comp_def]
  · have l := forL_N (M := M) (n := count) (body := forB (cfgN P n) (.v 4) t__law_numbers_l2) (ρ0 := [.fz (.int cell), .fz (.int count), .fz (.int limit), .ow (.s .z) (.lst []), .un, .un])
      (fun i => [.fz (.int cell), .fz (.int count), .fz (.int limit), .ow (.s .z) (.lst ((List.range i).map fun k => .int (mix cell k / 32 % limit))), .un, .un]) (by simp) rfl fun i hi => by
        simp! only [forB, t__law_numbers_l2]
        rw [List.range_succ, List.map_append]
        simp only [List.map_cons, List.map_nil, mix]
    simp! only [t__law_numbers, h, l]
    simp only [nums, if_neg h, iL, List.map_map, Function.comp_def]

/-! ### picks and draws -/
theorem pick_int {l : List Int} {i : Int} (p : Int → Prop) (h : ∀ x ∈ l, p x) (h0 : 0 ≤ i) (h1 : i < l.length) : ∃ m, p m ∧ ixD (.lst (l.map .int)) (.int i) = some (.int m) := by
  refine ⟨l.getD i.toNat default, h _ (mem_getD (by omega)), ?_⟩
  rw [x_map h0 h1]
theorem pick_str {l : List Str} {i : Int} (h0 : 0 ≤ i) (h1 : i < l.length) : ∃ m, m ∈ l ∧ ixD (.lst (l.map .str)) (.int i) = some (.str m) := by
  obtain ⟨n, rfl⟩ := Int.eq_ofNat_of_zero_le h0
  have hn : n < l.length := by omega
  refine ⟨l[n], List.getElem_mem hn, ?_⟩
  rw [x_lst]
  simp [hn]
/-- numbers from 0 to below limit -/
def Drw (limit : Int) (l : List Int) : Prop := ∀ x ∈ l, 0 ≤ x ∧ x < limit
theorem Drw.nil {limit : Int} : Drw limit [] := fun _ h => by cases h
theorem Drw.snoc {limit x : Int} {l : List Int} (h : Drw limit l) (h0 : 0 ≤ x) (h1 : x < limit) : Drw limit (l ++ [x]) := fun y hy => by
  rcases List.mem_append.mp hy with z | z
  · exact h y z
  · rw [List.mem_singleton.mp z]; exact ⟨h0, h1⟩
theorem Drw.get {limit : Int} {l : List Int} (h : Drw limit l) {i : Nat} (hi : i < l.length) : 0 ≤ l.getD i default ∧ l.getD i default < limit := h _ (mem_getD hi)
theorem nums_drw (cell : Int) (count : Nat) {limit : Int} (hl : 0 < limit) : Drw limit (nums cell count limit) := fun x hx => by
  unfold nums at hx
  split at hx
  all_goals
    simp only [List.mem_map] at hx
    obtain ⟨k, _, rfl⟩ := hx
    exact ⟨Int.emod_nonneg _ (by omega), Int.emod_lt_of_pos _ hl⟩
/-- a loop that draws: the list in the slot grows -/
theorem forL_draw {body : D → Sl → Mem → RS} {M : Mem} {n : Nat} {β : Type} {limit : Int} (st : β → List Int → Sl) {b0 : β} (h : ∀ i b l, i < n → l.length = i → ∃ b' x, 0 ≤ x ∧ x < limit ∧ body (.int (i : Nat)) (st b l) M = .nx (st b' (l ++ [x])) M) :
    ∃ b l, forL body (rngN n) (st b0 []) M = .nx (st b l) M ∧ l.length = n ∧ Drw limit l := by
  obtain ⟨ρ, e, b, l, rfl, hl, hd⟩ := forL_relN (body := body) (M := M) (n := n) (fun i ρ => ∃ b l, ρ = st b l ∧ l.length = i ∧ Drw limit l) ⟨b0, [], rfl, rfl, .nil⟩ fun i ρ hi ⟨b, l, e, hl, hd⟩ => by
    obtain ⟨b', x, h0, h1, e2⟩ := h i b l hi hl
    subst e
    exact ⟨_, e2, b', l ++ [x], rfl, by simp [hl], hd.snoc h0 h1⟩
  exact ⟨b, l, e, hl, hd⟩
theorem cut9 {l : List Int} (h : l.length = 9) : ∃ a0 a1 a2 a3 a4 a5 a6 a7 a8, l = [a0, a1, a2, a3, a4, a5, a6, a7, a8] := by
  match l, h with
  | [a0, a1, a2, a3, a4, a5, a6, a7, a8], _ => exact ⟨_, _, _, _, _, _, _, _, _, rfl⟩

/-! ### == of data without truth values -/
def nb : Nat → D → Prop
  | 0, _ => False
  | _ + 1, .non => True
  | _ + 1, .int _ => True
  | _ + 1, .str s => PyData.canLay0 (.str s) = true
  | n + 1, .tup ds => ∀ x ∈ ds, nb n x
  | n + 1, .lst ds => ∀ x ∈ ds, nb n x
  | _ + 1, _ => False
theorem nb_py : ∀ {n : Nat} {d : D}, nb n d → ∃ x, D.py d = some x ∧ x.canLay0 = true ∧ x.depth ≤ n
  | 0, _, h => h.elim
  | n + 1, d, h => by
    have all : ∀ ds : List D, (∀ x ∈ ds, nb n x) → ∃ xs, D.pys ds = some xs ∧ PyData.canLayAll0 xs = true ∧ PyData.depthAll xs ≤ n := by
      intro ds
      induction ds with
      | nil => exact fun _ => ⟨[], rfl, rfl, by simp [PyData.depthAll]⟩
      | cons d ds ih =>
        intro h
        obtain ⟨x, e1, e2, e3⟩ := nb_py (h d List.mem_cons_self)
        obtain ⟨xs, f1, f2, f3⟩ := ih fun x hx => h x (List.mem_cons_of_mem _ hx)
        refine ⟨x :: xs, by simp only [D.pys, e1, f1], by simp only [PyData.canLayAll0, e2, f2, Bool.and_self], ?_⟩
        simp only [PyData.depthAll]
        omega
    cases d with
    | non => exact ⟨.none, rfl, rfl, by simp [PyData.depth]⟩
    | int i => exact ⟨.int i, rfl, rfl, by simp [PyData.depth]⟩
    | str s => exact ⟨.str s, rfl, h, by simp [PyData.depth]⟩
    | tup ds =>
      obtain ⟨xs, e1, e2, e3⟩ := all ds h
      exact ⟨.tuple xs, by simp only [D.py, e1, Option.map_some], e2, by simp only [PyData.depth]; omega⟩
    | lst ds =>
      obtain ⟨xs, e1, e2, e3⟩ := all ds h
      exact ⟨.list xs, by simp only [D.py, e1, Option.map_some], e2, by simp only [PyData.depth]; omega⟩
    | _ => exact h.elim
theorem nb_eqv : ∀ {n m : Nat} {a b : D} {x y : PyData}, nb n a → nb m b → D.py a = some x → D.py b = some y → PyData.eqv x y = decide (a = b)
  | 0, _, _, _, _, _, h, _, _, _ => h.elim
  | _, 0, _, _, _, _, _, h, _, _ => h.elim
  | n + 1, m + 1, a, b, x, y, ha, hb, ex, ey => by
    have all : ∀ (as bs : List D) (xs ys : List PyData), (∀ x ∈ as, nb n x) → (∀ x ∈ bs, nb m x) → D.pys as = some xs → D.pys bs = some ys → PyData.eqvAll xs ys = decide (as = bs) := by
      intro as
      induction as with
      | nil =>
        intro bs xs ys h1 h2 e1 e2
        simp only [D.pys, Option.some.injEq] at e1; subst e1
        cases bs with
        | nil => simp only [D.pys, Option.some.injEq] at e2; subst e2; rfl
        | cons b bs =>
          simp only [D.pys] at e2
          split at e2
          · simp only [Option.some.injEq] at e2; subst e2; simp [PyData.eqvAll]
          · cases e2
      | cons a as ih =>
        intro bs xs ys h1 h2 e1 e2
        simp only [D.pys] at e1
        split at e1
        · rename_i p q e3 e4
          simp only [Option.some.injEq] at e1; subst e1
          cases bs with
          | nil => simp only [D.pys, Option.some.injEq] at e2; subst e2; simp [PyData.eqvAll]
          | cons b bs =>
            simp only [D.pys] at e2
            split at e2
            · rename_i p2 q2 e5 e6
              simp only [Option.some.injEq] at e2; subst e2
              simp only [PyData.eqvAll, nb_eqv (h1 a List.mem_cons_self) (h2 b List.mem_cons_self) e3 e5, ih bs q q2 (fun x hx => h1 x (List.mem_cons_of_mem _ hx)) (fun x hx => h2 x (List.mem_cons_of_mem _ hx)) e4 e6]
              by_cases z1 : a = b <;> by_cases z2 : as = bs <;> simp [z1, z2]
            · cases e2
        · cases e1
    cases a <;> first | exact ha.elim | skip
    all_goals (cases b <;> first | exact hb.elim | skip)
    all_goals simp only [D.py, Option.some.injEq, Option.map_eq_some_iff] at ex ey
    all_goals first
      | (subst ex; subst ey; simp [PyData.eqv]; done)
      | (subst ex; subst ey; rw [Bool.eq_iff_iff]; simp [PyData.eqv]; done)
      | (obtain ⟨p, e1, rfl⟩ := ex; subst ey; simp [PyData.eqv]; done)
      | (obtain ⟨p, e1, rfl⟩ := ey; subst ex; simp [PyData.eqv]; done)
      | (obtain ⟨p, e1, rfl⟩ := ex; obtain ⟨q, e2, rfl⟩ := ey; simp [PyData.eqv]; done)
      | (obtain ⟨p, e1, rfl⟩ := ex; obtain ⟨q, e2, rfl⟩ := ey; simp only [PyData.eqv, all _ _ _ _ ha hb e1 e2]; simp)
theorem eqD_nb {n m : Nat} {a b : D} (ha : nb n a) (hb : nb m b) (hn : n ≤ 64) (hm : m ≤ 64) : eqD a b = some (decide (a = b)) := by
  obtain ⟨x, e1, e2, e3⟩ := nb_py ha
  obtain ⟨y, f1, f2, f3⟩ := nb_py hb
  have key : (match D.py a, D.py b with
      | some x, some y => if SeqAt.shaped x = true ∧ SeqAt.shaped y = true then some (PyData.eqv x y) else none
      | _, _ => none) = some (decide (a = b)) := by
    rw [e1, f1]
    have s1 : SeqAt.shaped x = true := by unfold SeqAt.shaped; simp [e2]; omega
    have s2 : SeqAt.shaped y = true := by unfold SeqAt.shaped; simp [f2]; omega
    simp only [s1, s2, and_self, if_true, nb_eqv ha hb e1 f1]
  unfold eqD
  split
  · simp
  · simp
  · simp
  · exact key
theorem c_eqD {n m : Nat} {a b : D} (ha : nb n a) (hb : nb m b) (hn : n ≤ 64) (hm : m ≤ 64) : cmpD .eq a b = some (.bl (decide (a = b))) := by simp only [cmpD, eqD_nb ha hb hn hm, Option.map_some]
theorem c_neD {n m : Nat} {a b : D} (ha : nb n a) (hb : nb m b) (hn : n ≤ 64) (hm : m ≤ 64) : cmpD .ne a b = some (.bl (!decide (a = b))) := by simp only [cmpD, eqD_nb ha hb hn hm, Option.map_some]
theorem nb_lst {α : Type} {n : Nat} {f : α → D} {l : List α} (h : ∀ x ∈ l, nb n (f x)) : nb (n + 1) (.lst (l.map f)) := fun x hx => by
  obtain ⟨y, hy, rfl⟩ := List.mem_map.mp hx
  exact h y hy
end VL

/-! LQ: numbers drawn from a cell (the laws of sheets, stock and schemes) -/
namespace VL
open PySem
def cellq (ns : List Int) (k : Nat) : Int := if k < ns.length then ns.getD k default else if 0 < ns.length then ns.getD 0 default % 1000003 + 7919 * ((k : Int) + 1) else 7919 * ((k : Int) + 1)
abbrev S__law_cell2 (P : Prog) (f : Nat) : Prop := ∀ n ns (k : Int) M, 0 ≤ k → callN P (n + 1) f [iL ns, .int k] M = .ok (Md.z, .int (cellq ns k.toNat)) M
theorem p__law_cell2 {P : Prog} {f : Nat} (hP : P.fns[f]? = some ⟨2, 2, t__law_cell_2⟩) : S__law_cell2 P f := by
  intro n ns k M hk0
  obtain ⟨k, rfl⟩ := Int.eq_ofNat_of_zero_le hk0
  rw [Int.toNat_natCast]
  rw [callN_eq hP rfl]
  by_cases h : (k : Int) < ns.length
  · simp! only [t__law_cell_2, iL, List.length_map, h, x_map]
    simp only [cellq, if_pos (show k < ns.length by omega)]
  · by_cases h2 : (0 : Int) < ns.length
    · simp! only [t__law_cell_2, iL, List.length_map, h, h2, x_map]
      simp only [cellq, if_neg (show ¬ k < ns.length by omega), if_pos (show 0 < ns.length by omega)]
    · simp! only [t__law_cell_2, iL, List.length_map, h, h2]
      simp only [cellq, if_neg (show ¬ k < ns.length by omega), if_neg (show ¬ 0 < ns.length by omega)]
def mixq (cell at_ : Int) (k : Nat) : Int :=
  let m := (cell * 48271 + at_ * 104729 + k * 69621 + 7) % 2147483647
  (m * m + m * 40692 + k * 16807 + 11) % 2147483399
def drwq (ns : List Int) (at_ : Int) (count : Nat) (limit : Int) : List Int :=
  if 1000000000000000000 ≤ cellq ns at_.toNat then (List.range count).map fun k => (cellq ns at_.toNat - 1000000000000000000) / limit ^ k % limit else (List.range count).map fun k => mixq (cellq ns at_.toNat) at_ k / 32 % limit
theorem drwq_length (ns : List Int) (at_ : Int) (count : Nat) (limit : Int) : (drwq ns at_ count limit).length = count := by
  unfold drwq; split <;> simp
theorem drwq_drw (ns : List Int) (at_ : Int) (count : Nat) {limit : Int} (hl : 0 < limit) : Drw limit (drwq ns at_ count limit) := fun x hx => by
  unfold drwq at hx
  split at hx
  all_goals
    simp only [List.mem_map] at hx
    obtain ⟨k, _, rfl⟩ := hx
    exact ⟨Int.emod_nonneg _ (by omega), Int.emod_lt_of_pos _ hl⟩
abbrev S__law_draws2 (P : Prog) (f : Nat) : Prop := ∀ n ns (at_ count : Int) limit M, 0 ≤ at_ → 0 ≤ count → count ≤ 16777216 → 0 < limit → limit < 1073741824 → callN P (n + 2) f [iL ns, .int at_, .int count, .int limit] M = .ok (.z, iL (drwq ns at_ count.toNat limit)) M
theorem p__law_draws2 {P : Prog} {f fc : Nat} (hP : P.fns[f]? = some ⟨4, 8, t__law_draws_2 fc⟩) (hc : S__law_cell2 P fc) : S__law_draws2 P f := by
  intro n ns at_ count limit M ha hc0 hc1 h0 h1
  obtain ⟨count, rfl⟩ := Int.eq_ofNat_of_zero_le hc0
  rw [Int.toNat_natCast]
  have ec := hc n ns at_ M ha
  rw [callN_eq hP rfl]
  generalize ev : cellq ns at_.toNat = v at ec
  by_cases h : (1000000000000000000 : Int) ≤ v
  · have l := forL_N (M := M) (n := count) (body := forB (cfgN P (n + 1)) (.v 6) (t__law_draws_2_l1 fc)) (ρ0 := [.fz (iL ns), .fz (.int at_), .fz (.int count), .fz (.int limit), .fz (.int (v - 1000000000000000000)), .ow (.s .z) (.lst []), .un, .un])
      (fun i => [.fz (iL ns), .fz (.int at_), .fz (.int count), .fz (.int limit), .fz (.int ((v - 1000000000000000000) / limit ^ i)), .ow (.s .z) (.lst ((List.range i).map fun k => .int ((v - 1000000000000000000) / limit ^ k % limit))), .un, .un]) (by simp) rfl fun i hi => by
        simp! only [forB, t__law_draws_2_l1]
        rw [Int.pow_succ, ← Int.ediv_ediv_of_nonneg (Int.le_of_lt (Int.pow_pos h0)), List.range_succ, List.map_append]
        simp only [List.map_cons, List.map_nil]
    simp only [iL] at l ec ⊢
    simp! only [t__law_draws_2, ec, h, l]
    simp only [drwq, ev, if_pos h, List.map_map, Function.comp_def]
  · have l := forL_N (M := M) (n := count) (body := forB (cfgN P (n + 1)) (.v 6) (t__law_draws_2_l2 fc)) (ρ0 := [.fz (iL ns), .fz (.int at_), .fz (.int count), .fz (.int limit), .fz (.int v), .ow (.s .z) (.lst []), .un, .un])
      (fun i => [.fz (iL ns), .fz (.int at_), .fz (.int count), .fz (.int limit), .fz (.int v), .ow (.s .z) (.lst ((List.range i).map fun k => .int (mixq v at_ k / 32 % limit))), .un, .un]) (by simp) rfl fun i hi => by
        simp! only [forB, t__law_draws_2_l2]
        rw [List.range_succ, List.map_append]
        simp only [List.map_cons, List.map_nil, mixq]
    simp only [iL] at l ec ⊢
    simp! only [t__law_draws_2, ec, h, l]
    simp only [drwq, ev, if_neg h, List.map_map, Function.comp_def]
/-- one of the numbers -/
theorem drwq_at {ns : List Int} {at_ : Int} {count : Nat} {limit : Int} (hl : 0 < limit) {i : Nat} (hi : i < count) : ∃ x, 0 ≤ x ∧ x < limit ∧ (drwq ns at_ count limit).getD i default = x := by
  have := (drwq_drw ns at_ count hl).get (i := i) (by rw [drwq_length]; exact hi)
  exact ⟨_, this.1, this.2, rfl⟩
theorem evSs_cutq {c : Cfg} (k : Nat) {l : List Sm} {ρ ρ' : Sl} {M M' : Mem} (h : evSs c (l.take k) ρ M = .nx ρ' M') : evSs c l ρ M = evSs c (l.drop k) ρ' M' := by
  induction k generalizing l ρ M with
  | zero =>
    simp only [List.take_zero, E_nil] at h
    cases h
    rfl
  | succ k ih =>
    cases l with
    | nil =>
      simp only [List.take_nil, E_nil] at h
      cases h
      rfl
    | cons s r =>
      simp only [List.take_succ_cons, E_cons] at h
      rw [List.drop_succ_cons, E_cons]
      cases e : evS c s ρ M with
      | nx ρ1 M1 => rw [e] at h; exact ih h
      | _ => rw [e] at h; cases h
/-- the numbers drawn, one by one -/
theorem drwq_ix {ns : List Int} {at_ : Int} {count : Nat} {limit : Int} (hl : 0 < limit) (i : Nat) (hi : i < count) : ∃ x : Int, 0 ≤ x ∧ x < limit ∧ ixD (iL (drwq ns at_ count limit)) (.int (i : Nat)) = some (.int x) := by
  have hn := drwq_length ns at_ count limit
  have d := (drwq_drw ns at_ count hl).get (i := i) (by omega)
  refine ⟨_, d.1, d.2, ?_⟩
  have := x_map (enc := D.int) (l := drwq ns at_ count limit) (i := ((i : Nat) : Int)) (by omega) (by omega)
  rw [Int.toNat_natCast] at this
  exact this
/-! ### while -/
theorem whileL_monoq {t : Sl → Mem → R Bool} {f : Sl → Mem → RS} : ∀ {n k : Nat} {ρ : Sl} {M : Mem}, whileL t f n ρ M ≠ .st → whileL t f (n + k) ρ M = whileL t f n ρ M
  | 0, k, ρ, M, h => absurd rfl h
  | n + 1, k, ρ, M, h => by
    rw [show n + 1 + k = (n + k) + 1 by omega]
    unfold whileL at h ⊢
    cases e : t ρ M with
    | st => rfl
    | ex c M1 => rfl
    | ok b M1 =>
      rw [e] at h
      simp only [R.to_ok] at h ⊢
      cases b
      · rfl
      · simp only [if_true] at h ⊢
        cases e2 : f ρ M1 with
        | nx ρ' M' => rw [e2] at h; exact whileL_monoq h
        | ct ρ' M' => rw [e2] at h; exact whileL_monoq h
        | bk ρ' M' => rfl
        | rt d M' => rfl
        | ex c ρ' M' => rfl
        | st => rfl
theorem whileW_ofq {t : Sl → Mem → R Bool} {f : Sl → Mem → RS} {n : Nat} {ρ : Sl} {M : Mem} (h : whileL t f n ρ M ≠ .st) : whileW t f ρ M = whileL t f n ρ M := by
  have e : ∃ n, whileL t f n ρ M ≠ .st := ⟨n, h⟩
  unfold whileW
  rw [dif_pos e]
  have c := Classical.choose_spec e
  rcases Nat.le_total n (Classical.choose e) with z | z
  · obtain ⟨k, hk⟩ := Nat.exists_eq_add_of_le z
    rw [hk]; exact whileL_monoq h
  · obtain ⟨k, hk⟩ := Nat.exists_eq_add_of_le z
    have := whileL_monoq (k := k) c
    rw [← hk] at this
    exact this.symm
theorem kWhile_ofq {c : Cfg} {q : Ex} {body : List Sm} {n : Nat} {ρ : Sl} {M : Mem} {x : RS} (h : whileL (evT c q) (evSs c body) n ρ M = x) (hx : x ≠ .st) : kWhile c q body ρ M = x := by
  unfold kWhile
  rw [whileW_ofq (n := n) (by rw [h]; exact hx), h]
theorem whileL_endq {t : Sl → Mem → R Bool} {f : Sl → Mem → RS} {n : Nat} {ρ : Sl} {M M1 : Mem} (h : t ρ M = .ok false M1) : whileL t f (n + 1) ρ M = .nx ρ M1 := by
  unfold whileL
  rw [h]; rfl
theorem whileL_goq {t : Sl → Mem → R Bool} {f : Sl → Mem → RS} {n : Nat} {ρ ρ' : Sl} {M M1 M' : Mem} (h : t ρ M = .ok true M1) (h2 : f ρ M1 = .nx ρ' M') : whileL t f (n + 1) ρ M = whileL t f n ρ' M' := by
  rw [whileL, h]
  simp only [R.to_ok, if_true, h2]
/-! ### slices -/
theorem cut_bothq (xs : List D) (a b : Nat) : cutD xs (some (a : Int)) (some (b : Int)) = (xs.take b).drop a := by
  unfold cutD
  rw [HT.sIx_nat, HT.sIx_nat]
  apply List.ext_getElem?
  intro i
  rw [List.getElem?_take, List.getElem?_drop, List.getElem?_drop, List.getElem?_take]
  by_cases h : min a xs.length + i < xs.length
  · have h1 : min a xs.length = a := by omega
    rw [h1]
    by_cases h2 : a + i < b
    · rw [if_pos (by omega), if_pos h2]
    · rw [if_neg (by omega), if_neg h2]
  · rw [List.getElem?_eq_none (by omega), List.getElem?_eq_none (l := xs) (i := a + i) (by omega)]
    simp
theorem cut_fromq (xs : List D) (a : Nat) : cutD xs (some (a : Int)) none = xs.drop a := by
  unfold cutD
  rw [HT.sIx_nat, HT.sIx_none]
  apply List.ext_getElem?
  intro i
  rw [List.getElem?_take, List.getElem?_drop, List.getElem?_drop]
  by_cases h : min a xs.length + i < xs.length
  · have h1 : min a xs.length = a := by omega
    rw [h1, if_pos (by omega)]
  · rw [List.getElem?_eq_none (by omega), List.getElem?_eq_none (l := xs) (i := a + i) (by omega)]
    simp
theorem cut_toq (xs : List D) (b : Nat) : cutD xs none (some (b : Int)) = xs.take b := by
  unfold cutD
  rw [HT.sIx_nat, HT.sIx_none, Nat.sub_zero, List.drop_zero]
  apply List.ext_getElem?
  intro i
  rw [List.getElem?_take, List.getElem?_take]
  by_cases h : i < xs.length
  · by_cases h2 : i < b
    · rw [if_pos (by omega), if_pos h2]
    · rw [if_neg (by omega), if_neg h2]
  · rw [List.getElem?_eq_none (by omega)]
    simp
theorem sl_bothq {α : Type} {f : α → D} {l : List α} {a b : Int} (ha : 0 ≤ a) (hb : 0 ≤ b) : slD (.lst (l.map f)) (some a) (some b) = some (.lst (((l.take b.toNat).drop a.toNat).map f)) := by
  obtain ⟨a, rfl⟩ := Int.eq_ofNat_of_zero_le ha
  obtain ⟨b, rfl⟩ := Int.eq_ofNat_of_zero_le hb
  simp only [slD, cut_bothq, List.map_drop, List.map_take, Int.toNat_natCast]
theorem sl_fromq {α : Type} {f : α → D} {l : List α} {a : Int} (ha : 0 ≤ a) : slD (.lst (l.map f)) (some a) none = some (.lst ((l.drop a.toNat).map f)) := by
  obtain ⟨a, rfl⟩ := Int.eq_ofNat_of_zero_le ha
  simp only [slD, cut_fromq, List.map_drop, Int.toNat_natCast]
theorem sl_toq {α : Type} {f : α → D} {l : List α} {b : Int} (hb : 0 ≤ b) : slD (.lst (l.map f)) none (some b) = some (.lst ((l.take b.toNat).map f)) := by
  obtain ⟨b, rfl⟩ := Int.eq_ofNat_of_zero_le hb
  simp only [slD, cut_toq, List.map_take, Int.toNat_natCast]
end VL

/-! LX: numbers drawn one by one, out of a list in memory -/
namespace VL
open PySem
/-! ### loops that change memory -/
theorem forL_relM {α : Type} {body : D → Sl → Mem → RS} (enc : α → D) (I : Nat → Sl → Mem → Prop) : ∀ (items : List α) (k : Nat) (ρ : Sl) (M : Mem), I k ρ M → (∀ i x ρ M, items[i]? = some x → I (k + i) ρ M → ∃ ρ' M', body (enc x) ρ M = .nx ρ' M' ∧ I (k + i + 1) ρ' M') →
    ∃ ρ' M', forL body (items.map enc) ρ M = .nx ρ' M' ∧ I (k + items.length) ρ' M'
  | [], k, ρ, M, h, _ => ⟨ρ, M, rfl, h⟩
  | x :: xs, k, ρ, M, h, step => by
    obtain ⟨ρ1, M1, e1, h1⟩ := step 0 x ρ M rfl h
    obtain ⟨ρ2, M2, e2, h2⟩ := forL_relM enc I xs (k + 1) ρ1 M1 h1 fun i y ρ M hy hi => by
      have := step (i + 1) y ρ M (by simpa using hy) (by rw [show k + (i + 1) = k + 1 + i by omega]; exact hi)
      rw [show k + (i + 1) + 1 = k + 1 + i + 1 by omega] at this
      exact this
    refine ⟨ρ2, M2, ?_, by rw [List.length_cons, show k + (xs.length + 1) = k + 1 + xs.length by omega]; exact h2⟩
    simp only [List.map_cons, forL, e1]
    exact e2
theorem forL_relMN {body : D → Sl → Mem → RS} {n : Nat} (I : Nat → Sl → Mem → Prop) {ρ : Sl} {M : Mem} (h0 : I 0 ρ M) (h : ∀ i ρ M, i < n → I i ρ M → ∃ ρ' M', body (.int (i : Nat)) ρ M = .nx ρ' M' ∧ I (i + 1) ρ' M') : ∃ ρ' M', forL body (rngN n) ρ M = .nx ρ' M' ∧ I n ρ' M' := by
  obtain ⟨ρ', M', e, hI⟩ := forL_relM (body := body) (fun i : Nat => D.int (i : Nat)) I (List.range n) 0 ρ M h0 fun i x ρ M hx hi => by
    have hl : i < n := by have := (List.getElem?_eq_some_iff.mp hx).1; simpa using this
    rw [List.getElem?_range hl] at hx
    cases hx
    rw [Nat.zero_add] at hi ⊢
    exact h i ρ M hl hi
  rw [List.length_range, Nat.zero_add] at hI
  exact ⟨ρ', M', e, hI⟩
theorem compL_relM {α β : Type} {f : D → Mem → R (Option β)} (enc : α → D) (Q : β → Prop) (J : Mem → Prop) : ∀ (items : List α) (M : Mem), J M → (∀ x ∈ items, ∀ M, J M → ∃ y M', f (enc x) M = .ok (some y) M' ∧ Q y ∧ J M') →
    ∃ ys M', compL f (items.map enc) M = .ok ys M' ∧ ys.length = items.length ∧ (∀ y ∈ ys, Q y) ∧ J M'
  | [], M, h, _ => ⟨[], M, rfl, rfl, (fun _ h => by cases h), h⟩
  | x :: xs, M, h, step => by
    obtain ⟨y, M1, e1, q1, h1⟩ := step x List.mem_cons_self M h
    obtain ⟨ys, M2, e2, l2, q2, h2⟩ := compL_relM enc Q J xs M1 h1 fun x hx => step x (List.mem_cons_of_mem _ hx)
    refine ⟨y :: ys, M2, ?_, by simp [l2], fun z hz => ?_, h2⟩
    · simp only [List.map_cons, compL, e1, R.bind_ok, e2]
    · rcases List.mem_cons.mp hz with rfl | hz
      · exact q1
      · exact q2 z hz
theorem compL_relMN {β : Type} {f : D → Mem → R (Option β)} {n : Nat} {M : Mem} (Q : β → Prop) (J : Mem → Prop) (h0 : J M) (h : ∀ i, i < n → ∀ M, J M → ∃ y M', f (.int (i : Nat)) M = .ok (some y) M' ∧ Q y ∧ J M') :
    ∃ ys M', compL f (rngN n) M = .ok ys M' ∧ ys.length = n ∧ (∀ y ∈ ys, Q y) ∧ J M' := by
  obtain ⟨ys, M', e, l, q, j⟩ := compL_relM (f := f) (fun i : Nat => D.int (i : Nat)) Q J (List.range n) M h0 fun x hx M hM => h x (List.mem_range.mp hx) M hM
  exact ⟨ys, M', e, by simpa using l, q, j⟩
/-! ### numbers drawn -/
abbrev S__law_mixed (P : Prog) (f : Nat) : Prop := ∀ n (x : Int) (k : Nat) M, callN P (n + 1) f [.int x, .int (k : Nat)] M = .ok (.z, .int (mix x k / 32)) M
theorem p__law_mixed {P : Prog} {f : Nat} (hP : P.fns[f]? = some ⟨2, 3, t__law_mixed⟩) : S__law_mixed P f := by
  intro n x k M
  rw [callN_eq hP rfl]
  simp! only [t__law_mixed, mix]
abbrev S__law_draws1 (P : Prog) (f : Nat) : Prop := ∀ n (ns : List Int) (count : Nat) M, memOk M = true → ns.length ≤ 1000 → count ≤ 10000 → ∃ l : List Int, callN P (n + 2) f [iL ns, .int (count : Nat)] M = .ok (.s .z, iL l) M
theorem p__law_draws1 {P : Prog} {f fm : Nat} (hP : P.fns[f]? = some ⟨2, 7, t__law_draws fm⟩) (h : S__law_mixed P fm) : S__law_draws1 P f := by
  intro n ns count M hM hn hc
  rw [callN_eq hP rfl]
  have em := fun x k => h n x k M
  have ap : ∀ (l : List Int) (y : Int), l.map D.int ++ [.int y] = (l ++ [y]).map D.int := fun l y => by simp
  obtain ⟨ρ3, e3, t3, l3, rfl, h3⟩ := forL_rel (body := forB (cfgN P (n + 1)) (.v 4) (t__law_draws_l3 fm)) (M := M) D.int (fun _ ρ => ∃ (t : Int) (l : List Int), ρ = [.fz (.lst (ns.map .int)), .fz (.int (count : Nat)), .ow (.s .z) (.lst (l.map .int)), .fz (.int t), .un, .un, .un] ∧ l.length ≤ count) ns 0
    [.fz (.lst (ns.map .int)), .fz (.int (count : Nat)), .ow (.s .z) (.lst []), .fz (.int 0), .un, .un, .un] ⟨0, [], rfl, by simp⟩ fun i x ρ hx ⟨t, l, e, hl⟩ => by
      subst e
      by_cases hb : (1000000000000000000 : Int) ≤ x
      · obtain ⟨ρ1, e1, r1, l1, rfl, h1⟩ := forL_relN (body := forB (cfgN P (n + 1)) (.v 6) (t__law_draws_l1 fm)) (M := M) (n := 60) (fun _ ρ => ∃ (r : Int) (l : List Int), ρ = [.fz (.lst (ns.map .int)), .fz (.int (count : Nat)), .ow (.s .z) (.lst (l.map .int)), .fz (.int ((t * 31 + x) % 2147483647)), .fz (.int x), .fz (.int r), .un] ∧ l.length ≤ count)
          (ρ := [.fz (.lst (ns.map .int)), .fz (.int (count : Nat)), .ow (.s .z) (.lst (l.map .int)), .fz (.int ((t * 31 + x) % 2147483647)), .fz (.int x), .fz (.int x), .un]) ⟨x, l, rfl, hl⟩ fun i ρ hi ⟨r, l, e, hl⟩ => by
            subst e
            by_cases c1 : 0 < r
            · by_cases c2 : (l.length : Int) < (count : Nat)
              · refine ⟨_, ?_, r / 1000, l ++ [r % 1000], rfl, by simp; omega⟩
                simp! only [forB, t__law_draws_l1, c1, c2, hM]
                done
              · refine ⟨_, ?_, r, l, rfl, hl⟩
                simp! only [forB, t__law_draws_l1, c1, c2, hM]
                done
            · refine ⟨_, ?_, r, l, rfl, hl⟩
              simp! only [forB, t__law_draws_l1, c1, hM]
              done
        refine ⟨_, ?_, (t * 31 + x) % 2147483647, l1, rfl, h1⟩
        simp! only [forB, t__law_draws_l3, hb, e1]
        done
      · obtain ⟨ρ1, e1, l1, rfl, h1⟩ := forL_relN (body := forB (cfgN P (n + 1)) (.v 6) (t__law_draws_l2 fm)) (M := M) (n := 6) (fun _ ρ => ∃ (l : List Int), ρ = [.fz (.lst (ns.map .int)), .fz (.int (count : Nat)), .ow (.s .z) (.lst (l.map .int)), .fz (.int ((t * 31 + x) % 2147483647)), .fz (.int x), .fz (.int x), .un] ∧ l.length ≤ count)
          (ρ := [.fz (.lst (ns.map .int)), .fz (.int (count : Nat)), .ow (.s .z) (.lst (l.map .int)), .fz (.int ((t * 31 + x) % 2147483647)), .fz (.int x), .fz (.int x), .un]) ⟨l, rfl, hl⟩ fun i ρ hi ⟨l, e, hl⟩ => by
            subst e
            by_cases c2 : (l.length : Int) < (count : Nat)
            · refine ⟨_, ?_, l ++ [mix x l.length / 32], rfl, by simp; omega⟩
              simp! only [forB, t__law_draws_l2, c2, em, hM]
              done
            · refine ⟨_, ?_, l, rfl, hl⟩
              simp! only [forB, t__law_draws_l2, c2, hM]
              done
        refine ⟨_, ?_, (t * 31 + x) % 2147483647, l1, rfl, h1⟩
        simp! only [forB, t__law_draws_l3, hb, e1]
        done
  obtain ⟨ρ4, e4, l4, rfl, h4⟩ := forL_relN (body := forB (cfgN P (n + 1)) (.v 6) (t__law_draws_l4 fm)) (M := M) (n := count) (fun _ ρ => ∃ (l : List Int), ρ = [.fz (.lst (ns.map .int)), .fz (.int (count : Nat)), .ow (.s .z) (.lst (l.map .int)), .fz (.int t3), .un, .un, .un] ∧ l.length ≤ count)
    (ρ := [.fz (.lst (ns.map .int)), .fz (.int (count : Nat)), .ow (.s .z) (.lst (l3.map .int)), .fz (.int t3), .un, .un, .un]) ⟨l3, rfl, h3⟩ fun i ρ hi ⟨l, e, hl⟩ => by
      subst e
      by_cases c2 : (l.length : Int) < (count : Nat)
      · refine ⟨_, ?_, l ++ [mix t3 l.length / 32], rfl, by simp; omega⟩
        simp! only [forB, t__law_draws_l4, c2, em, hM]
        done
      · refine ⟨_, ?_, l, rfl, hl⟩
        simp! only [forB, t__law_draws_l4, c2, hM]
        done
  refine ⟨l4.reverse, ?_⟩
  simp only [iL]
  simp! only [t__law_draws, e3, e4, List.map_reverse]
  done
def tkv (l : List Int) (many : Int) : Int := if l = [] then 0 else l.getLast?.getD 0 % many
theorem tkv_ok {many : Int} (h : 0 < many) (l : List Int) : 0 ≤ tkv l many ∧ tkv l many < many := by
  unfold tkv
  split
  · omega
  · exact ⟨Int.emod_nonneg _ (by omega), Int.emod_lt_of_pos _ h⟩
theorem noRefs_int (l : List Int) : D.noRefs (l.map .int) = true := by
  induction l with
  | nil => rfl
  | cons a l ih => simp only [List.map_cons, D.noRefs, D.noRef, ih, Bool.and_self]
abbrev S__law_take (P : Prog) (f : Nat) : Prop := ∀ n (l : List Int) (many : Int) (Rm : Mem), 0 < many → callN P (n + 1) f [.ref 0, .int many] (.lst (l.map .int) :: Rm) = .ok (.z, .int (tkv l many)) (.lst (l.dropLast.map .int) :: Rm)
theorem p__law_take {P : Prog} {f : Nat} (hP : P.fns[f]? = some ⟨2, 2, t__law_take⟩) : S__law_take P f := by
  intro n l many Rm hm
  rw [callN_eq hP rfl]
  have nr := noRefs_int l
  rcases List.eq_nil_or_concat l with rfl | ⟨l0, y, rfl⟩
  · simp only [List.map_nil]
    have lk : lookS (.lst [] :: Rm) [.fz (.ref 0), .fz (.int many)] = [.fz (.lst []), .fz (.int many)] := rfl
    have lk0 : D.noL (.bl (decide ((0 : Int) = 0))) = true := rfl
    simp! only [t__law_take, lk, lk0]
    rfl
  · simp only [List.concat_eq_append] at nr ⊢
    have lk : lookV (.lst (l0.map D.int ++ [.int y]) :: Rm) (.fz (.ref 0)) = .fz (.lst (l0.map D.int ++ [.int y])) := lookV_ref rfl (by rw [List.map_append] at nr; exact nr)
    have ln : ((l0.length + 1 : Nat) : Int) = 0 ↔ False := ⟨fun h => by omega, False.elim⟩
    have tk : tkv (l0 ++ [y]) many = y % many := by simp [tkv]
    rw [tk]
    simp! only [t__law_take, lk, ln, List.dropLast_concat]
    done
/-! ### bonds -/
structure Bnd where
  lo : Int
  hi : Int
  e : Str
  deriving DecidableEq
def Bnd.enc (b : Bnd) : D := .tup [.int b.lo, .int b.hi, .str b.e]
theorem Bnd.inj {a b : Bnd} : a.enc = b.enc ↔ a = b := by
  constructor
  · intro h
    unfold Bnd.enc at h
    simp only [D.tup.injEq, List.cons.injEq, D.int.injEq, D.str.injEq, and_true] at h
    cases a; cases b
    simp only [Bnd.mk.injEq]
    exact ⟨h.1, h.2.1, h.2.2⟩
  · rintro rfl; rfl
def edgs : List Str := ["left", "right", "top", "bottom"]
def spns : List Str := ["left", "right", "head"]
/-- the edge of a spine -/
def spE (sp : Str) : Str := if sp = "left" then "left" else if sp = "right" then "right" else "top"
theorem spE_in {sp : Str} : spE sp ∈ edgs := by
  unfold spE edgs
  split
  · simp
  · split <;> simp
theorem enc_nb {b : Bnd} (h : b.e ∈ edgs) : nb 2 b.enc := by
  intro x hx
  simp only [List.mem_cons, List.not_mem_nil, or_false] at hx
  rcases hx with rfl | rfl | rfl
  · trivial
  · trivial
  · have : ∀ e ∈ edgs, PyData.canLay0 (.str e) = true := by decide +kernel
    exact this _ h
theorem memG_nb {n : Nat} {x : D} {ds : List D} (hx : nb n x) (hds : ∀ y ∈ ds, nb n y) (hn : n ≤ 63) (hf : flatD x = false) : memG x ds = some (decide (x ∈ ds)) := by
  unfold memG
  have m0 : memD x ds = none := by unfold memD; rw [if_neg (by simp [hf])]
  rw [m0]
  dsimp only
  obtain ⟨a, e1, e2, e3⟩ := nb_py hx
  have all : ∀ ds : List D, (∀ y ∈ ds, nb n y) → ∃ bs, D.pys ds = some bs ∧ PyData.canLayAll0 bs = true ∧ (bs.any fun z => PyData.eqv z a) = decide (x ∈ ds) := by
    intro ds
    induction ds with
    | nil => exact fun _ => ⟨[], rfl, rfl, by simp⟩
    | cons d ds ih =>
      intro h
      obtain ⟨b, f1, f2, f3⟩ := nb_py (h d List.mem_cons_self)
      obtain ⟨bs, g1, g2, g3⟩ := ih fun y hy => h y (List.mem_cons_of_mem _ hy)
      refine ⟨b :: bs, by simp only [D.pys, f1, g1], by simp only [PyData.canLayAll0, f2, g2, Bool.and_self], ?_⟩
      simp only [List.any_cons, g3, nb_eqv (h d List.mem_cons_self) hx f1 e1]
      by_cases hd : d = x
      · subst hd; simp
      · have hd2 : ¬ x = d := fun e => hd e.symm
        simp [hd, hd2]
  obtain ⟨bs, g1, g2, g3⟩ := all ds hds
  rw [e1, g1]
  dsimp only
  rw [if_pos ⟨e2, g2, by omega⟩, g3]
theorem bnd_mem {b : Bnd} {bs : List Bnd} (h : b.e ∈ edgs) (hs : ∀ y ∈ bs, y.e ∈ edgs) : memG b.enc (bs.map Bnd.enc) = some (decide (b ∈ bs)) := by
  rw [memG_nb (n := 2) (enc_nb h) (fun y hy => by
    obtain ⟨z, hz, rfl⟩ := List.mem_map.mp hy
    exact enc_nb (hs z hz)) (by decide) rfl]
  congr 1
  rw [decide_eq_decide]
  constructor
  · intro hm
    obtain ⟨z, hz, e⟩ := List.mem_map.mp hm
    rw [← Bnd.inj.mp e]; exact hz
  · exact fun hm => List.mem_map.mpr ⟨b, hm, rfl⟩
theorem noRefs_bnd (l : List Bnd) : D.noRefs (l.map Bnd.enc) = true := by
  induction l with
  | nil => rfl
  | cons a l ih =>
    simp only [List.map_cons, D.noRefs, ih, Bool.and_true]
    rfl
def addB (bs : List Bnd) (one other : Int) (e : Str) : List Bnd := if one ≠ other ∧ (⟨min one other, max one other, e⟩ : Bnd) ∉ bs then bs ++ [⟨min one other, max one other, e⟩] else bs
abbrev S__law_add_bond (P : Prog) (f : Nat) : Prop := ∀ n (k : Nat) (bs : List Bnd) (one other : Int) (e : Str) (M : Mem), M[k]? = some (.lst (bs.map Bnd.enc)) → bs.length < 16777216 → (∀ y ∈ bs, y.e ∈ edgs) → e ∈ edgs →
  callN P (n + 1) f [.ref k, .int one, .int other, .str e] M = .ok (.z, .non) (M.set k (.lst ((addB bs one other e).map Bnd.enc)))
theorem p__law_add_bond {P : Prog} {f : Nat} (hP : P.fns[f]? = some ⟨4, 5, t__law_add_bond⟩) : S__law_add_bond P f := by
  intro n k bs one other e M hk hl hb he
  rw [callN_eq hP rfl]
  have lk : lookV M (.fz (.ref k)) = .fz (.lst (bs.map Bnd.enc)) := lookV_ref hk (noRefs_bnd bs)
  have mn : ∀ a b : Int, (if b < a then b else a) = min a b := fun a b => by split <;> omega
  have mx : ∀ a b : Int, (if b > a then b else a) = max a b := fun a b => by split <;> omega
  have mg := bnd_mem (b := ⟨min one other, max one other, e⟩) (bs := bs) he hb
  have nr : D.noRef (.tup [.int (min one other), .int (max one other), .str e]) = true := rfl
  have lt : lookV M (.fz (.tup [.int (min one other), .int (max one other), .str e])) = .fz (.tup [.int (min one other), .int (max one other), .str e]) := lookV_fz nr
  have sm : M.set k (.lst (bs.map Bnd.enc)) = M := by
    apply List.ext_getElem?
    intro i
    rw [List.getElem?_set]
    split
    · rename_i h; subst h
      rw [if_pos (List.getElem?_eq_some_iff.mp hk).1, hk]
    · rfl
  have nt : cmpD .notin (.tup [.int (min one other), .int (max one other), .str e]) (.lst (bs.map Bnd.enc)) = some (.bl (!decide ((⟨min one other, max one other, e⟩ : Bnd) ∈ bs))) := by
    have : memG (.tup [.int (min one other), .int (max one other), .str e]) (bs.map Bnd.enc) = _ := mg
    simp only [cmpD, this, Option.map_some]
  by_cases h1 : one = other
  · have ea : addB bs one other e = bs := if_neg (by simp [h1])
    rw [ea, sm]
    simp! only [t__law_add_bond, lk, lt, nt, h1]
    done
  · by_cases h2 : (⟨min one other, max one other, e⟩ : Bnd) ∈ bs
    · have ea : addB bs one other e = bs := if_neg (by simp [h2])
      rw [ea, sm]
      simp! only [t__law_add_bond, lk, lt, nt, h1, h2]
      done
    · have ea : addB bs one other e = bs ++ [⟨min one other, max one other, e⟩] := if_pos ⟨h1, h2⟩
      rw [ea]
      simp! only [t__law_add_bond, lk, lt, nt, h1, h2, hk]
      rfl
theorem str_lr : ¬ (Str.ofString "left" = Str.ofString "right") := by decide +kernel
theorem str_rl : ¬ (Str.ofString "right" = Str.ofString "left") := by decide +kernel
theorem str_lh : ¬ (Str.ofString "left" = Str.ofString "head") := by decide +kernel
theorem str_rh : ¬ (Str.ofString "right" = Str.ofString "head") := by decide +kernel
theorem str_hl : ¬ (Str.ofString "head" = Str.ofString "left") := by decide +kernel
theorem str_hr : ¬ (Str.ofString "head" = Str.ofString "right") := by decide +kernel
theorem str_rlb : (Str.ofString "right" == Str.ofString "left") = false := by decide +kernel
theorem str_hlb : (Str.ofString "head" == Str.ofString "left") = false := by decide +kernel
theorem str_hrb : (Str.ofString "head" == Str.ofString "right") = false := by decide +kernel
abbrev S__law_edge_of (P : Prog) (f : Nat) : Prop := ∀ n (sp : Str) (M : Mem), sp ∈ spns → callN P (n + 1) f [.str sp] M = .ok (.z, .str (spE sp)) M
theorem p__law_edge_of {P : Prog} {f : Nat} (hP : P.fns[f]? = some ⟨1, 1, t__law_edge_of⟩) : S__law_edge_of P f := by
  intro n sp M hs
  rw [callN_eq hP rfl]
  have kd : kDs ["left", "right", "head"] (.ok [.str "left", .str "right", .str "top"] M) = .ok (.dic false [(.str "left", .str "left"), (.str "right", .str "right"), (.str "head", .str "top")]) M := by
    unfold kDs
    rw [R.bind_ok]
    simp [putD, str_lr, str_lh, str_rh]
  have lk : lookD (.str sp) [(.str "left", .str "left"), (.str "right", .str "right"), (.str "head", .str "top")] = some (.str (spE sp)) := by
    simp only [spns, List.mem_cons, List.not_mem_nil, or_false] at hs
    rcases hs with rfl | rfl | rfl <;> simp [lookD, spE, str_lr, str_lh, str_rh, str_rl, str_hl, str_hr]
  simp! only [t__law_edge_of, kd, lk]
abbrev S_spine_edge (P : Prog) (f : Nat) : Prop := ∀ n (sp : Str) (M : Mem), sp ∈ spns → callN P (n + 1) f [.str sp] M = .ok (.z, .str (spE sp)) M
theorem p_spine_edge {P : Prog} {f d : Nat} (hP : P.fns[f]? = some ⟨1, 1, t_spine_edge d⟩) (hd : P.dcts[d]? = some ([("left", .str "left"), ("right", .str "right"), ("head", .str "top")] : List (Str × D))) : S_spine_edge P f := by
  intro n sp M hs
  rw [callN_eq hP rfl]
  have kg : kgetD P.dcts d (.str sp) = some (.str (spE sp)) := by
    simp only [kgetD, hd, Option.bind_some]
    simp only [spns, List.mem_cons, List.not_mem_nil, or_false] at hs
    rcases hs with rfl | rfl | rfl <;> simp [spE, List.lookup_cons, str_lr, str_lh, str_rh, str_rl, str_hl, str_hr, str_rlb, str_hlb, str_hrb]
  simp! only [t_spine_edge, kg]
end VL

namespace Lw
open PySem VL
theorem h_spe : S_spine_edge P 0 := p_spine_edge P_spine_edge rfl
theorem h_mixed : S__law_mixed P 5 := p__law_mixed P__law_mixed
theorem h_draws : S__law_draws1 P 6 := p__law_draws1 P__law_draws h_mixed
theorem h_take : S__law_take P 7 := p__law_take P__law_take
theorem h_same : S__law_same P 8 := p__law_same P__law_same
theorem h_add : S__law_add_bond P 9 := p__law_add_bond P__law_add_bond
theorem h_edge : S__law_edge_of P 10 := p__law_edge_of P__law_edge_of
theorem b0 (b : Bnd) : ixD b.enc (.int 0) = some (.int b.lo) := rfl
theorem b1 (b : Bnd) : ixD b.enc (.int 1) = some (.int b.hi) := rfl
theorem b2 (b : Bnd) : ixD b.enc (.int 2) = some (.str b.e) := rfl
def prs (bs : List Bnd) (e : Str) : List (Int × Int) := (bs.filter fun b => decide (b.e = e)).map fun b => (b.lo, b.hi)
theorem prs_eq (bs : List Bnd) (e : Str) : D.lst ((bs.filter fun b => decide (b.e = e)).map fun b => .tup [.int b.lo, .int b.hi]) = .lst ((prs bs e).map enP) := by
  unfold prs
  rw [List.map_map]; rfl
theorem h_pairs (n : Nat) (bs : List Bnd) (sp : Str) (M : Mem) (hs : sp ∈ spns) : callN P (n + 2) 1 [.lst (bs.map Bnd.enc), .str sp] M = .ok (.z, .lst ((prs bs (spE sp)).map enP)) M := by
  rw [callN_eq P__spine_pairs rfl]
  have e1 := h_spe n sp M hs
  simp! only [b__spine_pairs, t__spine_pairs, e1, b0, b1, b2, prs_eq]
  done
/-! ### a dict whose keys are looked at -/
theorem some_any (k : D) (kvs : List (D × D)) : (lookD k kvs).isSome = kvs.any fun kv => decide (kv.1 = k) := by
  unfold lookD
  rw [Option.isSome_map]
  induction kvs with
  | nil => rfl
  | cons kv kvs ih =>
    rw [List.find?_cons, List.any_cons]
    cases decide (kv.1 = k) with
    | true => rfl
    | false => simp only [Bool.false_or]; exact ih
theorem put_some (k y v : D) (kvs : List (D × D)) : (lookD k (putD y v kvs)).isSome = (decide (k = y) || (lookD k kvs).isSome) := by
  rw [some_any, some_any]
  unfold putD
  split
  · rename_i h
    rw [List.any_map]
    have : (fun kv : D × D => decide (kv.1 = k)) ∘ (fun kv : D × D => if kv.1 = y then (kv.1, v) else kv) = fun kv : D × D => decide (kv.1 = k) := by
      funext kv
      simp only [Function.comp]
      split <;> rfl
    rw [this]
    by_cases hk : k = y
    · subst hk; simp only [decide_true, Bool.true_or]; exact h
    · simp [hk]
  · rw [List.any_append]
    simp only [List.any_cons, List.any_nil, Bool.or_false]
    rw [Bool.or_comm]
    congr 1
    simp only [decide_eq_decide]
    exact ⟨fun h => h.symm, fun h => h.symm⟩
theorem put_len (y v : D) (kvs : List (D × D)) : (putD y v kvs).length ≤ kvs.length + 1 := by
  unfold putD
  split
  · rw [List.length_map]; omega
  · rw [List.length_append]; simp
/-- a pair holds a layer of the section from a to b -/
def inB (a b : Int) (p : Int × Int) : Bool := decide (a ≤ p.1) && (decide (p.1 < (a + b) / 2) && (decide ((a + b) / 2 ≤ p.2) && decide (p.2 < b)))
def hitB (a b i : Int) (p : Int × Int) : Bool := inB a b p && (decide (i = p.1) || decide (i = p.2))
def hld (a b : Int) (ps : List (Int × Int)) (i : Int) : Bool := decide ((b - a) % 2 = 0) && ps.any (hitB a b i)
theorem h_his (n : Nat) (a b : Int) (ps : List (Int × Int)) (M : Mem) (hp : ps.length ≤ 1000) : ∃ kvs, callN P (n + 1) 2 [.int a, .int b, .lst (ps.map enP)] M = .ok (.z, .dic false kvs) M ∧ ∀ i, (lookD (.int i) kvs).isSome = hld a b ps i := by
  rw [callN_eq P__held_in_section rfl]
  by_cases h : (b - a) % 2 = 1
  · refine ⟨[], ?_, fun i => ?_⟩
    · simp! only [b__held_in_section, t__held_in_section, h]
      done
    · have : ¬ (b - a) % 2 = 0 := by omega
      simp [hld, this, lookD]
  · obtain ⟨ρ, e, kvs, rfl, hl, hk⟩ := forL_rel (M := M) (body := forB (cfgN P n) (.t [.v 5, .v 6]) t__held_in_section_l1) enP
      (fun k ρ => ∃ kvs, ρ = [.fz (.int a), .fz (.int b), .fz (.lst (ps.map enP)), .ow (.s .z) (.dic false kvs), .fz (.int ((a + b) / 2)), .un, .un] ∧ kvs.length ≤ 2 * k ∧ ∀ i, (lookD (.int i) kvs).isSome = (ps.take k).any (hitB a b i))
      ps 0 [.fz (.int a), .fz (.int b), .fz (.lst (ps.map enP)), .ow (.s .z) (.dic false []), .fz (.int ((a + b) / 2)), .un, .un] ⟨[], rfl, by simp, fun i => by simp [lookD]⟩ fun i p ρ hi ⟨kvs, e, hl, hk⟩ => by
        subst e
        rw [Nat.zero_add] at hl hk ⊢
        have hlt : i < ps.length := (List.getElem?_eq_some_iff.mp hi).1
        have tk : ∀ j, (ps.take (i + 1)).any (hitB a b j) = ((ps.take i).any (hitB a b j) || hitB a b j p) := fun j => by
          rw [List.take_add_one, hi, List.any_append]
          simp
        by_cases hin : inB a b p = true
        · have hin2 := hin
          simp only [inB, Bool.and_eq_true, decide_eq_true_eq] at hin2
          obtain ⟨c1, c2, c3, c4⟩ := hin2
          refine ⟨_, ?_, putD (.int p.2) (.bl true) (putD (.int p.1) (.bl true) kvs), rfl, ?_, fun j => ?_⟩
          · have l1 := put_len (.int p.1) (.bl true) kvs
            simp! only [forB, t__held_in_section_l1, enP, c1, c2, c3, c4]
            done
          · have l1 := put_len (.int p.1) (.bl true) kvs
            have l2 := put_len (.int p.2) (.bl true) (putD (.int p.1) (.bl true) kvs)
            omega
          · rw [put_some, put_some, hk, tk]
            simp only [hitB, hin, Bool.true_and, D.int.injEq]
            cases (ps.take i).any (hitB a b j) <;> cases decide (j = p.1) <;> cases decide (j = p.2) <;> rfl
        · have hf : ∀ j, hitB a b j p = false := fun j => by simp [hitB, hin]
          refine ⟨_, ?_, kvs, rfl, by omega, fun j => by rw [hk, tk, hf, Bool.or_false]⟩
          by_cases c1 : a ≤ p.1
          · by_cases c2 : p.1 < (a + b) / 2
            · by_cases c3 : (a + b) / 2 ≤ p.2
              · have c4 : ¬ p.2 < b := fun c4 => hin (by simp [inB, c1, c2, c3, c4])
                simp! only [forB, t__held_in_section_l1, enP, c1, c2, c3, c4]
                done
              · simp! only [forB, t__held_in_section_l1, enP, c1, c2, c3]
                done
            · simp! only [forB, t__held_in_section_l1, enP, c1, c2]
              done
          · simp! only [forB, t__held_in_section_l1, enP, c1]
            done
    refine ⟨kvs, ?_, fun i => ?_⟩
    · simp! only [b__held_in_section, t__held_in_section, h, e]
      done
    · rw [hk, Nat.zero_add, List.take_length]
      have : (b - a) % 2 = 0 := by omega
      simp [hld, this]
theorem bnef (b : Bool) : (b != false) = b := by cases b <;> rfl
/-! ### the sections -/
def sta (ss : List Int) (k : Nat) : Int := (ss.take k).sum
def seg (ps : List (Int × Int)) (ss : List Int) (k : Nat) : List Bool := (List.range (ss.getD k default).toNat).map fun i => hld (sta ss k) (sta ss k + ss.getD k default) ps (sta ss k + (i : Nat))
def segs (ps : List (Int × Int)) (ss : List Int) (k : Nat) : List Bool := (List.range k).flatMap (seg ps ss)
theorem sta_succ {ss : List Int} {k : Nat} (h : k < ss.length) : sta ss (k + 1) = sta ss k + ss.getD k default := by
  unfold sta
  rw [List.take_add_one, List.sum_append, List.getD_eq_getElem?_getD, List.getElem?_eq_getElem h]
  simp
theorem segs_succ (ps : List (Int × Int)) (ss : List Int) (k : Nat) : segs ps ss (k + 1) = segs ps ss k ++ seg ps ss k := by
  unfold segs
  rw [List.range_succ, List.flatMap_append]
  simp
structure OkS (ss : List Int) : Prop where
  l1 : 1 ≤ ss.length
  l2 : ss.length ≤ 8
  h : ∀ x ∈ ss, 1 ≤ x ∧ x ≤ 16
theorem OkS.at {ss : List Int} (g : OkS ss) {k : Nat} (h : k < ss.length) : 1 ≤ ss.getD k default ∧ ss.getD k default ≤ 16 := g.h _ (mem_getD h)
theorem OkS.bd {ss : List Int} (g : OkS ss) : ∀ k, k ≤ ss.length → 0 ≤ sta ss k ∧ sta ss k ≤ 16 * (k : Int)
  | 0, _ => by simp [sta]
  | k + 1, h => by
    have ih := OkS.bd g k (by omega)
    rw [sta_succ (by omega)]
    have := g.at (k := k) (by omega)
    omega
theorem seg_len {ps : List (Int × Int)} {ss : List Int} {k : Nat} : (seg ps ss k).length = (ss.getD k default).toNat := by simp [seg]
theorem OkS.len {ss : List Int} (g : OkS ss) (ps : List (Int × Int)) : ∀ k, k ≤ ss.length → ((segs ps ss k).length : Int) = sta ss k
  | 0, _ => by simp [segs, sta]
  | k + 1, h => by
    have ih := OkS.len g ps k (by omega)
    have := g.at (k := k) (by omega)
    rw [segs_succ, List.length_append, seg_len, sta_succ (by omega)]
    omega
theorem h_held (n : Nat) (ss : List Int) (bs : List Bnd) (sp : Str) (M : Mem) (hM : memOk M = true) (hs : sp ∈ spns) (g : OkS ss) (hb : bs.length ≤ 1000) : callN P (n + 3) 3 [.lst (ss.map .int), .lst (bs.map Bnd.enc), .str sp] M = .ok (.s .z, .lst ((segs (prs bs (spE sp)) ss ss.length).map .bl)) M := by
  rw [callN_eq P_held rfl]
  have e1 := h_pairs n bs sp M hs
  have hp : (prs bs (spE sp)).length ≤ 1000 := by
    unfold prs
    rw [List.length_map]
    have := List.length_filter_le (fun b : Bnd => decide (b.e = spE sp)) bs
    omega
  generalize prs bs (spE sp) = ps at *
  obtain ⟨ρ, e, rfl⟩ := forL_rel (M := M) (body := forB (cfgN P (n + 2)) (.v 5) (t_held_l1 1 2)) D.int
    (fun k ρ => ρ = [.fz (.lst (ss.map .int)), .fz (.lst (bs.map Bnd.enc)), .fz (.str sp), .fz (.lst (ps.map enP)), .ow (.s .z) (.lst ((segs ps ss k).map .bl)), .un, .un, .un, .un])
    ss 0 [.fz (.lst (ss.map .int)), .fz (.lst (bs.map Bnd.enc)), .fz (.str sp), .fz (.lst (ps.map enP)), .ow (.s .z) (.lst []), .un, .un, .un, .un] rfl fun k x ρ hi e => by
      subst e
      rw [Nat.zero_add] at *
      have hlt : k < ss.length := (List.getElem?_eq_some_iff.mp hi).1
      have hx : ss.getD k default = x := by rw [List.getD_eq_getElem?_getD, hi]; rfl
      have ln := g.len ps k (by omega)
      have bd := g.bd k (by omega)
      have ga := g.at hlt
      have l2 := g.l2
      rw [hx] at ga
      obtain ⟨kvs, ek, hk⟩ := h_his (n + 1) (sta ss k) (sta ss k + x) ps M hp
      have ll : bltD .len [.lst ((segs ps ss k).map .bl)] = some (.int (sta ss k)) := by rw [f_len, List.length_map, ln]
      have ir : itD .rng2 [.int (sta ss k), .int (sta ss k + x)] = some (rngF (sta ss k) x.toNat) := by
        rw [i_rng2 (by omega), show sta ss k + x - sta ss k = x by omega]
      have sg : ((List.range x.toNat).map fun i : Nat => D.bl (hld (sta ss k) (sta ss k + x) ps (sta ss k + (i : Nat)))) = (seg ps ss k).map .bl := by
        unfold seg
        rw [hx, List.map_map]; rfl
      have sl : (seg ps ss k).length = x.toNat := by rw [seg_len, hx]
      have ex := ext_top (i := 4) (m := .all) (ds := (segs ps ss k).map .bl) (ys := (seg ps ss k).map .bl) (ρ := [.fz (.lst (ss.map .int)), .fz (.lst (bs.map Bnd.enc)), .fz (.str sp), .fz (.lst (ps.map enP)), .ow (.s .z) (.lst ((segs ps ss k).map .bl)), .fz (.int x), .fz (.int (sta ss k)), .fz (.dic false kvs), .un]) (M := M) (by rw [sizeLine_eq, List.length_map, List.length_map]; omega) (.inr ⟨rfl, by simp [List.all_map, D.isLD]⟩)
      have hz : Md.s Md.z ≠ Md.z := fun h => by cases h
      refine ⟨_, ?_, rfl⟩
      rw [segs_succ, List.map_append]
      simp! only [forB, t_held_l1, ll, hM, ek, ir, hk, bnef, E_ext, sg, ex]
      done
  rw [Nat.zero_add] at e
  simp! only [b_held, t_held, e1, e]
  done
/-! ### the same, by the law -/
theorem h_starts (n : Nat) (ss : List Int) (M : Mem) (hl : ss.length ≤ 1000) : callN P (n + 1) 11 [.lst (ss.map .int)] M = .ok (.z, .lst ((List.range ss.length).map fun k => .int (sta ss k))) M := by
  rw [callN_eq P__law_starts rfl]
  obtain ⟨ρ, e, rfl⟩ := forL_rel (M := M) (body := forB (cfgN P n) (.v 3) t__law_starts_l1) D.int
    (fun k ρ => ρ = [.fz (.lst (ss.map .int)), .ow (.s .z) (.lst ((List.range k).map fun k => .int (sta ss k))), .fz (.int (sta ss k)), .un])
    ss 0 [.fz (.lst (ss.map .int)), .ow (.s .z) (.lst []), .fz (.int 0), .un] rfl fun k x ρ hi e => by
      subst e
      rw [Nat.zero_add] at *
      have hlt : k < ss.length := (List.getElem?_eq_some_iff.mp hi).1
      have hx : ss.getD k default = x := by rw [List.getD_eq_getElem?_getD, hi]; rfl
      refine ⟨_, ?_, rfl⟩
      rw [List.range_succ, List.map_append, sta_succ hlt, hx]
      simp! only [forB, t__law_starts_l1]
      done
  rw [Nat.zero_add] at e
  simp! only [b__law_starts, t__law_starts, e]
  done
theorem iteff {p : Prop} [Decidable p] : (if p then false else decide p) = false := by split <;> simp_all
theorem own_eq (bs : List Bnd) (e : Str) (a b c i : Int) (hc : c = (a + b) / 2) (h : (b - a) % 2 = 0) :
    (0 < ((((bs.filter fun x => decide ((if x.e = e then if x.lo = i then decide (x.lo = i) else decide (x.hi = i) else decide (x.e = e)) = true)).filter fun x => decide ((if a ≤ x.lo then if x.lo < c then if c ≤ x.hi then decide (x.hi < b) else decide (c ≤ x.hi) else decide (x.lo < c) else decide (a ≤ x.lo)) = true)).length : Nat) : Int)) ↔ hld a b (prs bs e) i = true := by
  subst hc
  have e1 : hld a b (prs bs e) i = (bs.filter fun x => decide (x.e = e)).any (fun x => hitB a b i (x.lo, x.hi)) := by
    unfold hld prs
    rw [List.any_map, decide_eq_true h, Bool.true_and]; rfl
  rw [e1, List.any_filter, List.filter_filter]
  have : ∀ (p q : Bnd → Bool), (∀ x, p x = q x) → (0 < (((bs.filter p).length : Nat) : Int) ↔ bs.any q = true) := fun p q hpq => by
    have : p = q := funext hpq
    subst this
    rw [List.any_eq_true]
    constructor
    · intro hl
      have : (bs.filter p) ≠ [] := fun z => by rw [z] at hl; simp at hl
      obtain ⟨x, hx⟩ := List.exists_mem_of_ne_nil _ this
      exact ⟨x, (List.mem_filter.mp hx).1, (List.mem_filter.mp hx).2⟩
    · rintro ⟨x, h1, h2⟩
      have := List.length_pos_of_mem (List.mem_filter.mpr ⟨h1, h2⟩)
      omega
  refine this _ _ fun x => ?_
  unfold hitB inB
  simp only
  have k1 : (x.lo = i) = (i = x.lo) := propext ⟨fun h => h.symm, fun h => h.symm⟩
  have k2 : (x.hi = i) = (i = x.hi) := propext ⟨fun h => h.symm, fun h => h.symm⟩
  simp only [k1, k2]
  by_cases h1 : a ≤ x.lo <;> by_cases h2 : x.lo < (a + b) / 2 <;> by_cases h3 : (a + b) / 2 ≤ x.hi <;> by_cases h4 : x.hi < b <;> by_cases h5 : x.e = e <;> by_cases h6 : i = x.lo <;> by_cases h7 : i = x.hi <;> simp [h1, h2, h3, h4, h5, h6, h7]
theorem h_lheld (n : Nat) (ss : List Int) (bs : List Bnd) (e : Str) (M : Mem) (g : OkS ss) : callN P (n + 2) 13 [.lst (ss.map .int), .lst (bs.map Bnd.enc), .str e] M = .ok (.s .z, .lst ((segs (prs bs e) ss ss.length).map .bl)) M := by
  rw [callN_eq P__law_held rfl]
  have l2 := g.l2
  have es := h_starts n ss M (by omega)
  have xs : ∀ k, k < ss.length → ixD (.lst ((List.range ss.length).map fun k => .int (sta ss k))) (.int (k : Nat)) = some (.int (sta ss k)) := fun k hk => by
    rw [x_lst, List.getElem?_map, List.getElem?_range hk]; rfl
  have xi : ∀ k, k < ss.length → ixD (.lst (ss.map .int)) (.int (k : Nat)) = some (.int (ss.getD k default)) := fun k hk => by
    have := x_map (enc := D.int) (l := ss) (i := (k : Nat)) (by omega) (by omega)
    rwa [Int.toNat_natCast] at this
  generalize hST : (List.range ss.length).map (fun k => D.int (sta ss k)) = ST at *
  have inner : ∀ k, k < ss.length → forL (forB (cfgN P (n + 1)) (.v 9) (t__law_held_l1 11)) (rngF (sta ss k) (ss.getD k default).toNat) [.fz (.lst (ss.map .int)), .fz (.lst (bs.map Bnd.enc)), .fz (.str e), .fz (.lst ST), .ow (.s .z) (.lst ((segs (prs bs e) ss k).map .bl)), .fz (.int (k : Nat)), .fz (.int (sta ss k)), .fz (.int (sta ss k + ss.getD k default)), .fz (.int (sta ss k + ss.getD k default / 2)), .un, .un, .un] M =
      .nx [.fz (.lst (ss.map .int)), .fz (.lst (bs.map Bnd.enc)), .fz (.str e), .fz (.lst ST), .ow (.s .z) (.lst ((segs (prs bs e) ss (k + 1)).map .bl)), .fz (.int (k : Nat)), .fz (.int (sta ss k)), .fz (.int (sta ss k + ss.getD k default)), .fz (.int (sta ss k + ss.getD k default / 2)), .un, .un, .un] M := fun k hk => by
    have ga := g.at hk
    have bd := g.bd k (by omega)
    have ln := g.len (prs bs e) k (by omega)
    have xk := xi k hk
    obtain ⟨ρ, e1, rfl⟩ := forL_rel (M := M) (body := forB (cfgN P (n + 1)) (.v 9) (t__law_held_l1 11)) (fun i : Nat => D.int (sta ss k + (i : Nat)))
      (fun j ρ => ρ = [.fz (.lst (ss.map .int)), .fz (.lst (bs.map Bnd.enc)), .fz (.str e), .fz (.lst ST), .ow (.s .z) (.lst ((segs (prs bs e) ss k).map .bl ++ (List.range j).map fun i : Nat => .bl (hld (sta ss k) (sta ss k + ss.getD k default) (prs bs e) (sta ss k + (i : Nat))))), .fz (.int (k : Nat)), .fz (.int (sta ss k)), .fz (.int (sta ss k + ss.getD k default)), .fz (.int (sta ss k + ss.getD k default / 2)), .un, .un, .un])
      (List.range (ss.getD k default).toNat) 0 [.fz (.lst (ss.map .int)), .fz (.lst (bs.map Bnd.enc)), .fz (.str e), .fz (.lst ST), .ow (.s .z) (.lst ((segs (prs bs e) ss k).map .bl)), .fz (.int (k : Nat)), .fz (.int (sta ss k)), .fz (.int (sta ss k + ss.getD k default)), .fz (.int (sta ss k + ss.getD k default / 2)), .un, .un, .un] (by simp) fun j x ρ hi e2 => by
        subst e2
        have hj : j < (ss.getD k default).toNat := by have := (List.getElem?_eq_some_iff.mp hi).1; simpa using this
        rw [List.getElem?_range hj] at hi
        cases hi
        rw [Nat.zero_add] at *
        refine ⟨_, ?_, rfl⟩
        rw [List.range_succ, List.map_append, ← List.append_assoc]
        have hlen : ((segs (prs bs e) ss k).map D.bl ++ (List.range j).map fun i : Nat => D.bl (hld (sta ss k) (sta ss k + ss.getD k default) (prs bs e) (sta ss k + (i : Nat)))).length < 16777216 := by
          rw [List.length_append, List.length_map, List.length_map, List.length_range]; omega
        by_cases hev : ss.getD k default % 2 = 0
        · have oe := own_eq bs e (sta ss k) (sta ss k + ss.getD k default) (sta ss k + ss.getD k default / 2) (sta ss k + (j : Nat)) (by omega) (by omega)
          generalize (segs (prs bs e) ss k).map D.bl ++ (List.range j).map (fun i : Nat => D.bl (hld (sta ss k) (sta ss k + ss.getD k default) (prs bs e) (sta ss k + (i : Nat)))) = ACC at *
          generalize sta ss k + ss.getD k default / 2 = mid at *
          generalize sta ss k + ss.getD k default = stop at *
          rw [List.map_singleton]
          cases hh : hld (sta ss k) stop (prs bs e) (sta ss k + (j : Nat)) with
          | true =>
            have oe := oe.mpr hh
            simp! only [forB, t__law_held_l1, b0, b1, b2, xk, hev, oe]
            done
          | false =>
            have oe : ¬ _ := fun z => by have := oe.mp z; rw [hh] at this; cases this
            simp! only [forB, t__law_held_l1, b0, b1, b2, xk, hev, oe]
            done
        · have hf : hld (sta ss k) (sta ss k + ss.getD k default) (prs bs e) (sta ss k + (j : Nat)) = false := by
            have : ¬ (sta ss k + ss.getD k default - sta ss k) % 2 = 0 := by omega
            unfold hld; rw [decide_eq_false this, Bool.false_and]
          generalize (segs (prs bs e) ss k).map D.bl ++ (List.range j).map (fun i : Nat => D.bl (hld (sta ss k) (sta ss k + ss.getD k default) (prs bs e) (sta ss k + (i : Nat)))) = ACC at *
          rw [List.map_singleton, hf]
          generalize sta ss k + ss.getD k default / 2 = mid at *
          generalize sta ss k + ss.getD k default = stop at *
          simp! only [forB, t__law_held_l1, b0, b1, b2, xk, hev, iteff]
          done
    have fin : (segs (prs bs e) ss k).map D.bl ++ ((List.range (0 + (List.range (ss.getD k default).toNat).length)).map fun i : Nat => D.bl (hld (sta ss k) (sta ss k + ss.getD k default) (prs bs e) (sta ss k + (i : Nat)))) = (segs (prs bs e) ss (k + 1)).map D.bl := by
      rw [segs_succ, List.map_append, Nat.zero_add, List.length_range]
      congr 1
      unfold seg
      rw [List.map_map]; rfl
    rw [fin] at e1
    exact e1
  obtain ⟨ρ, e1, rfl⟩ := forL_relN (M := M) (body := forB (cfgN P (n + 1)) (.v 5) (t__law_held_l2 11)) (n := ss.length)
    (fun k ρ => ρ = [.fz (.lst (ss.map .int)), .fz (.lst (bs.map Bnd.enc)), .fz (.str e), .fz (.lst ST), .ow (.s .z) (.lst ((segs (prs bs e) ss k).map .bl)), .un, .un, .un, .un, .un, .un, .un])
    (ρ := [.fz (.lst (ss.map .int)), .fz (.lst (bs.map Bnd.enc)), .fz (.str e), .fz (.lst ST), .ow (.s .z) (.lst []), .un, .un, .un, .un, .un, .un, .un]) rfl fun k ρ hk e2 => by
      subst e2
      refine ⟨_, ?_, rfl⟩
      have i1 := inner k hk
      have x1 := xs k hk
      have x2 := xi k hk
      have ga := g.at hk
      have bd := g.bd k (by omega)
      have ir : itD .rng2 [.int (sta ss k), .int (sta ss k + ss.getD k default)] = some (rngF (sta ss k) (ss.getD k default).toNat) := by
        rw [i_rng2 (by omega), show sta ss k + ss.getD k default - sta ss k = ss.getD k default by omega]
      simp! only [forB, t__law_held_l2, x1, x2, ir, i1]
      done
  simp! only [b__law_held, t__law_held, es, e1]
  done
/-! ### the loose ones -/
def lses (L : List Bool) : List Int := ((List.range L.length).filter fun i => decide (L.getD i default = false)).map fun i => ((i : Nat) : Int)
theorem lses_eq (L : List Bool) : D.lst (((List.range L.length).filter fun i => decide (L.getD i default = false)).map fun i => D.int (i : Nat)) = .lst ((lses L).map .int) := by
  unfold lses
  rw [List.map_map]; rfl
theorem ix_bl {L : List Bool} {i : Nat} (h : i < L.length) : ixD (.lst (L.map .bl)) (.int (i : Nat)) = some (.bl (L.getD i default)) := by
  have := x_map (enc := D.bl) (l := L) (i := (i : Nat)) (by omega) (by omega)
  rwa [Int.toNat_natCast] at this
theorem h_loose (n : Nat) (ss : List Int) (bs : List Bnd) (sp : Str) (M : Mem) (hM : memOk M = true) (hs : sp ∈ spns) (g : OkS ss) (hb : bs.length ≤ 1000) : callN P (n + 4) 4 [.lst (ss.map .int), .lst (bs.map Bnd.enc), .str sp, .str "sewn"] M = .ok (.s .z, .lst ((lses (segs (prs bs (spE sp)) ss ss.length)).map .int)) M := by
  rw [callN_eq P_loose rfl]
  have e := h_held n ss bs sp M hM hs g hb
  have ln := g.len (prs bs (spE sp)) ss.length (by omega)
  have bd := g.bd ss.length (by omega)
  have l2 := g.l2
  generalize segs (prs bs (spE sp)) ss ss.length = L at *
  have ix := fun i (h : i < L.length) => ix_bl h
  have ll : bltD .len [.lst (L.map .bl)] = some (.int (L.length : Nat)) := by rw [f_len, List.length_map]
  simp! only [b_loose, t_loose, e, ll, ix, lses_eq]
  done
theorem h_glued (n : Nat) (ss : List Int) (bs : List Bnd) (sp : Str) (M : Mem) : callN P (n + 1) 4 [.lst (ss.map .int), .lst (bs.map Bnd.enc), .str sp, .str "glued"] M = .ok (.s .z, .lst []) M := by
  rw [callN_eq P_loose rfl]
  simp! only [b_loose, t_loose]
  done
/-! ### the drawn bonds -/
theorem ed_ix (l : List Int) : ixD (.lst [.str "left", .str "right", .str "top", .str "bottom"]) (.int (tkv l 4)) = some (.str (edgs.getD (tkv l 4).toNat default)) := by
  have t := tkv_ok (many := 4) (by decide) l
  exact x_map (enc := D.str) (l := edgs) t.1 (by show _ < (4 : Int); omega)
theorem ed_in (l : List Int) : edgs.getD (tkv l 4).toNat default ∈ edgs := by
  have t := tkv_ok (many := 4) (by decide) l
  exact mem_getD (by show _ < 4; omega)
theorem set_last {a x y : MO} {Rm : Mem} : (a :: (Rm ++ [x])).set (Rm.length + 1) y = a :: (Rm ++ [y]) := by
  rw [List.set_cons_succ]
  congr 1
  rw [List.set_append_right _ _ (Nat.le_refl _), Nat.sub_self]
  rfl
theorem addB_ok {bs : List Bnd} {one other : Int} {e : Str} (hb : ∀ b ∈ bs, b.e ∈ edgs) (he : e ∈ edgs) : (addB bs one other e).length ≤ bs.length + 1 ∧ ∀ b ∈ addB bs one other e, b.e ∈ edgs := by
  unfold addB
  split
  · refine ⟨by simp, fun b h => ?_⟩
    rcases List.mem_append.mp h with z | z
    · exact hb b z
    · rw [List.mem_singleton.mp z]; exact he
  · exact ⟨by omega, hb⟩
theorem h_drawn (n : Nat) (l ss : List Int) (e0 : Str) (Rm : Mem) (g : OkS ss) (he0 : e0 ∈ edgs) : ∃ (l' : List Int) (bs : List Bnd), callN P (n + 3) 12 [.ref 0, .lst (ss.map .int), .str e0] (.lst (l.map .int) :: Rm) = .ok (.z, .ref (Rm.length + 1)) (.lst (l'.map .int) :: (Rm ++ [.lst (bs.map Bnd.enc)])) ∧ bs.length ≤ 60 ∧ ∀ b ∈ bs, b.e ∈ edgs := by
  rw [callN_eq P__law_drawn rfl]
  have tk := fun l many Rm (h : 0 < many) => h_take (n + 1) l many Rm h
  have t0 := tkv_ok (many := 61) (by decide) l
  have l1 := g.l1
  have l2 := g.l2
  have hp : 0 < ((ss.length : Nat) : Int) := by omega
  have es := h_starts (n + 1) ss (.lst (l.map .int) :: Rm) (by omega)
  have xs : ∀ k : Int, 0 ≤ k → k < ss.length → ixD (.lst ((List.range ss.length).map fun k => .int (sta ss k))) (.int k) = some (.int (sta ss k.toNat)) := fun k h0 hk => by
    obtain ⟨j, rfl⟩ : ∃ j : Nat, k = j := ⟨k.toNat, by omega⟩
    rw [x_lst, List.getElem?_map, List.getElem?_range (by omega)]; rfl
  have xi : ∀ k : Int, 0 ≤ k → k < ss.length → ixD (.lst (ss.map .int)) (.int k) = some (.int (ss.getD k.toNat default)) := fun k h0 hk => x_map h0 hk
  have le : bltD .len [.lst ((List.range ss.length).map fun k => .int (sta ss k))] = some (.int (ss.length : Nat)) := by rw [f_len, List.length_map, List.length_range]
  have x1 := xs ((ss.length : Nat) - 1) (by omega) (by omega)
  have x2 := xi ((ss.length : Nat) - 1) (by omega) (by omega)
  have cp : 0 < sta ss (((ss.length : Nat) : Int) - 1).toNat + ss.getD (((ss.length : Nat) : Int) - 1).toNat default := by
    have := g.bd (((ss.length : Nat) : Int) - 1).toNat (by omega)
    have := g.at (k := (((ss.length : Nat) : Int) - 1).toNat) (by omega)
    omega
  obtain ⟨ct, hct⟩ : ∃ ct, sta ss (((ss.length : Nat) : Int) - 1).toNat + ss.getD (((ss.length : Nat) : Int) - 1).toNat default = ct := ⟨_, rfl⟩
  rw [hct] at cp
  generalize hST : (List.range ss.length).map (fun k => D.int (sta ss k)) = ST at *
  obtain ⟨ρ', M', e, l', bs, rfl, rfl, hb, he⟩ := forL_relMN (body := forB (cfgN P (n + 2)) (.v 6) (t__law_drawn_l1 11 7 9)) (n := (tkv l 61).toNat)
    (fun i ρ M => ∃ (l : List Int) (bs : List Bnd), ρ = [.fz (.ref 0), .fz (.lst (ss.map .int)), .fz (.str e0), .fz (.lst ST), .fz (.int ct), .fz (.ref (Rm.length + 1)), .un, .un, .un, .un, .un, .un, .un] ∧ M = .lst (l.map .int) :: (Rm ++ [.lst (bs.map Bnd.enc)]) ∧ bs.length ≤ i ∧ ∀ b ∈ bs, b.e ∈ edgs)
    (ρ := [.fz (.ref 0), .fz (.lst (ss.map .int)), .fz (.str e0), .fz (.lst ST), .fz (.int ct), .fz (.ref (Rm.length + 1)), .un, .un, .un, .un, .un, .un, .un]) (M := .lst (l.dropLast.map .int) :: (Rm ++ [.lst []]))
    ⟨l.dropLast, [], rfl, rfl, by simp, fun _ h => by cases h⟩ fun i ρ M hi ⟨l, bs, e1, e2, hl, hb⟩ => by
      subst e1 e2
      have ad := fun (one other : Int) (e : Str) (h : e ∈ edgs) (l' : List Int) => h_add (n + 1) (Rm.length + 1) bs one other e (.lst (l'.map .int) :: (Rm ++ [.lst (bs.map Bnd.enc)])) (by simp) (by omega) hb h
      simp only [set_last] at ad
      have t1 := tkv_ok hp l
      have x3 := xs _ t1.1 t1.2
      have x4 := xi _ t1.1 t1.2
      have ga := g.at (k := (tkv l (ss.length : Nat)).toNat) (by omega)
      obtain ⟨st, hst⟩ : ∃ st, sta ss (tkv l (ss.length : Nat)).toNat = st := ⟨_, rfl⟩
      obtain ⟨sz, hsz⟩ : ∃ sz, ss.getD (tkv l (ss.length : Nat)).toNat default = sz := ⟨_, rfl⟩
      rw [hst] at x3
      rw [hsz] at x4 ga
      have szp : 0 < sz := by omega
      have tail : ∀ (l : List Int) (one other w pk : Int), ∃ (l' : List Int) (bs' : List Bnd), evSs (cfgN P (n + 2)) ((t__law_drawn_l1 11 7 9).drop 6) [.fz (.ref 0), .fz (.lst (ss.map .int)), .fz (.str e0), .fz (.lst ST), .fz (.int ct), .fz (.ref (Rm.length + 1)), .fz (.int (i : Nat)), .fz (.int pk), .fz (.int sz), .fz (.int one), .fz (.int other), .fz (.int w), .un] (.lst (l.map .int) :: (Rm ++ [.lst (bs.map Bnd.enc)])) =
          .nx [.fz (.ref 0), .fz (.lst (ss.map .int)), .fz (.str e0), .fz (.lst ST), .fz (.int ct), .fz (.ref (Rm.length + 1)), .un, .un, .un, .un, .un, .un, .un] (.lst (l'.map .int) :: (Rm ++ [.lst (bs'.map Bnd.enc)])) ∧ bs'.length ≤ bs.length + 1 ∧ ∀ b ∈ bs', b.e ∈ edgs := fun l one other w pk => by
        by_cases h4 : tkv l 4 = 1
        · have ad2 := ad one other _ (ed_in l.dropLast) l.dropLast.dropLast
          have ok := addB_ok (one := one) (other := other) hb (ed_in l.dropLast)
          have ei := ed_ix l.dropLast
          refine ⟨l.dropLast.dropLast, addB bs one other (edgs.getD (tkv l.dropLast 4).toNat default), ?_, ok⟩
          simp! only [t__law_drawn_l1, List.drop_succ_cons, List.drop_zero, tk, h4, ei, ad2]
          done
        · have ad2 := ad one other _ he0 l.dropLast
          have ok := addB_ok (one := one) (other := other) hb he0
          refine ⟨l.dropLast, addB bs one other e0, ?_, ok⟩
          simp! only [t__law_drawn_l1, List.drop_succ_cons, List.drop_zero, tk, h4, ad2]
          done
      have A : ∃ (l' : List Int) (one other w pk : Int), evSs (cfgN P (n + 2)) ((t__law_drawn_l1 11 7 9).take 6) [.fz (.ref 0), .fz (.lst (ss.map .int)), .fz (.str e0), .fz (.lst ST), .fz (.int ct), .fz (.ref (Rm.length + 1)), .fz (.int (i : Nat)), .un, .un, .un, .un, .un, .un] (.lst (l.map .int) :: (Rm ++ [.lst (bs.map Bnd.enc)])) =
          .nx [.fz (.ref 0), .fz (.lst (ss.map .int)), .fz (.str e0), .fz (.lst ST), .fz (.int ct), .fz (.ref (Rm.length + 1)), .fz (.int (i : Nat)), .fz (.int pk), .fz (.int sz), .fz (.int one), .fz (.int other), .fz (.int w), .un] (.lst (l'.map .int) :: (Rm ++ [.lst (bs.map Bnd.enc)])) := by
        have ln : bltD .len [.lst (ss.map .int)] = some (.int (ss.length : Nat)) := by rw [f_len, List.length_map]
        by_cases w1 : tkv l.dropLast.dropLast.dropLast 6 = 1
        · refine ⟨l.dropLast.dropLast.dropLast.dropLast, st + tkv l.dropLast sz, st + sz / 2, 1, tkv l (ss.length : Nat), ?_⟩
          simp! only [t__law_drawn_l1, List.take_succ_cons, List.take_zero, ln, tk, x3, x4, w1]
          done
        · by_cases w2 : tkv l.dropLast.dropLast.dropLast 6 = 2
          · refine ⟨l.dropLast.dropLast.dropLast.dropLast, st + tkv l.dropLast sz, st + max 0 (sz / 2 - 1), 2, tkv l (ss.length : Nat), ?_⟩
            simp! only [t__law_drawn_l1, List.take_succ_cons, List.take_zero, ln, tk, x3, x4, w2, Int.reduceEq]
            done
          · by_cases w3 : tkv l.dropLast.dropLast.dropLast 6 = 3
            · refine ⟨l.dropLast.dropLast.dropLast.dropLast.dropLast, st + tkv l.dropLast sz, tkv l.dropLast.dropLast.dropLast.dropLast ct, 3, tkv l (ss.length : Nat), ?_⟩
              simp! only [t__law_drawn_l1, List.take_succ_cons, List.take_zero, ln, tk, x3, x4, w3, Int.reduceEq]
              done
            · refine ⟨l.dropLast.dropLast.dropLast.dropLast, st + tkv l.dropLast sz, st + tkv l.dropLast.dropLast sz, tkv l.dropLast.dropLast.dropLast 6, tkv l (ss.length : Nat), ?_⟩
              simp! only [t__law_drawn_l1, List.take_succ_cons, List.take_zero, ln, tk, x3, x4, w1, w2, w3]
              done
      obtain ⟨l5, one, other, w, pk, A⟩ := A
      obtain ⟨l6, bs6, T, h1, h2⟩ := tail l5 one other w pk
      refine ⟨_, _, ?_, l6, bs6, rfl, rfl, by omega, h2⟩
      rw [forB_eq, show bindP (.v 6) (.int (i : Nat)) [.fz (.ref 0), .fz (.lst (ss.map .int)), .fz (.str e0), .fz (.lst ST), .fz (.int ct), .fz (.ref (Rm.length + 1)), .un, .un, .un, .un, .un, .un, .un] = some [.fz (.ref 0), .fz (.lst (ss.map .int)), .fz (.str e0), .fz (.lst ST), .fz (.int ct), .fz (.ref (Rm.length + 1)), .fz (.int (i : Nat)), .un, .un, .un, .un, .un, .un] from rfl]
      show evSs (cfgN P (n + 2)) (t__law_drawn_l1 11 7 9) _ _ = _
      rw [evSs_cutq 6 A]
      exact T
  refine ⟨l', bs, ?_, by omega, he⟩
  simp! only [b__law_drawn, t__law_drawn, tk, es, le, x1, x2, hct, e]
  done
/-! ### the law -/
theorem noRefs_of {α : Type} (f : α → D) (h : ∀ x, (f x).noRef = true) (l : List α) : D.noRefs (l.map f) = true := by
  induction l with
  | nil => rfl
  | cons a l ih => simp only [List.map_cons, D.noRefs, h, ih, Bool.and_self]
theorem noLs_of {α : Type} (f : α → D) (h : ∀ x, (f x).noL = true) (l : List α) : D.noLs (l.map f) = true := by
  induction l with
  | nil => rfl
  | cons a l ih => simp only [List.map_cons, D.noLs, h, ih, Bool.and_self]
theorem noL_bnd (l : List Bnd) : D.noLs (l.map Bnd.enc) = true := noLs_of Bnd.enc (fun _ => rfl) l
theorem noL_int (l : List Int) : D.noLs (l.map .int) = true := noLs_of D.int (fun _ => rfl) l
theorem noL_bl (l : List Bool) : D.noLs (l.map .bl) = true := noLs_of D.bl (fun _ => rfl) l
theorem fr_bnd (l : List Bnd) : frA (.lst (l.map Bnd.enc)) = some (.all, .lst (l.map Bnd.enc)) := fr_map fun b => by simp [Bnd.enc, D.isLD, D.isLDs]
theorem enc_list (l : List Bnd) (h : ∀ b ∈ l, b.e ∈ edgs) : nb 3 (.lst (l.map Bnd.enc)) := nb_lst fun b hb => enc_nb (h b hb)
theorem nb_ints (l : List Int) : nb 2 (.lst (l.map .int)) := nb_lst fun _ _ => trivial
theorem pl_ints {n : Nat} {l : List Int} (h : l.length ≤ 1000000) (hn : 2 ≤ n) : pl n (.lst (l.map .int)) := by
  obtain ⟨m, rfl⟩ : ∃ m, n = m + 1 := ⟨n - 1, by omega⟩
  exact pl_lst (small_line h) fun x _ => pl_int (by omega)
theorem pl_bls {n : Nat} {l : List Bool} (h : l.length ≤ 1000000) (hn : 2 ≤ n) : pl n (.lst (l.map .bl)) := by
  obtain ⟨m, rfl⟩ : ∃ m, n = m + 1 := ⟨n - 1, by omega⟩
  exact pl_lst (small_line h) fun x _ => by
    obtain ⟨k, rfl⟩ : ∃ k, m = k + 1 := ⟨m - 1, by omega⟩
    trivial
theorem sp_ix (l : List Int) : ixD (.lst [.str "left", .str "right", .str "head"]) (.int (tkv l 3)) = some (.str (spns.getD (tkv l 3).toNat default)) := by
  have t := tkv_ok (many := 3) (by decide) l
  exact x_map (enc := D.str) (l := spns) t.1 (by show _ < (3 : Int); omega)
theorem sp_in (l : List Int) : spns.getD (tkv l 3).toNat default ∈ spns := by
  have t := tkv_ok (many := 3) (by decide) l
  exact mem_getD (by show _ < 3; omega)
theorem lses_len (L : List Bool) : (lses L).length ≤ L.length := by
  unfold lses
  rw [List.length_map]
  have := List.length_filter_le (fun i => decide (L.getD i default = false)) (List.range L.length)
  rw [List.length_range] at this
  exact this
/-- one of the two turns -/
theorem turn (j k : Nat) (ns l ss : List Int) (sp : Str) (bs : List Bnd) (due : List Bool) (Rm : Mem) (hs : sp ∈ spns) (g : OkS ss) (hb : bs.length ≤ 60) (hd : due = segs (prs bs (spE sp)) ss ss.length) (hM : memOk (.lst (l.map .int) :: (Rm ++ [.lst (bs.map Bnd.enc)])) = true) :
    forB (cfgN P 39) (.v 10) (t_law_l1 6 7 10 12 13 3 8 4) (.int (j : Nat)) [.fz (.lst (ns.map .int)), .fz (.ref 0), .fz (.int (k : Nat)), .fz (.lst (ss.map .int)), .fz (.str sp), .fz (.str (spE sp)), .fz (.ref (Rm.length + 1)), .fz (.lst (due.map .bl)), .fz (.lst (ss.map .int)), .fz (.lst (bs.map Bnd.enc)), .un, .un, .un, .un] (.lst (l.map .int) :: (Rm ++ [.lst (bs.map Bnd.enc)])) =
      .nx [.fz (.lst (ns.map .int)), .fz (.ref 0), .fz (.int (k : Nat)), .fz (.lst (ss.map .int)), .fz (.str sp), .fz (.str (spE sp)), .fz (.ref (Rm.length + 1)), .fz (.lst (due.map .bl)), .fz (.lst (ss.map .int)), .fz (.lst (bs.map Bnd.enc)), .un, .un, .un, .un] (.lst (l.map .int) :: (Rm ++ [.lst (bs.map Bnd.enc)])) := by
  have e1 := h_held 36 ss bs sp (.lst (l.map .int) :: (Rm ++ [.lst (bs.map Bnd.enc)])) hM hs g (by omega)
  have e2 := h_loose 35 ss bs sp (.lst (l.map .int) :: (Rm ++ [.lst (bs.map Bnd.enc)])) hM hs g (by omega)
  have e3 := h_glued 38 ss bs sp (.lst (l.map .int) :: (Rm ++ [.lst (bs.map Bnd.enc)]))
  rw [← hd] at e1 e2
  have ln := g.len (prs bs (spE sp)) ss.length (by omega)
  rw [← hd] at ln
  have bd := g.bd ss.length (by omega)
  have l2 := g.l2
  have dl : due.length ≤ 200 := by omega
  have ll := lses_len due
  generalize (.lst (l.map .int) :: (Rm ++ [.lst (bs.map Bnd.enc)]) : Mem) = M at *
  have q1 := h_same 39 (.lst (due.map .bl)) M (pl_bls (by omega) (by decide))
  have q2 := h_same 39 (.lst ((lses due).map .int)) M (pl_ints (by omega) (by decide))
  have q3 := h_same 39 (.lst []) M ⟨by rw [sizeLine_eq]; simp, fun _ h => by cases h⟩
  have ix := fun i (h : i < due.length) => ix_bl h
  have ll : bltD .len [.lst (due.map .bl)] = some (.int (due.length : Nat)) := by rw [f_len, List.length_map]
  generalize spE sp = ed at *
  simp! only [forB, t_law_l1, e1, e2, e3, q1, q2, q3, ll, ix, lses_eq, hM]
  done
theorem sections (n : Nat) (ρ : Sl) (l : List Int) (Rm : Mem) (m : Int) (ct : Nat) (hm : 1 ≤ m ∧ m ≤ 16) (hc : 1 ≤ ct ∧ ct ≤ 8) {el : Ex} (hel : ∀ (i : Nat) (l : List Int), cmpB (cfgN P n) el (.v 10) [] ρ (.int (i : Nat)) (.lst (l.map .int) :: Rm) = .ok (some (.int (1 + tkv l m))) (.lst (l.dropLast.map .int) :: Rm)) :
    ∃ (ss l' : List Int), compL (cmpB (cfgN P n) el (.v 10) [] ρ) (rngN ct) (.lst (l.map .int) :: Rm) = .ok (ss.map .int) (.lst (l'.map .int) :: Rm) ∧ OkS ss := by
  obtain ⟨ys, M', e, hl, hq, l', rfl⟩ := compL_relMN (n := ct) (f := cmpB (cfgN P n) el (.v 10) [] ρ) (M := .lst (l.map .int) :: Rm)
    (fun y => ∃ i, y = .int i ∧ 1 ≤ i ∧ i ≤ 16) (fun M => ∃ l : List Int, M = .lst (l.map .int) :: Rm) ⟨_, rfl⟩ fun i hi M ⟨l, e⟩ => by
      subst e
      have t := tkv_ok (many := m) (by omega) l
      exact ⟨_, _, hel i l, ⟨_, rfl, by omega, by omega⟩, l.dropLast, rfl⟩
  have : ∀ ys : List D, (∀ y ∈ ys, ∃ i, y = .int i ∧ 1 ≤ i ∧ i ≤ 16) → ∃ ss : List Int, ys = ss.map .int ∧ ∀ x ∈ ss, 1 ≤ x ∧ x ≤ 16 := fun ys => by
    induction ys with
    | nil => exact fun _ => ⟨[], rfl, fun _ h => by cases h⟩
    | cons y ys ih =>
      intro h
      obtain ⟨i, rfl, hi⟩ := h y List.mem_cons_self
      obtain ⟨ss, rfl, hss⟩ := ih fun z hz => h z (List.mem_cons_of_mem _ hz)
      refine ⟨i :: ss, rfl, fun x hx => ?_⟩
      rcases List.mem_cons.mp hx with rfl | hx
      · exact hi
      · exact hss x hx
  obtain ⟨ss, rfl, hss⟩ := this ys hq
  rw [List.length_map] at hl
  exact ⟨ss, l', e, ⟨by omega, by omega, hss⟩⟩
theorem pickA (i : Nat) (hi : i < 3) : ∃ a b : Int, (1 ≤ a ∧ a ≤ 16) ∧ (1 ≤ b ∧ b ≤ 8) ∧ ixD (.lst [.int 4, .int 16, .int 7]) (.int (i : Nat)) = some (.int a) ∧ ixD (.lst [.int 3, .int 4, .int 8]) (.int (i : Nat)) = some (.int b) := by
  have : i = 0 ∨ i = 1 ∨ i = 2 := by omega
  rcases this with rfl | rfl | rfl
  · exact ⟨4, 3, by decide, by decide, rfl, rfl⟩
  · exact ⟨16, 4, by decide, by decide, rfl, rfl⟩
  · exact ⟨7, 8, by decide, by decide, rfl, rfl⟩
abbrev elq : Ex := .bin .add (.lit (.int 1)) (.call 7 [(.var 1), (.ix (.lst [(.lit (.int 4)), (.lit (.int 16)), (.lit (.int 7))]) (.var 2))])
abbrev agq : Ex := .bin .add (.lit (.int 1)) (.call 7 [(.var 1), (.ix (.lst [(.lit (.int 3)), (.lit (.int 4)), (.lit (.int 8))]) (.var 2))])
theorem round (ns l : List Int) (i : Nat) (hi : i < 3) (Rm : Mem) (hR : memOk Rm = true) : ∃ (l' : List Int) (Rm' : Mem), memOk Rm' = true ∧ forB (cfgN P 39) (.v 2) (t_law_l2 6 7 10 12 13 3 8 4) (.int (i : Nat)) [.fz (.lst (ns.map .int)), .fz (.ref 0), .un, .un, .un, .un, .un, .un, .un, .un, .un, .un, .un, .un] (.lst (l.map .int) :: Rm) =
    .nx [.fz (.lst (ns.map .int)), .fz (.ref 0), .un, .un, .un, .un, .un, .un, .un, .un, .un, .un, .un, .un] (.lst (l'.map .int) :: Rm') := by
  have tk := fun l many Rm (h : 0 < many) => h_take 38 l many Rm h
  obtain ⟨a, b, ha, hb, xa, xb⟩ := pickA i hi
  have t0 := tkv_ok (many := b) (by omega) l
  obtain ⟨ct, hct⟩ : ∃ ct : Nat, 1 + tkv l b = (ct : Int) := ⟨(1 + tkv l b).toNat, by omega⟩
  obtain ⟨ss, l1, e1, g⟩ := sections 39 [.fz (.lst (ns.map .int)), .fz (.ref 0), .fz (.int (i : Nat)), .un, .un, .un, .un, .un, .un, .un, .un, .un, .un, .un] l.dropLast Rm a ct ha (by omega) (el := elq) fun i l => by
    simp! only [elq, tk, xa]
    done
  have B : evS (cfgN P 39) (.asg (.v 3) (.comp elq (.v 10) .rng1 [agq] [] [10])) [.fz (.lst (ns.map .int)), .fz (.ref 0), .fz (.int (i : Nat)), .un, .un, .un, .un, .un, .un, .un, .un, .un, .un, .un] (.lst (l.map .int) :: Rm) =
      .nx [.fz (.lst (ns.map .int)), .fz (.ref 0), .fz (.int (i : Nat)), .fz (.lst (ss.map .int)), .un, .un, .un, .un, .un, .un, .un, .un, .un, .un] (.lst (l1.map .int) :: Rm) := by
    rw [E_asg, E_comp]
    have ea : evEs (cfgN P 39) [agq] [.fz (.lst (ns.map .int)), .fz (.ref 0), .fz (.int (i : Nat)), .un, .un, .un, .un, .un, .un, .un, .un, .un, .un, .un] (.lst (l.map .int) :: Rm) = .ok [.int (ct : Nat)] (.lst (l.dropLast.map .int) :: Rm) := by
      simp! only [agq, tk, xb, hct]
      done
    rw [ea, kCm_ok, i_rng1N (by omega), kCm2_some]
    rw [show killS [.fz (.lst (ns.map .int)), .fz (.ref 0), .fz (.int (i : Nat)), .un, .un, .un, .un, .un, .un, .un, .un, .un, .un, .un] [10] = [.fz (.lst (ns.map .int)), .fz (.ref 0), .fz (.int (i : Nat)), .un, .un, .un, .un, .un, .un, .un, .un, .un, .un, .un] from rfl, e1]
    rfl
  have hs := sp_in l1
  have ix := sp_ix l1
  generalize spns.getD (tkv l1 3).toNat default = sp at hs ix
  have ee := fun M => h_edge 38 sp M hs
  obtain ⟨l2, bs, e3, hl, hbs⟩ := h_drawn 36 l1.dropLast ss (spE sp) Rm g spE_in
  have e4 := h_lheld 37 ss bs (spE sp) [] g
  obtain ⟨due, hdue⟩ : ∃ due, segs (prs bs (spE sp)) ss ss.length = due := ⟨_, rfl⟩
  rw [hdue] at e4
  have hM : memOk (.lst (l2.map .int) :: (Rm ++ [.lst (bs.map Bnd.enc)])) = true := by
    unfold memOk at hR ⊢
    simp only [List.all_cons, List.all_append, List.all_nil, MO.noL, noL_bnd, noL_int, hR, Bool.and_true]
  have hM2 : memOk (Rm ++ [.lst (bs.map Bnd.enc)]) = true := by
    unfold memOk at hR ⊢
    simp only [List.all_cons, List.all_append, List.all_nil, MO.noL, noL_bnd, hR, Bool.and_true]
  have F := forL_same (body := forB (cfgN P 39) (.v 10) (t_law_l1 6 7 10 12 13 3 8 4)) (ρ := [.fz (.lst (ns.map .int)), .fz (.ref 0), .fz (.int (i : Nat)), .fz (.lst (ss.map .int)), .fz (.str sp), .fz (.str (spE sp)), .fz (.ref (Rm.length + 1)), .fz (.lst (due.map .bl)), .fz (.lst (ss.map .int)), .fz (.lst (bs.map Bnd.enc)), .un, .un, .un, .un]) (M := .lst (l2.map .int) :: (Rm ++ [.lst (bs.map Bnd.enc)])) (rngN 2) fun x hx => by
    obtain ⟨k, _, rfl⟩ := List.mem_map.mp hx
    exact turn k i ns l2 ss sp bs due Rm hs g hl hdue.symm hM
  have hs2 := sp_in l2
  have ix2 := sp_ix l2
  generalize spns.getD (tkv l2 3).toNat default = sp2 at hs2 ix2
  have ee2 := fun M => h_edge 38 sp2 M hs2
  have e5 := h_held 36 ss bs sp2 [] rfl hs2 g (by omega)
  have e6 := h_lheld 37 ss bs (spE sp2) [] g
  have ln := g.len (prs bs (spE sp2)) ss.length (by omega)
  have bd := g.bd ss.length (by omega)
  have gl2 := g.l2
  have q := h_same 39 (.lst ((segs (prs bs (spE sp2)) ss ss.length).map .bl)) [] (pl_bls (by omega) (by decide))
  generalize segs (prs bs (spE sp2)) ss ss.length = due2 at *
  have c1 := c_neD (nb_ints ss) (nb_ints ss) (by decide) (by decide)
  have c2 := c_neD (enc_list bs hbs) (enc_list bs hbs) (by decide) (by decide)
  have nbb := noL_bnd bs
  have nbl := noL_bl due
  have fb := fr_bnd bs
  refine ⟨l2.dropLast, Rm ++ [.lst (bs.map Bnd.enc)], hM2, ?_⟩
  rw [forB_eq, show bindP (.v 2) (.int (i : Nat)) [.fz (.lst (ns.map .int)), .fz (.ref 0), .un, .un, .un, .un, .un, .un, .un, .un, .un, .un, .un, .un] = some [.fz (.lst (ns.map .int)), .fz (.ref 0), .fz (.int (i : Nat)), .un, .un, .un, .un, .un, .un, .un, .un, .un, .un, .un] from rfl]
  show evSs (cfgN P 39) (t_law_l2 6 7 10 12 13 3 8 4) _ _ = _
  have d0 : t_law_l2 6 7 10 12 13 3 8 4 = .asg (.v 3) (.comp elq (.v 10) .rng1 [agq] [] [10]) :: (t_law_l2 6 7 10 12 13 3 8 4).drop 1 := rfl
  rw [d0, E_cons, B, kSeq_nx]
  have C : evSs (cfgN P 39) (((t_law_l2 6 7 10 12 13 3 8 4).drop 1).take 3) [.fz (.lst (ns.map .int)), .fz (.ref 0), .fz (.int (i : Nat)), .fz (.lst (ss.map .int)), .un, .un, .un, .un, .un, .un, .un, .un, .un, .un] (.lst (l1.map .int) :: Rm) =
      .nx [.fz (.lst (ns.map .int)), .fz (.ref 0), .fz (.int (i : Nat)), .fz (.lst (ss.map .int)), .fz (.str sp), .fz (.str (spE sp)), .fz (.ref (Rm.length + 1)), .un, .un, .un, .un, .un, .un, .un] (.lst (l2.map .int) :: (Rm ++ [.lst (bs.map Bnd.enc)])) := by
    simp! only [t_law_l2, List.drop_succ_cons, List.drop_zero, List.take_succ_cons, List.take_zero, tk, ix, ee, e3]
    done
  rw [evSs_cutq 3 C]
  have lk : ∀ l : List Int, lookV (.lst (l.map .int) :: (Rm ++ [.lst (bs.map Bnd.enc)])) (.fz (.ref 0)) = .fz (.lst (l.map .int)) := fun l => lookV_ref rfl (noRefs_int l)
  have lk2 : ∀ l : List Int, lookV (.lst (l.map .int) :: (Rm ++ [.lst (bs.map Bnd.enc)])) (.fz (.ref (Rm.length + 1))) = .fz (.lst (bs.map Bnd.enc)) := fun l => lookV_ref (by simp) (noRefs_bnd bs)
  have k0 : ∀ (M : Mem) (x : List Int), lookV M (.fz (.lst (x.map .int))) = .fz (.lst (x.map .int)) := fun M x => lookV_fz (noRefs_int x)
  have k4 : ∀ (M : Mem) x, lookV M (.fz (.str x)) = .fz (.str x) := fun M x => rfl
  have k5 : ∀ M : Mem, lookV M (.fz (.lst (bs.map Bnd.enc))) = .fz (.lst (bs.map Bnd.enc)) := fun M => lookV_fz (noRefs_bnd bs)
  have k6 : ∀ M : Mem, lookV M (.fz (.lst (due.map .bl))) = .fz (.lst (due.map .bl)) := fun M => lookV_fz (noRefs_of D.bl (fun _ => rfl) due)
  have k7 : ∀ M : Mem, lookV M (.fz (.int (i : Nat))) = .fz (.int (i : Nat)) := fun M => rfl
  have A2 : evSs (cfgN P 39) ((((t_law_l2 6 7 10 12 13 3 8 4).drop 1).drop 3).take 7) [.fz (.lst (ns.map .int)), .fz (.ref 0), .fz (.int (i : Nat)), .fz (.lst (ss.map .int)), .fz (.str sp), .fz (.str (spE sp)), .fz (.ref (Rm.length + 1)), .un, .un, .un, .un, .un, .un, .un] (.lst (l2.map .int) :: (Rm ++ [.lst (bs.map Bnd.enc)])) =
      .nx [.fz (.lst (ns.map .int)), .fz (.ref 0), .fz (.int (i : Nat)), .fz (.lst (ss.map .int)), .fz (.str sp), .fz (.str (spE sp)), .fz (.ref (Rm.length + 1)), .fz (.lst (due.map .bl)), .fz (.lst (ss.map .int)), .fz (.lst (bs.map Bnd.enc)), .un, .un, .un, .un] (.lst (l2.map .int) :: (Rm ++ [.lst (bs.map Bnd.enc)])) := by
    generalize spE sp = ed at *
    simp! only [t_law_l2, List.drop_succ_cons, List.drop_zero, List.take_succ_cons, List.take_zero, lk, lk2, k0, k4, k5, k6, k7, e4, nbl, nbb, fb, F, c1, c2]
    done
  rw [evSs_cutq 7 A2]
  generalize spE sp = ed at *
  simp! only [t_law_l2, List.drop_succ_cons, List.drop_zero, lk, lk2, k0, k4, k5, k6, k7, tk, ix2, ee2, e5, e6, q]
  done
theorem good (ns : List Int) (hn : ns.length ≤ 63) : ∃ md M, callN P 40 14 [.lst (ns.map .int)] [] = .ok (md, .bl true) M := by
  obtain ⟨l, e⟩ := h_draws 37 ns 520 [] rfl (by omega) (by decide)
  have e : callN P 39 6 [.lst (ns.map .int), .int 520] [] = .ok (.s .z, .lst (l.map .int)) [] := e
  obtain ⟨ρ', M', e3, l', Rm, hR, rfl, rfl⟩ := forL_relMN (body := forB (cfgN P 39) (.v 2) (t_law_l2 6 7 10 12 13 3 8 4)) (n := 3)
    (fun _ ρ M => ∃ (l : List Int) (Rm : Mem), memOk Rm = true ∧ ρ = [.fz (.lst (ns.map .int)), .fz (.ref 0), .un, .un, .un, .un, .un, .un, .un, .un, .un, .un, .un, .un] ∧ M = .lst (l.map .int) :: Rm)
    (ρ := [.fz (.lst (ns.map .int)), .fz (.ref 0), .un, .un, .un, .un, .un, .un, .un, .un, .un, .un, .un, .un]) (M := [.lst (l.map .int)]) ⟨l, [], rfl, rfl, rfl⟩ fun i ρ M hi ⟨l, Rm, hR, e1, e2⟩ => by
      subst e1 e2
      obtain ⟨l', Rm', hR', h⟩ := round ns l i hi Rm hR
      exact ⟨_, _, h, l', Rm', hR', rfl, rfl⟩
  refine ⟨.z, .lst (l'.map .int) :: Rm, ?_⟩
  rw [callN_eq (n := 39) P_law rfl]
  simp! only [b_law, t_law, e, e3]
  done
end Lw

theorem PySem.Challenge.cw_quirebound_k50_layers_that_a_thread_hold_holds : PySem.Challenge.rw_quirebound_k50_layers_that_a_thread_hold.Holds := by
  exact Lw.holds Lw.good
