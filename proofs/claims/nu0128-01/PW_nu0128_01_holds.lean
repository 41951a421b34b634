import PyProof.Rows.All
import Wide.All
import OpenK.AllK
import Wide.FinOn
import Lean
import PySem.Challenge.RW_nu0128_01
open PySem PySem.W PySem.Calls PyProof.Rows
set_option Elab.async false
set_option maxRecDepth 100000
set_option maxHeartbeats 8000000
set_option compiler.extract_closed false
set_option hygiene false
set_option pp.deepTerms false
set_option pp.deepTerms.threshold 4
namespace NU
-- Hd
namespace hd
/-- the top's run upon a tree of objects -/
noncomputable def topRunT (stp : SharedT → Thread → Option (SharedT × Thread)) (ok : Thread → Bool) : Nat → SharedT → Thread → Option SharedT
  | 0, _, _ => none
  | n + 1, s, t => match through t with
    | true => some s
    | false => match ok t with
      | false => none
      | true => match stp s t with
        | some (s', t') => topRunT stp ok n s' t'
        | none => none
theorem topRunT_of {tb : String → Option Builtin} {p : Program} {w : World} {n₀ : Nat} {ann : Option Value} : ∀ {n : Nat} {s s' : SharedT} {t : Thread}, topRunT (stepT (denote tb) p w) (stepOk n₀ ann) n s t = some s' → topRun tb p w n₀ ann n s.abs t = some s'.abs
  | 0, _, _, _, h => by cases h
  | n + 1, s, s', t, h => by
    unfold topRunT at h
    unfold topRun
    cases he : through t with
    | true => rw [he] at h; cases h; rfl
    | false =>
      rw [he] at h
      cases hk : stepOk n₀ ann t with
      | false => rw [hk] at h; cases h
      | true =>
        rw [hk] at h
        cases hs : stepT (denote tb) p w s t with
        | none => rw [hs] at h; cases h
        | some r => obtain ⟨s₂, t₂⟩ := r; rw [hs] at h; rw [stepT_spec hs]; exact topRunT_of h
/-- the head, its run on a tree -/
theorem left_of {p q : Program} {loose : List Str} {Xt : Shared → Bool} {α : Type} {Yf : Shared → α} {Ya : World → α} {N : Nat} {g0 : Bool} {H₀ : Params → Heap} {T₀ : Params → BT} {k life} {d₀ : Drawn} {k₀ m₀ : Nat} {ann : Option Value}
    (open_ : ∀ w : World, (fencedOpening treeTable p w N).map (fun s => (s.heap, s.gens, s.drawn, s.toks)) = some (H₀ w.params, Array.mk [], d₀, k₀))
    (habs : ∀ P, absHeap (T₀ P) k life = H₀ P)
    (size : ∀ w : World, ((H₀ w.params).isNs mainGlobals, (H₀ w.params).objs.size, (H₀ w.params).nsMap mainGlobals "__annotations__") = (true, m₀, ann))
    (run : ∀ (w : World) (os : OsState), (topRunT (stepT (denote treeTable) p w) (stepOk m₀ ann) N ⟨T₀ w.params, k, life, Array.mk [], d₀, k₀, os⟩ (topStub p)).map (fun s => ((staticsOk (importedModules p.main.body) (H₀ w.params) s.abs.heap && namesBound p s.abs.heap && gensDone s.abs && laidKept (H₀ w.params) s.abs.heap),
        openSeen q loose (importedModules p.main.body) Xt g0 s.abs, Yf s.abs)) = some (true, openGood q loose, Ya w)) : LeftO p q loose Xt Yf Ya N g0 := fun w => by
  obtain ⟨⟨h, gs, d, k', os⟩, e, e'⟩ := Option.map_eq_some_iff.mp (open_ w)
  obtain ⟨rfl, rfl, rfl, rfl⟩ : h = H₀ w.params ∧ gs = Array.mk [] ∧ d = d₀ ∧ k' = k₀ := by simpa using e'
  obtain ⟨z1, z2, z3⟩ : _ ∧ _ ∧ _ := by simpa only [Prod.mk.injEq] using size w
  obtain ⟨s₁, r, l⟩ := Option.map_eq_some_iff.mp (run w os)
  obtain ⟨l1, l2, l3⟩ : _ ∧ _ ∧ _ := by simpa only [Prod.mk.injEq] using l
  have r := topRunT_of r
  have r : topRun treeTable p w m₀ ann N ⟨H₀ w.params, Array.mk [], d, k', os⟩ (topStub p) = some s₁.abs := by
    rw [← r]
    show _ = topRun treeTable p w m₀ ann N ⟨absHeap (T₀ w.params) k life, Array.mk [], d, k', os⟩ _
    rw [habs]
  have t : topFrom treeTable p w N ⟨H₀ w.params, Array.mk [], d, k', os⟩ = some s₁.abs := by
    unfold topFrom
    dsimp only
    rw [z1, z2, z3, r]
    show (match staticsOk (importedModules p.main.body) (H₀ w.params) s₁.abs.heap && namesBound p s₁.abs.heap && gensDone s₁.abs && laidKept (H₀ w.params) s₁.abs.heap with | true => _ | false => _) = _
    rw [l1]
  unfold openEnds
  rw [e]
  show (topFrom treeTable p w N _).map _ = _
  rw [t]
  exact congrArg some (Prod.ext l2 l3)
/-- objects laid out as a tree -/
noncomputable def lay (os : List Obj) : Nat → Nat → Nat → BT
  | 0, _, _ => .nil
  | n + 1, a, b => match os[b]? with
    | some o => .node o (lay os n (2 * a) (a + b)) (lay os n (2 * a) (2 * a + b))
    | none => .nil
abbrev prog : Program := PySem.Challenge.pw_nu0128_01
noncomputable def boot (P : Params) : BT := lay (boot_heap P).objs.toList 5 1 0
theorem boot_abs (P : Params) : absHeap (boot P) 11 {} = boot_heap P := by kernel_rfl
theorem boot_size (w : World) : ((boot_heap w.params).isNs mainGlobals, (boot_heap w.params).objs.size, (boot_heap w.params).nsMap mainGlobals "__annotations__") = (true, 11, some (.ref 6)) := by kernel_rfl
theorem opens : ∀ w : World, (fencedOpening treeTable prog w 2100).map (fun s => (s.heap, s.gens, s.drawn, s.toks)) = some (boot_heap w.params, Array.mk [], boot_drawn, boot_toks) :=
  boot_open rfl (by decide) fun _ => rfl
/-- a value, written out -/
abbrev nf {α : Type} {a : α} (b : α) (_ : a = b) : α := b
noncomputable def top (i : Nat) : Option Stmt := prog.main.body[i]?
noncomputable def inner (i j : Nat) : Option Stmt := match top i with
  | some (.ClassDef _ _ _ b ..) => b[j]?
  | _ => none
noncomputable def parsOf : Option Stmt → Arguments
  | some (.FunctionDef _ a ..) => a
  | _ => default
noncomputable def bodyOf : Option Stmt → List Stmt
  | some (.FunctionDef _ _ b ..) => b
  | _ => []
noncomputable def scopeOf : Option Stmt → Scope
  | some (.FunctionDef _ _ _ _ _ _ s ..) => s
  | _ => default
noncomputable abbrev P28 : Arguments := nf (a := parsOf (inner 1 0)) _ (by conv => lhs; whnf)
noncomputable abbrev B28 : List Stmt := nf (a := bodyOf (inner 1 0)) _ (by conv => lhs; whnf)
noncomputable abbrev S28 : Scope := nf (a := scopeOf (inner 1 0)) _ (by conv => lhs; whnf)
noncomputable abbrev P51 : Arguments := nf (a := parsOf (top 4)) _ (by conv => lhs; whnf)
noncomputable abbrev B51 : List Stmt := nf (a := bodyOf (top 4)) _ (by conv => lhs; whnf)
noncomputable abbrev S51 : Scope := nf (a := scopeOf (top 4)) _ (by conv => lhs; whnf)
noncomputable abbrev P65 : Arguments := nf (a := parsOf (inner 5 0)) _ (by conv => lhs; whnf)
noncomputable abbrev B65 : List Stmt := nf (a := bodyOf (inner 5 0)) _ (by conv => lhs; whnf)
noncomputable abbrev S65 : Scope := nf (a := scopeOf (inner 5 0)) _ (by conv => lhs; whnf)
noncomputable abbrev P72 : Arguments := nf (a := parsOf (inner 5 1)) _ (by conv => lhs; whnf)
noncomputable abbrev B72 : List Stmt := nf (a := bodyOf (inner 5 1)) _ (by conv => lhs; whnf)
noncomputable abbrev S72 : Scope := nf (a := scopeOf (inner 5 1)) _ (by conv => lhs; whnf)
noncomputable abbrev P79 : Arguments := nf (a := parsOf (inner 5 2)) _ (by conv => lhs; whnf)
noncomputable abbrev B79 : List Stmt := nf (a := bodyOf (inner 5 2)) _ (by conv => lhs; whnf)
noncomputable abbrev S79 : Scope := nf (a := scopeOf (inner 5 2)) _ (by conv => lhs; whnf)
noncomputable abbrev P86 : Arguments := nf (a := parsOf (inner 5 3)) _ (by conv => lhs; whnf)
noncomputable abbrev B86 : List Stmt := nf (a := bodyOf (inner 5 3)) _ (by conv => lhs; whnf)
noncomputable abbrev S86 : Scope := nf (a := scopeOf (inner 5 3)) _ (by conv => lhs; whnf)
noncomputable abbrev P93 : Arguments := nf (a := parsOf (inner 5 4)) _ (by conv => lhs; whnf)
noncomputable abbrev B93 : List Stmt := nf (a := bodyOf (inner 5 4)) _ (by conv => lhs; whnf)
noncomputable abbrev S93 : Scope := nf (a := scopeOf (inner 5 4)) _ (by conv => lhs; whnf)
noncomputable abbrev P98 : Arguments := nf (a := parsOf (inner 5 5)) _ (by conv => lhs; whnf)
noncomputable abbrev B98 : List Stmt := nf (a := bodyOf (inner 5 5)) _ (by conv => lhs; whnf)
noncomputable abbrev S98 : Scope := nf (a := scopeOf (inner 5 5)) _ (by conv => lhs; whnf)
noncomputable abbrev P105 : Arguments := nf (a := parsOf (inner 5 6)) _ (by conv => lhs; whnf)
noncomputable abbrev B105 : List Stmt := nf (a := bodyOf (inner 5 6)) _ (by conv => lhs; whnf)
noncomputable abbrev S105 : Scope := nf (a := scopeOf (inner 5 6)) _ (by conv => lhs; whnf)
noncomputable abbrev P112 : Arguments := nf (a := parsOf (inner 5 7)) _ (by conv => lhs; whnf)
noncomputable abbrev B112 : List Stmt := nf (a := bodyOf (inner 5 7)) _ (by conv => lhs; whnf)
noncomputable abbrev S112 : Scope := nf (a := scopeOf (inner 5 7)) _ (by conv => lhs; whnf)
noncomputable abbrev P119 : Arguments := nf (a := parsOf (inner 5 8)) _ (by conv => lhs; whnf)
noncomputable abbrev B119 : List Stmt := nf (a := bodyOf (inner 5 8)) _ (by conv => lhs; whnf)
noncomputable abbrev S119 : Scope := nf (a := scopeOf (inner 5 8)) _ (by conv => lhs; whnf)
noncomputable abbrev P126 : Arguments := nf (a := parsOf (inner 5 9)) _ (by conv => lhs; whnf)
noncomputable abbrev B126 : List Stmt := nf (a := bodyOf (inner 5 9)) _ (by conv => lhs; whnf)
noncomputable abbrev S126 : Scope := nf (a := scopeOf (inner 5 9)) _ (by conv => lhs; whnf)
noncomputable abbrev P133 : Arguments := nf (a := parsOf (inner 5 10)) _ (by conv => lhs; whnf)
noncomputable abbrev B133 : List Stmt := nf (a := bodyOf (inner 5 10)) _ (by conv => lhs; whnf)
noncomputable abbrev S133 : Scope := nf (a := scopeOf (inner 5 10)) _ (by conv => lhs; whnf)
noncomputable abbrev P140 : Arguments := nf (a := parsOf (inner 5 11)) _ (by conv => lhs; whnf)
noncomputable abbrev B140 : List Stmt := nf (a := bodyOf (inner 5 11)) _ (by conv => lhs; whnf)
noncomputable abbrev S140 : Scope := nf (a := scopeOf (inner 5 11)) _ (by conv => lhs; whnf)
noncomputable abbrev P147 : Arguments := nf (a := parsOf (inner 5 12)) _ (by conv => lhs; whnf)
noncomputable abbrev B147 : List Stmt := nf (a := bodyOf (inner 5 12)) _ (by conv => lhs; whnf)
noncomputable abbrev S147 : Scope := nf (a := scopeOf (inner 5 12)) _ (by conv => lhs; whnf)
noncomputable abbrev P154 : Arguments := nf (a := parsOf (inner 5 13)) _ (by conv => lhs; whnf)
noncomputable abbrev B154 : List Stmt := nf (a := bodyOf (inner 5 13)) _ (by conv => lhs; whnf)
noncomputable abbrev S154 : Scope := nf (a := scopeOf (inner 5 13)) _ (by conv => lhs; whnf)
noncomputable abbrev P161 : Arguments := nf (a := parsOf (inner 5 14)) _ (by conv => lhs; whnf)
noncomputable abbrev B161 : List Stmt := nf (a := bodyOf (inner 5 14)) _ (by conv => lhs; whnf)
noncomputable abbrev S161 : Scope := nf (a := scopeOf (inner 5 14)) _ (by conv => lhs; whnf)
noncomputable abbrev P168 : Arguments := nf (a := parsOf (inner 5 15)) _ (by conv => lhs; whnf)
noncomputable abbrev B168 : List Stmt := nf (a := bodyOf (inner 5 15)) _ (by conv => lhs; whnf)
noncomputable abbrev S168 : Scope := nf (a := scopeOf (inner 5 15)) _ (by conv => lhs; whnf)
noncomputable abbrev P175 : Arguments := nf (a := parsOf (inner 5 16)) _ (by conv => lhs; whnf)
noncomputable abbrev B175 : List Stmt := nf (a := bodyOf (inner 5 16)) _ (by conv => lhs; whnf)
noncomputable abbrev S175 : Scope := nf (a := scopeOf (inner 5 16)) _ (by conv => lhs; whnf)
noncomputable abbrev P182 : Arguments := nf (a := parsOf (inner 5 17)) _ (by conv => lhs; whnf)
noncomputable abbrev B182 : List Stmt := nf (a := bodyOf (inner 5 17)) _ (by conv => lhs; whnf)
noncomputable abbrev S182 : Scope := nf (a := scopeOf (inner 5 17)) _ (by conv => lhs; whnf)
noncomputable abbrev P189 : Arguments := nf (a := parsOf (inner 5 18)) _ (by conv => lhs; whnf)
noncomputable abbrev B189 : List Stmt := nf (a := bodyOf (inner 5 18)) _ (by conv => lhs; whnf)
noncomputable abbrev S189 : Scope := nf (a := scopeOf (inner 5 18)) _ (by conv => lhs; whnf)
noncomputable abbrev P196 : Arguments := nf (a := parsOf (inner 5 19)) _ (by conv => lhs; whnf)
noncomputable abbrev B196 : List Stmt := nf (a := bodyOf (inner 5 19)) _ (by conv => lhs; whnf)
noncomputable abbrev S196 : Scope := nf (a := scopeOf (inner 5 19)) _ (by conv => lhs; whnf)
noncomputable abbrev P203 : Arguments := nf (a := parsOf (inner 5 20)) _ (by conv => lhs; whnf)
noncomputable abbrev B203 : List Stmt := nf (a := bodyOf (inner 5 20)) _ (by conv => lhs; whnf)
noncomputable abbrev S203 : Scope := nf (a := scopeOf (inner 5 20)) _ (by conv => lhs; whnf)
noncomputable abbrev P211 : Arguments := nf (a := parsOf (inner 5 21)) _ (by conv => lhs; whnf)
noncomputable abbrev B211 : List Stmt := nf (a := bodyOf (inner 5 21)) _ (by conv => lhs; whnf)
noncomputable abbrev S211 : Scope := nf (a := scopeOf (inner 5 21)) _ (by conv => lhs; whnf)
noncomputable abbrev P218 : Arguments := nf (a := parsOf (inner 5 22)) _ (by conv => lhs; whnf)
noncomputable abbrev B218 : List Stmt := nf (a := bodyOf (inner 5 22)) _ (by conv => lhs; whnf)
noncomputable abbrev S218 : Scope := nf (a := scopeOf (inner 5 22)) _ (by conv => lhs; whnf)
noncomputable abbrev P225 : Arguments := nf (a := parsOf (inner 5 23)) _ (by conv => lhs; whnf)
noncomputable abbrev B225 : List Stmt := nf (a := bodyOf (inner 5 23)) _ (by conv => lhs; whnf)
noncomputable abbrev S225 : Scope := nf (a := scopeOf (inner 5 23)) _ (by conv => lhs; whnf)
noncomputable abbrev P232 : Arguments := nf (a := parsOf (inner 5 24)) _ (by conv => lhs; whnf)
noncomputable abbrev B232 : List Stmt := nf (a := bodyOf (inner 5 24)) _ (by conv => lhs; whnf)
noncomputable abbrev S232 : Scope := nf (a := scopeOf (inner 5 24)) _ (by conv => lhs; whnf)
noncomputable abbrev P246 : Arguments := nf (a := parsOf (top 6)) _ (by conv => lhs; whnf)
noncomputable abbrev B246 : List Stmt := nf (a := bodyOf (top 6)) _ (by conv => lhs; whnf)
noncomputable abbrev S246 : Scope := nf (a := scopeOf (top 6)) _ (by conv => lhs; whnf)
noncomputable abbrev P253 : Arguments := nf (a := parsOf (top 8)) _ (by conv => lhs; whnf)
noncomputable abbrev B253 : List Stmt := nf (a := bodyOf (top 8)) _ (by conv => lhs; whnf)
noncomputable abbrev S253 : Scope := nf (a := scopeOf (top 8)) _ (by conv => lhs; whnf)
noncomputable abbrev P260 : Arguments := nf (a := parsOf (top 9)) _ (by conv => lhs; whnf)
noncomputable abbrev B260 : List Stmt := nf (a := bodyOf (top 9)) _ (by conv => lhs; whnf)
noncomputable abbrev S260 : Scope := nf (a := scopeOf (top 9)) _ (by conv => lhs; whnf)
noncomputable abbrev P267 : Arguments := nf (a := parsOf (top 10)) _ (by conv => lhs; whnf)
noncomputable abbrev B267 : List Stmt := nf (a := bodyOf (top 10)) _ (by conv => lhs; whnf)
noncomputable abbrev S267 : Scope := nf (a := scopeOf (top 10)) _ (by conv => lhs; whnf)
noncomputable abbrev P272 : Arguments := nf (a := parsOf (top 11)) _ (by conv => lhs; whnf)
noncomputable abbrev B272 : List Stmt := nf (a := bodyOf (top 11)) _ (by conv => lhs; whnf)
noncomputable abbrev S272 : Scope := nf (a := scopeOf (top 11)) _ (by conv => lhs; whnf)
noncomputable abbrev P277 : Arguments := nf (a := parsOf (top 12)) _ (by conv => lhs; whnf)
noncomputable abbrev B277 : List Stmt := nf (a := bodyOf (top 12)) _ (by conv => lhs; whnf)
noncomputable abbrev S277 : Scope := nf (a := scopeOf (top 12)) _ (by conv => lhs; whnf)
noncomputable abbrev P284 : Arguments := nf (a := parsOf (top 13)) _ (by conv => lhs; whnf)
noncomputable abbrev B284 : List Stmt := nf (a := bodyOf (top 13)) _ (by conv => lhs; whnf)
noncomputable abbrev S284 : Scope := nf (a := scopeOf (top 13)) _ (by conv => lhs; whnf)
noncomputable abbrev P291 : Arguments := nf (a := parsOf (top 14)) _ (by conv => lhs; whnf)
noncomputable abbrev B291 : List Stmt := nf (a := bodyOf (top 14)) _ (by conv => lhs; whnf)
noncomputable abbrev S291 : Scope := nf (a := scopeOf (top 14)) _ (by conv => lhs; whnf)
noncomputable abbrev P298 : Arguments := nf (a := parsOf (top 15)) _ (by conv => lhs; whnf)
noncomputable abbrev B298 : List Stmt := nf (a := bodyOf (top 15)) _ (by conv => lhs; whnf)
noncomputable abbrev S298 : Scope := nf (a := scopeOf (top 15)) _ (by conv => lhs; whnf)
noncomputable abbrev P303 : Arguments := nf (a := parsOf (top 16)) _ (by conv => lhs; whnf)
noncomputable abbrev B303 : List Stmt := nf (a := bodyOf (top 16)) _ (by conv => lhs; whnf)
noncomputable abbrev S303 : Scope := nf (a := scopeOf (top 16)) _ (by conv => lhs; whnf)
noncomputable abbrev P308 : Arguments := nf (a := parsOf (top 17)) _ (by conv => lhs; whnf)
noncomputable abbrev B308 : List Stmt := nf (a := bodyOf (top 17)) _ (by conv => lhs; whnf)
noncomputable abbrev S308 : Scope := nf (a := scopeOf (top 17)) _ (by conv => lhs; whnf)
noncomputable abbrev P315 : Arguments := nf (a := parsOf (top 18)) _ (by conv => lhs; whnf)
noncomputable abbrev B315 : List Stmt := nf (a := bodyOf (top 18)) _ (by conv => lhs; whnf)
noncomputable abbrev S315 : Scope := nf (a := scopeOf (top 18)) _ (by conv => lhs; whnf)
noncomputable abbrev P322 : Arguments := nf (a := parsOf (top 19)) _ (by conv => lhs; whnf)
noncomputable abbrev B322 : List Stmt := nf (a := bodyOf (top 19)) _ (by conv => lhs; whnf)
noncomputable abbrev S322 : Scope := nf (a := scopeOf (top 19)) _ (by conv => lhs; whnf)
noncomputable abbrev P329 : Arguments := nf (a := parsOf (top 20)) _ (by conv => lhs; whnf)
noncomputable abbrev B329 : List Stmt := nf (a := bodyOf (top 20)) _ (by conv => lhs; whnf)
noncomputable abbrev S329 : Scope := nf (a := scopeOf (top 20)) _ (by conv => lhs; whnf)
noncomputable abbrev P334 : Arguments := nf (a := parsOf (top 21)) _ (by conv => lhs; whnf)
noncomputable abbrev B334 : List Stmt := nf (a := bodyOf (top 21)) _ (by conv => lhs; whnf)
noncomputable abbrev S334 : Scope := nf (a := scopeOf (top 21)) _ (by conv => lhs; whnf)
noncomputable abbrev P341 : Arguments := nf (a := parsOf (top 22)) _ (by conv => lhs; whnf)
noncomputable abbrev B341 : List Stmt := nf (a := bodyOf (top 22)) _ (by conv => lhs; whnf)
noncomputable abbrev S341 : Scope := nf (a := scopeOf (top 22)) _ (by conv => lhs; whnf)
noncomputable def heap_39 : Params → Frag := fun P =>
  (nat_lit 2, ⟨.none, none, .dict #[⟨PyData.keyHash P "type.__subclasses__.Exception.0", .str "type.__subclasses__.Exception.0" 214, .int 31 0⟩, ⟨PyData.keyHash P "type.__subclasses__.Exception.n", .str "type.__subclasses__.Exception.n" 215, .int 1 0⟩] 2, #[]⟩) ::
  (nat_lit 3, ⟨.type "dict", none, .dict #[⟨PyData.keyHash P "__name__", .str "__name__" 165, .str "law_nu0128_01" 517⟩, ⟨PyData.keyHash P "__doc__", .str "__doc__" 166, .none⟩, ⟨PyData.keyHash P "__package__", .str "__package__" 167, .none⟩, ⟨PyData.keyHash P "__loader__", .str "__loader__" 168, .builtin "__main__.__loader__#opaque"⟩, ⟨PyData.keyHash P "__spec__", .str "__spec__" 169, .none⟩, ⟨PyData.keyHash P "__annotations__", .str "__annotations__" 170, .ref 6⟩, ⟨PyData.keyHash P "__builtins__", .str "__builtins__" 171, .ref 4⟩, ⟨PyData.keyHash P "__file__", .str "__file__" 173, .str "/claim/cut.py" 172⟩, ⟨PyData.keyHash P "__cached__", .str "__cached__" 174, .none⟩, ⟨PyData.keyHash P "StackError", .str "StackError" 217, .ref 31⟩, ⟨PyData.keyHash P "SizeError", .str "SizeError" 233, .ref 44⟩, ⟨PyData.keyHash P "filled", .str "filled" 241, .ref 51⟩, ⟨PyData.keyHash P "Chain", .str "Chain" 507, .ref 235⟩, ⟨PyData.keyHash P "joined", .str "joined" 516, .ref 246⟩, ⟨PyData.keyHash P "_law_pool", .str "_law_pool" 529, .ref 253⟩, ⟨PyData.keyHash P "_law_take", .str "_law_take" 538, .ref 260⟩, ⟨PyData.keyHash P "_law_one", .str "_law_one" 546, .ref 267⟩, ⟨PyData.keyHash P "_law_octets", .str "_law_octets" 552, .ref 272⟩, ⟨PyData.keyHash P "_law_parts", .str "_law_parts" 558, .ref 277⟩, ⟨PyData.keyHash P "_law_refused", .str "_law_refused" 565, .ref 284⟩, ⟨PyData.keyHash P "_law_is", .str "_law_is" 574, .ref 291⟩, ⟨PyData.keyHash P "_law_found", .str "_law_found" 584, .ref 298⟩, ⟨PyData.keyHash P "_law_looked_right", .str "_law_looked_right" 590, .ref 303⟩, ⟨PyData.keyHash P "_law_packed_right", .str "_law_packed_right" 596, .ref 308⟩, ⟨PyData.keyHash P "_law_cut_right", .str "_law_cut_right" 612, .ref 315⟩, ⟨PyData.keyHash P "_law_split_right", .str "_law_split_right" 624, .ref 322⟩, ⟨PyData.keyHash P "_law_changed", .str "_law_changed" 637, .ref 329⟩, ⟨PyData.keyHash P "_law_refusals_right", .str "_law_refusals_right" 643, .ref 334⟩, ⟨PyData.keyHash P "law", .str "law" 657, .ref 341⟩] 29, #[]⟩) ::
  (nat_lit 27, ⟨.type "code", none, .fields #[.str "__init__" 201, .str "StackError.__init__" 202, .str "/claim/cut.py" 203, .int 4 0, .int 2 0, .int 0 0, .int 0 0, .int 3 0, .ref 22, .bool true, .int 181 0, .ref 23, .none, .ref 24, .ref 25, .ref 26, .int 206 0, .int 4 0, .str "/claim/cut.py" 207], #[]⟩) ::
  (nat_lit 28, ⟨.type "function", none, .func ⟨"__init__", "StackError.__init__", P28, .stmts B28, S28, 3, [], .none, .none, .none, .str "thinstack.errors" 187, none, .ref 27, .none, 0⟩, #[]⟩) ::
  (nat_lit 30, ⟨.type "dict", none, .dict #[⟨PyData.keyHash P "__module__", .str "__module__" 196, .str "thinstack.errors" 187⟩, ⟨PyData.keyHash P "__firstlineno__", .str "__firstlineno__" 200, .int 2 199⟩, ⟨PyData.keyHash P "__init__", .str "__init__" 208, .ref 28⟩, ⟨PyData.keyHash P "__static_attributes__", .str "__static_attributes__" 210, .ref 29⟩, ⟨PyData.keyHash P "__weakref__", .str "__weakref__" 212, .ref 32⟩, ⟨PyData.keyHash P "__doc__", .str "__doc__" 213, .none⟩] 3, #[]⟩) ::
  (nat_lit 31, ⟨.type "type", none, .cls ⟨"StackError", [.type "Exception"], [.ref 31, .type "Exception", .type "BaseException", .type "object"], 30, "StackError", true, [], [.ref 44], false, none, false⟩, #[some (.ref 15), none, some (.str "StackError" 189), some (.str "StackError" 197), some (.builtin "Exception.__new__"), some (.bool true)]⟩) ::
  (nat_lit 43, ⟨.type "dict", none, .dict #[⟨PyData.keyHash P "__module__", .str "__module__" 225, .str "thinstack.errors" 187⟩, ⟨PyData.keyHash P "__firstlineno__", .str "__firstlineno__" 229, .int 6 228⟩, ⟨PyData.keyHash P "__static_attributes__", .str "__static_attributes__" 230, .ref 42⟩, ⟨PyData.keyHash P "__doc__", .str "__doc__" 231, .none⟩] 2, #[]⟩) ::
  (nat_lit 44, ⟨.type "type", none, .cls ⟨"SizeError", [.ref 31], [.ref 44, .ref 31, .type "Exception", .type "BaseException", .type "object"], 43, "SizeError", true, [], [], false, none, false⟩, #[some (.ref 35), none, some (.str "SizeError" 218), some (.str "SizeError" 226), some (.builtin "Exception.__new__"), some (.bool true)]⟩) ::
  (nat_lit 50, ⟨.type "code", none, .fields #[.str "filled" 236, .str "filled" 237, .str "/claim/cut.py" 238, .int 9 0, .int 1 0, .int 0 0, .int 0 0, .int 3 0, .ref 47, .bool true, .int 181 0, .ref 48, .none, .none, .none, .ref 49, .int 239 0, .int 9 0, .str "/claim/cut.py" 240], #[]⟩) ::
  (nat_lit 51, ⟨.type "function", none, .func ⟨"filled", "filled", P51, .stmts B51, S51, 3, [], .none, .none, .none, .str "thinstack.chains" 234, none, .ref 50, .none, 0⟩, #[]⟩) ::
  (nat_lit 64, ⟨.type "code", none, .fields #[.str "__init__" 254, .str "Chain.__init__" 255, .str "/claim/cut.py" 256, .int 13 0, .int 2 0, .int 0 0, .int 0 0, .int 3 0, .ref 59, .bool true, .int 181 0, .ref 60, .none, .ref 61, .ref 62, .ref 63, .int 259 0, .int 13 0, .str "/claim/cut.py" 260], #[]⟩) ::
  (nat_lit 65, ⟨.type "function", none, .func ⟨"__init__", "Chain.__init__", P65, .stmts B65, S65, 3, [], .none, .none, .none, .str "thinstack.chains" 234, none, .ref 64, .none, 0⟩, #[]⟩) ::
  (nat_lit 71, ⟨.type "code", none, .fields #[.str "size" 262, .str "Chain.size" 263, .str "/claim/cut.py" 264, .int 16 0, .int 1 0, .int 0 0, .int 0 0, .int 3 0, .ref 66, .bool true, .int 181 0, .ref 67, .none, .ref 68, .ref 69, .ref 70, .int 268 0, .int 16 0, .str "/claim/cut.py" 269], #[]⟩) ::
  (nat_lit 72, ⟨.type "function", none, .func ⟨"size", "Chain.size", P72, .stmts B72, S72, 3, [], .none, .none, .none, .str "thinstack.chains" 234, none, .ref 71, .none, 0⟩, #[]⟩) ::
  (nat_lit 78, ⟨.type "code", none, .fields #[.str "count" 271, .str "Chain.count" 272, .str "/claim/cut.py" 273, .int 22 0, .int 1 0, .int 0 0, .int 0 0, .int 3 0, .ref 73, .bool true, .int 181 0, .ref 74, .none, .ref 75, .ref 76, .ref 77, .int 275 0, .int 22 0, .str "/claim/cut.py" 276], #[]⟩) ::
  (nat_lit 79, ⟨.type "function", none, .func ⟨"count", "Chain.count", P79, .stmts B79, S79, 3, [], .none, .none, .none, .str "thinstack.chains" 234, none, .ref 78, .none, 0⟩, #[]⟩) ::
  (nat_lit 85, ⟨.type "code", none, .fields #[.str "is_empty" 278, .str "Chain.is_empty" 279, .str "/claim/cut.py" 280, .int 25 0, .int 1 0, .int 0 0, .int 0 0, .int 3 0, .ref 80, .bool true, .int 181 0, .ref 81, .none, .ref 82, .ref 83, .ref 84, .int 282 0, .int 25 0, .str "/claim/cut.py" 283], #[]⟩) ::
  (nat_lit 86, ⟨.type "function", none, .func ⟨"is_empty", "Chain.is_empty", P86, .stmts B86, S86, 3, [], .none, .none, .none, .str "thinstack.chains" 234, none, .ref 85, .none, 0⟩, #[]⟩) ::
  (nat_lit 92, ⟨.type "code", none, .fields #[.str "octets" 285, .str "Chain.octets" 286, .str "/claim/cut.py" 287, .int 28 0, .int 1 0, .int 0 0, .int 0 0, .int 3 0, .ref 87, .bool true, .int 181 0, .ref 88, .none, .ref 89, .ref 90, .ref 91, .int 289 0, .int 28 0, .str "/claim/cut.py" 290], #[]⟩) ::
  (nat_lit 93, ⟨.type "function", none, .func ⟨"octets", "Chain.octets", P93, .stmts B93, S93, 3, [], .none, .none, .none, .str "thinstack.chains" 234, none, .ref 92, .none, 0⟩, #[]⟩) ::
  (nat_lit 97, ⟨.type "code", none, .fields #[.str "part_sizes" 292, .str "Chain.part_sizes" 293, .str "/claim/cut.py" 294, .int 31 0, .int 1 0, .int 0 0, .int 0 0, .int 3 0, .ref 94, .bool true, .int 181 0, .ref 95, .none, .none, .none, .ref 96, .int 295 0, .int 31 0, .str "/claim/cut.py" 296], #[]⟩) ::
  (nat_lit 98, ⟨.type "function", none, .func ⟨"part_sizes", "Chain.part_sizes", P98, .stmts B98, S98, 3, [], .none, .none, .none, .str "thinstack.chains" 234, none, .ref 97, .none, 0⟩, #[]⟩) ::
  (nat_lit 104, ⟨.type "code", none, .fields #[.str "check_range" 298, .str "Chain.check_range" 299, .str "/claim/cut.py" 300, .int 34 0, .int 3 0, .int 0 0, .int 0 0, .int 3 0, .ref 99, .bool true, .int 181 0, .ref 100, .none, .ref 101, .ref 102, .ref 103, .int 304 0, .int 34 0, .str "/claim/cut.py" 305], #[]⟩) ::
  (nat_lit 105, ⟨.type "function", none, .func ⟨"check_range", "Chain.check_range", P105, .stmts B105, S105, 3, [], .none, .none, .none, .str "thinstack.chains" 234, none, .ref 104, .none, 0⟩, #[]⟩) ::
  (nat_lit 111, ⟨.type "code", none, .fields #[.str "place_of" 307, .str "Chain.place_of" 308, .str "/claim/cut.py" 309, .int 38 0, .int 2 0, .int 0 0, .int 0 0, .int 3 0, .ref 106, .bool true, .int 181 0, .ref 107, .none, .ref 108, .ref 109, .ref 110, .int 314 0, .int 38 0, .str "/claim/cut.py" 315], #[]⟩) ::
  (nat_lit 112, ⟨.type "function", none, .func ⟨"place_of", "Chain.place_of", P112, .stmts B112, S112, 3, [], .none, .none, .none, .str "thinstack.chains" 234, none, .ref 111, .none, 0⟩, #[]⟩) ::
  (nat_lit 118, ⟨.type "code", none, .fields #[.str "octet" 317, .str "Chain.octet" 318, .str "/claim/cut.py" 319, .int 46 0, .int 2 0, .int 0 0, .int 0 0, .int 3 0, .ref 113, .bool true, .int 181 0, .ref 114, .none, .ref 115, .ref 116, .ref 117, .int 324 0, .int 46 0, .str "/claim/cut.py" 325], #[]⟩) ::
  (nat_lit 119, ⟨.type "function", none, .func ⟨"octet", "Chain.octet", P119, .stmts B119, S119, 3, [], .none, .none, .none, .str "thinstack.chains" 234, none, .ref 118, .none, 0⟩, #[]⟩) ::
  (nat_lit 125, ⟨.type "code", none, .fields #[.str "pieces" 327, .str "Chain.pieces" 328, .str "/claim/cut.py" 329, .int 51 0, .int 3 0, .int 0 0, .int 0 0, .int 3 0, .ref 120, .bool true, .int 181 0, .ref 121, .none, .ref 122, .ref 123, .ref 124, .int 338 0, .int 51 0, .str "/claim/cut.py" 339], #[]⟩) ::
  (nat_lit 126, ⟨.type "function", none, .func ⟨"pieces", "Chain.pieces", P126, .stmts B126, S126, 3, [], .none, .none, .none, .str "thinstack.chains" 234, none, .ref 125, .none, 0⟩, #[]⟩) ::
  (nat_lit 132, ⟨.type "code", none, .fields #[.str "part" 341, .str "Chain.part" 342, .str "/claim/cut.py" 343, .int 63 0, .int 3 0, .int 0 0, .int 0 0, .int 3 0, .ref 127, .bool true, .int 181 0, .ref 128, .none, .ref 129, .ref 130, .ref 131, .int 347 0, .int 63 0, .str "/claim/cut.py" 348], #[]⟩) ::
  (nat_lit 133, ⟨.type "function", none, .func ⟨"part", "Chain.part", P133, .stmts B133, S133, 3, [], .none, .none, .none, .str "thinstack.chains" 234, none, .ref 132, .none, 0⟩, #[]⟩) ::
  (nat_lit 139, ⟨.type "code", none, .fields #[.str "copy" 350, .str "Chain.copy" 351, .str "/claim/cut.py" 352, .int 66 0, .int 1 0, .int 0 0, .int 0 0, .int 3 0, .ref 134, .bool true, .int 181 0, .ref 135, .none, .ref 136, .ref 137, .ref 138, .int 354 0, .int 66 0, .str "/claim/cut.py" 355], #[]⟩) ::
  (nat_lit 140, ⟨.type "function", none, .func ⟨"copy", "Chain.copy", P140, .stmts B140, S140, 3, [], .none, .none, .none, .str "thinstack.chains" 234, none, .ref 139, .none, 0⟩, #[]⟩) ::
  (nat_lit 146, ⟨.type "code", none, .fields #[.str "add_front" 357, .str "Chain.add_front" 358, .str "/claim/cut.py" 359, .int 69 0, .int 2 0, .int 0 0, .int 0 0, .int 3 0, .ref 141, .bool true, .int 181 0, .ref 142, .none, .ref 143, .ref 144, .ref 145, .int 362 0, .int 69 0, .str "/claim/cut.py" 363], #[]⟩) ::
  (nat_lit 147, ⟨.type "function", none, .func ⟨"add_front", "Chain.add_front", P147, .stmts B147, S147, 3, [], .none, .none, .none, .str "thinstack.chains" 234, none, .ref 146, .none, 0⟩, #[]⟩) ::
  (nat_lit 153, ⟨.type "code", none, .fields #[.str "add_back" 365, .str "Chain.add_back" 366, .str "/claim/cut.py" 367, .int 73 0, .int 2 0, .int 0 0, .int 0 0, .int 3 0, .ref 148, .bool true, .int 181 0, .ref 149, .none, .ref 150, .ref 151, .ref 152, .int 370 0, .int 73 0, .str "/claim/cut.py" 371], #[]⟩) ::
  (nat_lit 154, ⟨.type "function", none, .func ⟨"add_back", "Chain.add_back", P154, .stmts B154, S154, 3, [], .none, .none, .none, .str "thinstack.chains" 234, none, .ref 153, .none, 0⟩, #[]⟩) ::
  (nat_lit 160, ⟨.type "code", none, .fields #[.str "drop_front" 373, .str "Chain.drop_front" 374, .str "/claim/cut.py" 375, .int 77 0, .int 2 0, .int 0 0, .int 0 0, .int 3 0, .ref 155, .bool true, .int 181 0, .ref 156, .none, .ref 157, .ref 158, .ref 159, .int 381 0, .int 77 0, .str "/claim/cut.py" 382], #[]⟩) ::
  (nat_lit 161, ⟨.type "function", none, .func ⟨"drop_front", "Chain.drop_front", P161, .stmts B161, S161, 3, [], .none, .none, .none, .str "thinstack.chains" 234, none, .ref 160, .none, 0⟩, #[]⟩) ::
  (nat_lit 167, ⟨.type "code", none, .fields #[.str "drop_back" 384, .str "Chain.drop_back" 385, .str "/claim/cut.py" 386, .int 85 0, .int 2 0, .int 0 0, .int 0 0, .int 3 0, .ref 162, .bool true, .int 181 0, .ref 163, .none, .ref 164, .ref 165, .ref 166, .int 392 0, .int 85 0, .str "/claim/cut.py" 393], #[]⟩) ::
  (nat_lit 168, ⟨.type "function", none, .func ⟨"drop_back", "Chain.drop_back", P168, .stmts B168, S168, 3, [], .none, .none, .none, .str "thinstack.chains" 234, none, .ref 167, .none, 0⟩, #[]⟩) ::
  (nat_lit 174, ⟨.type "code", none, .fields #[.str "take_front" 395, .str "Chain.take_front" 396, .str "/claim/cut.py" 397, .int 93 0, .int 2 0, .int 0 0, .int 0 0, .int 3 0, .ref 169, .bool true, .int 181 0, .ref 170, .none, .ref 171, .ref 172, .ref 173, .int 401 0, .int 93 0, .str "/claim/cut.py" 402], #[]⟩) ::
  (nat_lit 175, ⟨.type "function", none, .func ⟨"take_front", "Chain.take_front", P175, .stmts B175, S175, 3, [], .none, .none, .none, .str "thinstack.chains" 234, none, .ref 174, .none, 0⟩, #[]⟩) ::
  (nat_lit 181, ⟨.type "code", none, .fields #[.str "join" 404, .str "Chain.join" 405, .str "/claim/cut.py" 406, .int 98 0, .int 2 0, .int 0 0, .int 0 0, .int 3 0, .ref 176, .bool true, .int 181 0, .ref 177, .none, .ref 178, .ref 179, .ref 180, .int 409 0, .int 98 0, .str "/claim/cut.py" 410], #[]⟩) ::
  (nat_lit 182, ⟨.type "function", none, .func ⟨"join", "Chain.join", P182, .stmts B182, S182, 3, [], .none, .none, .none, .str "thinstack.chains" 234, none, .ref 181, .none, 0⟩, #[]⟩) ::
  (nat_lit 188, ⟨.type "code", none, .fields #[.str "split" 412, .str "Chain.split" 413, .str "/claim/cut.py" 414, .int 104 0, .int 2 0, .int 0 0, .int 0 0, .int 3 0, .ref 183, .bool true, .int 181 0, .ref 184, .none, .ref 185, .ref 186, .ref 187, .int 421 0, .int 104 0, .str "/claim/cut.py" 422], #[]⟩) ::
  (nat_lit 189, ⟨.type "function", none, .func ⟨"split", "Chain.split", P189, .stmts B189, S189, 3, [], .none, .none, .none, .str "thinstack.chains" 234, none, .ref 188, .none, 0⟩, #[]⟩) ::
  (nat_lit 195, ⟨.type "code", none, .fields #[.str "put" 424, .str "Chain.put" 425, .str "/claim/cut.py" 426, .int 115 0, .int 3 0, .int 0 0, .int 0 0, .int 3 0, .ref 190, .bool true, .int 181 0, .ref 191, .none, .ref 192, .ref 193, .ref 194, .int 436 0, .int 115 0, .str "/claim/cut.py" 437], #[]⟩) ::
  (nat_lit 196, ⟨.type "function", none, .func ⟨"put", "Chain.put", P196, .stmts B196, S196, 3, [], .none, .none, .none, .str "thinstack.chains" 234, none, .ref 195, .none, 0⟩, #[]⟩) ::
  (nat_lit 202, ⟨.type "code", none, .fields #[.str "stands_at" 439, .str "Chain.stands_at" 440, .str "/claim/cut.py" 441, .int 128 0, .int 3 0, .int 0 0, .int 0 0, .int 3 0, .ref 197, .bool true, .int 181 0, .ref 198, .none, .ref 199, .ref 200, .ref 201, .int 449 0, .int 128 0, .str "/claim/cut.py" 450], #[]⟩) ::
  (nat_lit 203, ⟨.type "function", none, .func ⟨"stands_at", "Chain.stands_at", P203, .stmts B203, S203, 3, [], .none, .none, .none, .str "thinstack.chains" 234, none, .ref 202, .none, 0⟩, #[]⟩) ::
  (nat_lit 204, ⟨.type "tuple", none, .seq #[.int 0 452] 0, #[]⟩) ::
  (nat_lit 210, ⟨.type "code", none, .fields #[.str "find" 453, .str "Chain.find" 454, .str "/claim/cut.py" 455, .int 142 0, .int 3 0, .int 0 0, .int 0 0, .int 3 0, .ref 205, .bool true, .int 181 0, .ref 206, .none, .ref 207, .ref 208, .ref 209, .int 461 0, .int 142 0, .str "/claim/cut.py" 462], #[]⟩) ::
  (nat_lit 211, ⟨.type "function", none, .func ⟨"find", "Chain.find", P211, .stmts B211, S211, 3, [], .ref 204, .none, .none, .str "thinstack.chains" 234, none, .ref 210, .none, 0⟩, #[]⟩) ::
  (nat_lit 217, ⟨.type "code", none, .fields #[.str "difference" 464, .str "Chain.difference" 465, .str "/claim/cut.py" 466, .int 151 0, .int 2 0, .int 0 0, .int 0 0, .int 3 0, .ref 212, .bool true, .int 181 0, .ref 213, .none, .ref 214, .ref 215, .ref 216, .int 473 0, .int 151 0, .str "/claim/cut.py" 474], #[]⟩) ::
  (nat_lit 218, ⟨.type "function", none, .func ⟨"difference", "Chain.difference", P218, .stmts B218, S218, 3, [], .none, .none, .none, .str "thinstack.chains" 234, none, .ref 217, .none, 0⟩, #[]⟩) ::
  (nat_lit 224, ⟨.type "code", none, .fields #[.str "packed" 476, .str "Chain.packed" 477, .str "/claim/cut.py" 478, .int 163 0, .int 2 0, .int 0 0, .int 0 0, .int 3 0, .ref 219, .bool true, .int 181 0, .ref 220, .none, .ref 221, .ref 222, .ref 223, .int 484 0, .int 163 0, .str "/claim/cut.py" 485], #[]⟩) ::
  (nat_lit 225, ⟨.type "function", none, .func ⟨"packed", "Chain.packed", P225, .stmts B225, S225, 3, [], .none, .none, .none, .str "thinstack.chains" 234, none, .ref 224, .none, 0⟩, #[]⟩) ::
  (nat_lit 231, ⟨.type "code", none, .fields #[.str "cut_up" 487, .str "Chain.cut_up" 488, .str "/claim/cut.py" 489, .int 175 0, .int 2 0, .int 0 0, .int 0 0, .int 3 0, .ref 226, .bool true, .int 181 0, .ref 227, .none, .ref 228, .ref 229, .ref 230, .int 496 0, .int 175 0, .str "/claim/cut.py" 497], #[]⟩) ::
  (nat_lit 232, ⟨.type "function", none, .func ⟨"cut_up", "Chain.cut_up", P232, .stmts B232, S232, 3, [], .none, .none, .none, .str "thinstack.chains" 234, none, .ref 231, .none, 0⟩, #[]⟩) ::
  (nat_lit 234, ⟨.type "dict", none, .dict #[⟨PyData.keyHash P "__module__", .str "__module__" 249, .str "thinstack.chains" 234⟩, ⟨PyData.keyHash P "__firstlineno__", .str "__firstlineno__" 253, .int 11 252⟩, ⟨PyData.keyHash P "__init__", .str "__init__" 261, .ref 65⟩, ⟨PyData.keyHash P "size", .str "size" 270, .ref 72⟩, ⟨PyData.keyHash P "count", .str "count" 277, .ref 79⟩, ⟨PyData.keyHash P "is_empty", .str "is_empty" 284, .ref 86⟩, ⟨PyData.keyHash P "octets", .str "octets" 291, .ref 93⟩, ⟨PyData.keyHash P "part_sizes", .str "part_sizes" 297, .ref 98⟩, ⟨PyData.keyHash P "check_range", .str "check_range" 306, .ref 105⟩, ⟨PyData.keyHash P "place_of", .str "place_of" 316, .ref 112⟩, ⟨PyData.keyHash P "octet", .str "octet" 326, .ref 119⟩, ⟨PyData.keyHash P "pieces", .str "pieces" 340, .ref 126⟩, ⟨PyData.keyHash P "part", .str "part" 349, .ref 133⟩, ⟨PyData.keyHash P "copy", .str "copy" 356, .ref 140⟩, ⟨PyData.keyHash P "add_front", .str "add_front" 364, .ref 147⟩, ⟨PyData.keyHash P "add_back", .str "add_back" 372, .ref 154⟩, ⟨PyData.keyHash P "drop_front", .str "drop_front" 383, .ref 161⟩, ⟨PyData.keyHash P "drop_back", .str "drop_back" 394, .ref 168⟩, ⟨PyData.keyHash P "take_front", .str "take_front" 403, .ref 175⟩, ⟨PyData.keyHash P "join", .str "join" 411, .ref 182⟩, ⟨PyData.keyHash P "split", .str "split" 423, .ref 189⟩, ⟨PyData.keyHash P "put", .str "put" 438, .ref 196⟩, ⟨PyData.keyHash P "stands_at", .str "stands_at" 451, .ref 203⟩, ⟨PyData.keyHash P "find", .str "find" 463, .ref 211⟩, ⟨PyData.keyHash P "difference", .str "difference" 475, .ref 218⟩, ⟨PyData.keyHash P "packed", .str "packed" 486, .ref 225⟩, ⟨PyData.keyHash P "cut_up", .str "cut_up" 498, .ref 232⟩, ⟨PyData.keyHash P "__static_attributes__", .str "__static_attributes__" 500, .ref 233⟩, ⟨PyData.keyHash P "__dict__", .str "__dict__" 502, .ref 236⟩, ⟨PyData.keyHash P "__weakref__", .str "__weakref__" 504, .ref 237⟩, ⟨PyData.keyHash P "__doc__", .str "__doc__" 505, .none⟩] 4, #[]⟩) ::
  (nat_lit 235, ⟨.type "type", none, .cls ⟨"Chain", [.type "object"], [.ref 235, .type "object"], 234, "Chain", true, [], [], false, none, false⟩, #[none, none, some (.str "Chain" 242), some (.str "Chain" 250), some (.builtin "object.__new__"), some (.bool true)]⟩) ::
  (nat_lit 245, ⟨.type "code", none, .fields #[.str "joined" 508, .str "joined" 509, .str "/claim/cut.py" 510, .int 188 0, .int 1 0, .int 0 0, .int 0 0, .int 3 0, .ref 240, .bool true, .int 181 0, .ref 241, .none, .ref 242, .ref 243, .ref 244, .int 514 0, .int 188 0, .str "/claim/cut.py" 515], #[]⟩) ::
  (nat_lit 246, ⟨.type "function", none, .func ⟨"joined", "joined", P246, .stmts B246, S246, 3, [], .none, .none, .none, .str "thinstack.chains" 234, none, .ref 245, .none, 0⟩, #[]⟩) ::
  (nat_lit 252, ⟨.type "code", none, .fields #[.str "_law_pool" 519, .str "_law_pool" 520, .str "/claim/cut.py" 521, .int 194 0, .int 2 0, .int 0 0, .int 0 0, .int 3 0, .ref 247, .bool true, .int 181 0, .ref 248, .none, .ref 249, .ref 250, .ref 251, .int 527 0, .int 194 0, .str "/claim/cut.py" 528], #[]⟩) ::
  (nat_lit 253, ⟨.type "function", none, .func ⟨"_law_pool", "_law_pool", P253, .stmts B253, S253, 3, [], .none, .none, .none, .str "law_nu0128_01" 517, none, .ref 252, .none, 0⟩, #[]⟩) ::
  (nat_lit 259, ⟨.type "code", none, .fields #[.str "_law_take" 530, .str "_law_take" 531, .str "/claim/cut.py" 532, .int 201 0, .int 2 0, .int 0 0, .int 0 0, .int 3 0, .ref 254, .bool true, .int 181 0, .ref 255, .none, .ref 256, .ref 257, .ref 258, .int 536 0, .int 201 0, .str "/claim/cut.py" 537], #[]⟩) ::
  (nat_lit 260, ⟨.type "function", none, .func ⟨"_law_take", "_law_take", P260, .stmts B260, S260, 3, [], .none, .none, .none, .str "law_nu0128_01" 517, none, .ref 259, .none, 0⟩, #[]⟩) ::
  (nat_lit 266, ⟨.type "code", none, .fields #[.str "_law_one" 539, .str "_law_one" 540, .str "/claim/cut.py" 541, .int 208 0, .int 2 0, .int 0 0, .int 0 0, .int 3 0, .ref 261, .bool true, .int 181 0, .ref 262, .none, .ref 263, .ref 264, .ref 265, .int 544 0, .int 208 0, .str "/claim/cut.py" 545], #[]⟩) ::
  (nat_lit 267, ⟨.type "function", none, .func ⟨"_law_one", "_law_one", P267, .stmts B267, S267, 3, [], .none, .none, .none, .str "law_nu0128_01" 517, none, .ref 266, .none, 0⟩, #[]⟩) ::
  (nat_lit 271, ⟨.type "code", none, .fields #[.str "_law_octets" 547, .str "_law_octets" 548, .str "/claim/cut.py" 549, .int 210 0, .int 2 0, .int 0 0, .int 0 0, .int 3 0, .ref 268, .bool true, .int 181 0, .ref 269, .none, .none, .none, .ref 270, .int 550 0, .int 210 0, .str "/claim/cut.py" 551], #[]⟩) ::
  (nat_lit 272, ⟨.type "function", none, .func ⟨"_law_octets", "_law_octets", P272, .stmts B272, S272, 3, [], .none, .none, .none, .str "law_nu0128_01" 517, none, .ref 271, .none, 0⟩, #[]⟩) ::
  (nat_lit 276, ⟨.type "code", none, .fields #[.str "_law_parts" 553, .str "_law_parts" 554, .str "/claim/cut.py" 555, .int 212 0, .int 1 0, .int 0 0, .int 0 0, .int 3 0, .ref 273, .bool true, .int 181 0, .ref 274, .none, .none, .none, .ref 275, .int 556 0, .int 212 0, .str "/claim/cut.py" 557], #[]⟩) ::
  (nat_lit 277, ⟨.type "function", none, .func ⟨"_law_parts", "_law_parts", P277, .stmts B277, S277, 3, [], .none, .none, .none, .str "law_nu0128_01" 517, none, .ref 276, .none, 0⟩, #[]⟩) ::
  (nat_lit 283, ⟨.type "code", none, .fields #[.str "_law_refused" 559, .str "_law_refused" 560, .str "/claim/cut.py" 561, .int 214 0, .int 1 0, .int 0 0, .int 0 0, .int 3 0, .ref 278, .bool true, .int 181 0, .ref 279, .none, .ref 280, .ref 281, .ref 282, .int 563 0, .int 214 0, .str "/claim/cut.py" 564], #[]⟩) ::
  (nat_lit 284, ⟨.type "function", none, .func ⟨"_law_refused", "_law_refused", P284, .stmts B284, S284, 3, [], .none, .none, .none, .str "law_nu0128_01" 517, none, .ref 283, .none, 0⟩, #[]⟩) ::
  (nat_lit 290, ⟨.type "code", none, .fields #[.str "_law_is" 566, .str "_law_is" 567, .str "/claim/cut.py" 568, .int 220 0, .int 2 0, .int 0 0, .int 0 0, .int 3 0, .ref 285, .bool true, .int 181 0, .ref 286, .none, .ref 287, .ref 288, .ref 289, .int 572 0, .int 220 0, .str "/claim/cut.py" 573], #[]⟩) ::
  (nat_lit 291, ⟨.type "function", none, .func ⟨"_law_is", "_law_is", P291, .stmts B291, S291, 3, [], .none, .none, .none, .str "law_nu0128_01" 517, none, .ref 290, .none, 0⟩, #[]⟩) ::
  (nat_lit 297, ⟨.type "code", none, .fields #[.str "_law_found" 575, .str "_law_found" 576, .str "/claim/cut.py" 577, .int 225 0, .int 3 0, .int 0 0, .int 0 0, .int 3 0, .ref 292, .bool true, .int 181 0, .ref 293, .none, .ref 294, .ref 295, .ref 296, .int 582 0, .int 225 0, .str "/claim/cut.py" 583], #[]⟩) ::
  (nat_lit 298, ⟨.type "function", none, .func ⟨"_law_found", "_law_found", P298, .stmts B298, S298, 3, [], .none, .none, .none, .str "law_nu0128_01" 517, none, .ref 297, .none, 0⟩, #[]⟩) ::
  (nat_lit 302, ⟨.type "code", none, .fields #[.str "_law_looked_right" 585, .str "_law_looked_right" 586, .str "/claim/cut.py" 587, .int 230 0, .int 3 0, .int 0 0, .int 0 0, .int 3 0, .ref 299, .bool true, .int 181 0, .ref 300, .none, .none, .none, .ref 301, .int 588 0, .int 230 0, .str "/claim/cut.py" 589], #[]⟩) ::
  (nat_lit 303, ⟨.type "function", none, .func ⟨"_law_looked_right", "_law_looked_right", P303, .stmts B303, S303, 3, [], .none, .none, .none, .str "law_nu0128_01" 517, none, .ref 302, .none, 0⟩, #[]⟩) ::
  (nat_lit 307, ⟨.type "code", none, .fields #[.str "_law_packed_right" 591, .str "_law_packed_right" 592, .str "/claim/cut.py" 593, .int 254 0, .int 3 0, .int 0 0, .int 0 0, .int 3 0, .ref 304, .bool true, .int 181 0, .ref 305, .none, .none, .none, .ref 306, .int 594 0, .int 254 0, .str "/claim/cut.py" 595], #[]⟩) ::
  (nat_lit 308, ⟨.type "function", none, .func ⟨"_law_packed_right", "_law_packed_right", P308, .stmts B308, S308, 3, [], .none, .none, .none, .str "law_nu0128_01" 517, none, .ref 307, .none, 0⟩, #[]⟩) ::
  (nat_lit 314, ⟨.type "code", none, .fields #[.str "_law_cut_right" 597, .str "_law_cut_right" 598, .str "/claim/cut.py" 599, .int 265 0, .int 3 0, .int 0 0, .int 0 0, .int 3 0, .ref 309, .bool true, .int 181 0, .ref 310, .none, .ref 311, .ref 312, .ref 313, .int 610 0, .int 265 0, .str "/claim/cut.py" 611], #[]⟩) ::
  (nat_lit 315, ⟨.type "function", none, .func ⟨"_law_cut_right", "_law_cut_right", P315, .stmts B315, S315, 3, [], .none, .none, .none, .str "law_nu0128_01" 517, none, .ref 314, .none, 0⟩, #[]⟩) ::
  (nat_lit 321, ⟨.type "code", none, .fields #[.str "_law_split_right" 613, .str "_law_split_right" 614, .str "/claim/cut.py" 615, .int 279 0, .int 3 0, .int 0 0, .int 0 0, .int 3 0, .ref 316, .bool true, .int 181 0, .ref 317, .none, .ref 318, .ref 319, .ref 320, .int 622 0, .int 279 0, .str "/claim/cut.py" 623], #[]⟩) ::
  (nat_lit 322, ⟨.type "function", none, .func ⟨"_law_split_right", "_law_split_right", P322, .stmts B322, S322, 3, [], .none, .none, .none, .str "law_nu0128_01" 517, none, .ref 321, .none, 0⟩, #[]⟩) ::
  (nat_lit 328, ⟨.type "code", none, .fields #[.str "_law_changed" 625, .str "_law_changed" 626, .str "/claim/cut.py" 627, .int 287 0, .int 3 0, .int 0 0, .int 0 0, .int 3 0, .ref 323, .bool true, .int 181 0, .ref 324, .none, .ref 325, .ref 326, .ref 327, .int 635 0, .int 287 0, .str "/claim/cut.py" 636], #[]⟩) ::
  (nat_lit 329, ⟨.type "function", none, .func ⟨"_law_changed", "_law_changed", P329, .stmts B329, S329, 3, [], .none, .none, .none, .str "law_nu0128_01" 517, none, .ref 328, .none, 0⟩, #[]⟩) ::
  (nat_lit 333, ⟨.type "code", none, .fields #[.str "_law_refusals_right" 638, .str "_law_refusals_right" 639, .str "/claim/cut.py" 640, .int 309 0, .int 2 0, .int 0 0, .int 0 0, .int 3 0, .ref 330, .bool true, .int 181 0, .ref 331, .none, .none, .none, .ref 332, .int 641 0, .int 309 0, .str "/claim/cut.py" 642], #[]⟩) ::
  (nat_lit 334, ⟨.type "function", none, .func ⟨"_law_refusals_right", "_law_refusals_right", P334, .stmts B334, S334, 3, [], .none, .none, .none, .str "law_nu0128_01" 517, none, .ref 333, .none, 0⟩, #[]⟩) ::
  (nat_lit 340, ⟨.type "code", none, .fields #[.str "law" 644, .str "law" 645, .str "/claim/cut.py" 646, .int 320 0, .int 1 0, .int 0 0, .int 0 0, .int 3 0, .ref 335, .bool true, .int 181 0, .ref 336, .none, .ref 337, .ref 338, .ref 339, .int 655 0, .int 320 0, .str "/claim/cut.py" 656], #[]⟩) ::
  (nat_lit 341, ⟨.type "function", none, .func ⟨"law", "law", P341, .stmts B341, S341, 3, [], .none, .none, .none, .str "law_nu0128_01" 517, none, .ref 340, .none, 0⟩, #[]⟩) ::
  []
abbrev keys : List Addr := [2, 3, 27, 28, 30, 31, 43, 44, 50, 51, 64, 65, 71, 72, 78, 79, 85, 86, 92, 93, 97, 98, 104, 105, 111, 112, 118, 119, 125, 126, 132, 133, 139, 140, 146, 147, 153, 154, 160, 161, 167, 168, 174, 175, 181, 182, 188, 189, 195, 196, 202, 203, 204, 210, 211, 217, 218, 224, 225, 231, 232, 234, 235, 245, 246, 252, 253, 259, 260, 266, 267, 271, 272, 276, 277, 283, 284, 290, 291, 297, 298, 302, 303, 307, 308, 314, 315, 321, 322, 328, 329, 333, 334, 340, 341]
theorem said : PySem.Challenge.rw_nu0128_01.wellSaid = true := by
  rw [Fast.te9446332074065402090]
  kernel_rfl
/-- what the statement's view keeps of the text -/
noncomputable def vw : Program := view prog [1, 2, 4, 5, 6, 8, 9, 10, 11, 12, 13, 14, 15, 16, 17, 18, 19, 20, 21, 22]
abbrev row : RowW := PySem.Challenge.rw_nu0128_01.row.toRowW
noncomputable abbrev hook : Hook := kmHook heap_39 keys (fun _ => by kernel_rfl) [331, 310, 305, 300]
noncomputable abbrev seenT : Shared → Bool := fun s => xlAt vw [] s && recOk (RowW.records row) s
theorem run_ (w : World) (os : OsState) : (topRunT (Fast.tw10156331382660048174 (Fast.tw11892475500146522536 Fast.tw14364793385576792824) prog w) (Fast.tw6613529449190102663 11 (some (.ref 6))) 2100 ⟨boot w.params, 11, {}, Array.mk [], boot_drawn, boot_toks, os⟩ (topStub prog)).map
    (fun s => ((staticsOk (Fast.tw5923862056798008813 prog.main.body) (boot_heap w.params) s.abs.heap && namesBound prog s.abs.heap && gensDone s.abs && laidKept (boot_heap w.params) s.abs.heap), Fast.tw4187177175401517315 vw [] (Fast.tw5923862056798008813 prog.main.body) seenT true s.abs, hook.obs s.abs)) =
    some (true, openGood vw [], hook.val w) := by kernel_rfl
theorem left : LeftO prog vw [] seenT hook.obs hook.val 2100 true := by
  refine left_of opens boot_abs boot_size fun w os => ?_
  rw [Fast.te10156331382660048174, Fast.te11892475500146522536, Fast.te14364793385576792824, Fast.te6613529449190102663, Fast.te4187177175401517315, Fast.te5923862056798008813]
  exact run_ w os
noncomputable abbrev lawRec : DefRec := { name := "law", params := P341, body := B341, scope := S341, pos := ⟨320, 0, 338, 15⟩ }
/-- what is left: the walk through the law -/
theorem walk (call : WalkO vw [] (XL vw []) hook.says row lawRec [] fun f vs => PySem.call f vs) : PySem.Challenge.rw_nu0128_01.Holds := by
  refine holds_law said fun said => ?_
  refine holds_open (q := vw) (loose := []) (Xt := seenT) (XP := XL vw []) (Yf := Hook.obs hook) (Ya := Hook.val hook) (YP := Hook.says hook) (N := 2100) left (Hook.of hook) (Hook.keeps hook) (fun s e => xl_of s (Bool.and_eq_true_iff.mp e).1) XL.keeps (d := lawRec) (kwd := [])
    ?hdef ?hp ?hk (fun s e => recFacts_of (Bool.and_eq_true_iff.mp e).2) (by rfl) said ?ok ⟨rfl, rfl, rfl, rfl, rfl, by decide +kernel⟩ ?hw call
  case hdef => kernel_rfl
  case hp => kernel_rfl
  case hk => kernel_rfl
  case ok => decide +kernel
  case hw => w_witness2
end hd
theorem fill : PySem.Challenge.rw_nu0128_01 = PySem.Challenge.rw_nu0128_01 ∧ hd.heap_39 = hd.heap_39 := by k_fill; exact ⟨rfl, rfl⟩
-- Lay1

/-- what is known of the module's top -/
structure Wd (w : World) (base : Heap) : Prop where
  X : (hd.heap_39 w.params).In base
  R : ∃ p loose mg mb, TopRead p loose mg mb base
theorem Wd.keeps {w : World} {base h : Heap} (W : Wd w base) (k : base.StaysIn h) : Wd w h :=
  ⟨W.X.keeps k, let ⟨p, l, mg, mb, R⟩ := W.R; ⟨p, l, mg, mb, R.keeps k⟩⟩
theorem Wd.nolimit {w : World} {base : Heap} (W : Wd w base) : base.NoLimit := let ⟨_, _, _, _, R⟩ := W.R; R.nolimit

abbrev Fact := Addr × (Obj → Prop)
/-- the object at a fact's address bears the fact -/
def Has (h : Heap) (p : Fact) : Prop := ∃ o, h.get? p.1 = some o ∧ p.2 o

/-- a frame at work -/
structure Cx (base h₀ : Heap) (L : Addr) (h : Heap) (m : Str → Option Value) (l : List Fact) : Prop where
  F : Fr h₀ L h m
  N : ∀ p ∈ l, p.1 ≠ L ∧ h₀.get? p.1 = none ∧ Has h p
  D : (l.map (·.1)).Nodup
  B : base.StaysIn h₀

/-- all that stood stands, but the objects at T -/
def Kp (T : List Addr) (h h' : Heap) : Prop := ∀ b o, b ∉ T → h.get? b = some o → h'.get? b = some o
theorem Kp.refl {T : List Addr} {h : Heap} : Kp T h h := fun _ _ _ e => e
theorem Kp.trans {T : List Addr} {h h' h'' : Heap} (a : Kp T h h') (b : Kp T h' h'') : Kp T h h'' := fun x o n e => b x o n (a x o n e)
theorem Kp.mono {T U : List Addr} {h h' : Heap} (a : Kp T h h') (s : ∀ x ∈ T, x ∈ U) : Kp U h h' := fun x o n e => a x o (fun q => n (s x q)) e
theorem Kp.has {T : List Addr} {h h' : Heap} {p : Fact} (a : Kp T h h') (n : p.1 ∉ T) (x : Has h p) : Has h' p := let ⟨o, e, f⟩ := x; ⟨o, a _ _ n e, f⟩
theorem Kp.new {T : List Addr} {h h' : Heap} {a : Addr} (k : Kp T h h') (n : a ∉ T) (e : h'.get? a = none) : h.get? a = none := by
  cases q : h.get? a with
  | none => rfl
  | some o => have := k a o n q; rw [e] at this; cases this

/-- a written ledger, one entry changed -/
inductive At (a : Addr) (φ ψ : Obj → Prop) : List Fact → List Fact → Prop
  | head {r} : At a φ ψ ((a, φ) :: r) ((a, ψ) :: r)
  | tail {p r r'} : At a φ ψ r r' → At a φ ψ (p :: r) (p :: r')
theorem At.split {a : Addr} {φ ψ : Obj → Prop} : ∀ {l l' : List Fact}, At a φ ψ l l' → ∃ x y, l = x ++ (a, φ) :: y ∧ l' = x ++ (a, ψ) :: y
  | _, _, .head => ⟨[], _, rfl, rfl⟩
  | _, _, .tail (p := p) h => let ⟨x, y, e, e'⟩ := h.split; ⟨p :: x, y, by rw [e]; rfl, by rw [e']; rfl⟩
theorem At.mem {a : Addr} {φ ψ : Obj → Prop} {l l' : List Fact} (h : At a φ ψ l l') : (a, φ) ∈ l := by
  obtain ⟨x, y, rfl, rfl⟩ := h.split; simp

section
variable {base h₀ h h' : Heap} {L : Addr} {m m' : Str → Option Value} {l l' : List Fact}

theorem Cx.G (C : Cx base h₀ L h m l) : base.StaysIn h := fun b o e => C.F.keep b o (C.B b o e)
theorem Cx.W {w : World} (C : Cx base h₀ L h m l) (W : Wd w base) : Wd w h := W.keeps C.G
theorem Cx.get (C : Cx base h₀ L h m l) {a : Addr} {φ : Obj → Prop} (hm : (a, φ) ∈ l) : Has h (a, φ) := (C.N _ hm).2.2
theorem Cx.old (C : Cx base h₀ L h m l) {p : Fact} (x : Has h₀ p) : Has h p := let ⟨o, e, f⟩ := x; ⟨o, C.F.keep _ _ e, f⟩
theorem Cx.nobase (C : Cx base h₀ L h m l) {a : Addr} {φ : Obj → Prop} (hm : (a, φ) ∈ l) : base.get? a = none := by
  cases q : base.get? a with
  | none => rfl
  | some o => have := C.B a o q; rw [(C.N _ hm).2.1] at this; cases this

/-- all objects but the frame's stand -/
theorem Cx.mono (C : Cx base h₀ L h m l) (hn : h'.Ns L m') (k : ∀ b o, b ≠ L → h.get? b = some o → h'.get? b = some o) : Cx base h₀ L h' m' l where
  F := ⟨hn, fun b o e => k b o (Nat.ne_of_lt (Nat.lt_of_lt_of_le (Heap.lt_size e) C.F.above)) (C.F.keep b o e), C.F.above⟩
  N := fun p hp => let ⟨a, b, o, e, f⟩ := C.N p hp; ⟨a, b, o, k _ _ a e, f⟩
  D := C.D
  B := C.B
theorem Cx.notL (C : Cx base h₀ L h m l) {a : Addr} {φ : Obj → Prop} (hm : (a, φ) ∈ l) : a ≠ L := (C.N _ hm).1
theorem ns_kp {T : List Addr} (hn : h.Ns L m) (k : Kp T h h') (n : L ∉ T) : h'.Ns L m := let ⟨o, es, ep, e, r⟩ := hn; ⟨o, es, ep, k _ _ n e, r⟩
/-- nothing that stood is changed -/
theorem Cx.kp (C : Cx base h₀ L h m l) (k : Kp [] h h') : Cx base h₀ L h' m l :=
  C.mono (ns_kp C.F.ns k (by simp)) fun b o _ e => k b o (by simp) e
theorem Cx.set (C : Cx base h₀ L h m l) (hn : h'.Ns L m') (k : Heap.SameBut L h h') : Cx base h₀ L h' m' l :=
  C.mono hn fun b o n e => (k.2 b n).trans e
/-- one object of the ledger is changed -/
theorem Cx.at {a : Addr} {φ ψ : Obj → Prop} (C : Cx base h₀ L h m l) (u : At a φ ψ l l') (k : Kp [a] h h') (hψ : Has h' (a, ψ)) : Cx base h₀ L h' m l' := by
  obtain ⟨x, y, rfl, rfl⟩ := u.split
  have D := C.D
  have hn := C.N (a, φ) (by simp)
  have na : ∀ p ∈ x ++ y, p.1 ≠ a := fun p hp q => by
    simp [List.nodup_append] at D
    rcases List.mem_append.mp hp with z | z
    · exact (D.2.2 _ _ z).1 q
    · exact D.2.1.1 p.2 (by rw [← q]; exact z)
  refine ⟨⟨ns_kp C.F.ns k (by simpa using Ne.symm hn.1), fun b o e => k b o (fun q => ?_) (C.F.keep b o e), C.F.above⟩, fun p hp => ?_, by simpa using D, C.B⟩
  · rw [List.mem_singleton.mp q, hn.2.1] at e; cases e
  · rcases List.mem_append.mp hp with z | z
    · have := C.N p (List.mem_append_left _ z)
      exact ⟨this.1, this.2.1, k.has (by simpa using na p (List.mem_append_left _ z)) this.2.2⟩
    · rcases List.mem_cons.mp z with rfl | z
      · exact ⟨hn.1, hn.2.1, hψ⟩
      · have := C.N p (List.mem_append_right _ (.tail _ z))
        exact ⟨this.1, this.2.1, k.has (by simpa using na p (List.mem_append_right _ z)) this.2.2⟩
/-- an object is new -/
theorem Cx.add {a : Addr} {φ : Obj → Prop} (C : Cx base h₀ L h m l) (C' : Cx base h₀ L h' m' l') (e : l'.map (·.1) = l.map (·.1)) (hn : h.get? a = none) (x : Has h' (a, φ)) : Cx base h₀ L h' m' ((a, φ) :: l') := by
  have old : ∀ p ∈ l, p.1 ≠ a := fun p hp q => by obtain ⟨o, z, _⟩ := (C.N p hp).2.2; rw [q, hn] at z; cases z
  have oL : a ≠ L := fun q => by obtain ⟨o, _, _, z, _⟩ := C.F.ns; rw [← q, hn] at z; cases z
  have o0 : h₀.get? a = none := by
    cases q : h₀.get? a with
    | none => rfl
    | some o => have := C.F.keep a o q; rw [hn] at this; cases this
  refine ⟨C'.F, fun p hp => ?_, ?_, C'.B⟩
  · rcases List.mem_cons.mp hp with rfl | hp
    · exact ⟨oL, o0, x⟩
    · exact C'.N p hp
  · simp only [List.map_cons, List.nodup_cons]
    refine ⟨fun q => ?_, C'.D⟩
    rw [e] at q
    obtain ⟨p, hp, z⟩ := List.mem_map.mp q
    exact old p hp z
/-- entries may be left out, or put in another order -/
theorem Cx.sub (C : Cx base h₀ L h m l) (s : ∀ p ∈ l', p ∈ l) (d : (l'.map (·.1)).Nodup) : Cx base h₀ L h m l' := ⟨C.F, fun p hp => C.N p (s p hp), d, C.B⟩
theorem Cx.drop (C : Cx base h₀ L h m l) (s : l'.Sublist l) : Cx base h₀ L h m l' := C.sub (fun _ q => s.subset q) (C.D.sublist (s.map _))
/-- a fact may be weakened -/
theorem Cx.weak {a : Addr} {φ ψ : Obj → Prop} (C : Cx base h₀ L h m l) (u : At a φ ψ l l') (k : ∀ o, φ o → ψ o) : Cx base h₀ L h m l' :=
  C.at u .refl (let ⟨o, e, f⟩ := C.get u.mem; ⟨o, e, k o f⟩)
/-- locals may be forgotten -/
theorem Cx.locs (C : Cx base h₀ L h m l) (e : m = m') : Cx base h₀ L h m' l := e ▸ C
end

/-- room on both stacks -/
structure Amb (A : Around) (n : Nat) : Prop where
  hh : A.handled = none
  d : A.depth + n < recursionLimit
  u : A.units + 10 * n < cLine
theorem Amb.mono {A : Around} {n k : Nat} (a : Amb A n) (h : k ≤ n) : Amb A k := ⟨a.hh, by have := a.d; omega, by have := a.u; omega⟩
theorem Amb.deeper {A : Around} {n : Nat} (a : Amb A (n + 1)) (env : Env) : Amb (A.deeper env) n := ⟨a.hh, by have := a.d; show A.depth + 1 + n < _; omega, by have := a.u; show A.units + 3 + _ < _; omega⟩

section
variable {prog : Program} {w : World} {A : Around} {R : Result → Shared → Prop} {base h : Heap} {g : Array GenState} {d : Drawn} {tk : Nat} {os : OsState}

theorem enter {name qual : Str} {params : Arguments} {body : List Stmt} {scope : Scope} {dV kV doc pm cdv ct oc : Value} {an od : Option Addr} {osl : Array (Option Value)} {f : Addr} {args : Args} {binds : List (Str × Value)}
    (W : Wd w base) (G : base.StaysIn h) (T : List Fact) (hT : ∀ p ∈ T, base.get? p.1 = none ∧ Has h p) (hD : (T.map (·.1)).Nodup) (hroom : A.depth < recursionLimit)
    (ho : (hd.heap_39 w.params).lookup f = some ⟨oc, od, .func (fnOf name qual params body scope dV kV doc pm an cdv ct), osl⟩) (hcd : codeIn (hd.heap_39 w.params) cdv qual = true)
    (hbind : BindsTo ⟨h, g, d, tk, os⟩ (fnOf name qual params body scope dV kV doc pm an cdv ct) args binds) (hloc : ∀ y ∈ binds, scope.names.lookup y.1 = some .local)
    (k : ∀ h₁ L, Cx base (hideAll h (T.map (·.1))) L h₁ (fun y => binds.reverse.lookup y) T →
      wpAny (model prog w) (A.deeper (envOf qual scope L f cdv)) (execs body (envOf qual scope L f cdv))
        (fun fl s' => R (.ok (.ret (match fl with | .ret v => v | _ => .none))) s')
        (fun e s' => wpAny (model prog w) (A.deeper (envOf qual scope L f cdv)) (leaving (envOf qual scope L f cdv) e) (fun _ s'' => R (.error e) s'') (fun e' s'' => R (.error e') s'') s')
        ⟨h₁, g, d, tk + binds.length, os⟩)
    (hco : scope.isCoroutine = false := by rfl) (hgen : scope.isGenerator = false := by rfl) (hk : scope.kind = .function := by rfl)
    (hcell : ∀ x ∈ scope.names, x.2 ≠ .cell := by decide) : codeAny (model prog w) A (.call (.ref f) args) R ⟨h, g, d, tk, os⟩ := by
  have X := W.X.keeps G
  refine codeAny_call_def (fd := fnOf name qual params body scope dV kV doc pm an cdv ct) (body := body) (binds := binds) hroom (X _ _ ho) rfl (W.nolimit.keeps G) (codeRec_of X hcd) rfl hbind hcell hloc (fun h₁ hns hk₁ => ?_) hco hgen hk
  refine k h₁ h.objs.size ⟨⟨hns, fun b o e => hk₁ b o (of_hideAll _ e), Nat.le_of_eq (hideAll_size _ _)⟩, fun p hp => ?_, hD, fun b o e => hideAll_get _ (G b o e) fun q => ?_⟩
  · obtain ⟨_, o, e, f⟩ := hT p hp
    exact ⟨Nat.ne_of_lt (Heap.lt_size e), hideAll_none _ (List.mem_map_of_mem hp), o, hk₁ _ _ e, f⟩
  · obtain ⟨p, hp, z⟩ := List.mem_map.mp q
    rw [← z, (hT p hp).1] at e; cases e

theorem has_hide {T : List Addr} {p : Fact} (x : Has h p) (n : p.1 ∉ T) : Has (hideAll h T) p := let ⟨o, e, f⟩ := x; ⟨o, hideAll_get _ e n, f⟩
/-- what a frame's end tells -/
theorem Cx.out {T : List Addr} {L : Addr} {h' : Heap} {m : Str → Option Value} {l : List Fact} (C : Cx base (hideAll h T) L h' m l) : Kp T h h' := fun b o n e => C.F.keep b o (hideAll_get _ e n)
theorem Cx.fresh {T : List Addr} {L a : Addr} {h' : Heap} {m : Str → Option Value} {l : List Fact} {φ : Obj → Prop} (C : Cx base (hideAll h T) L h' m l) (hm : (a, φ) ∈ l) (hn : a ∉ T) : h.get? a = none := by
  cases q : h.get? a with
  | none => rfl
  | some o => have := hideAll_get T q hn; rw [(C.N _ hm).2.1] at this; cases this
end
-- Lay2

/-- item by item -/
inductive All2 {α β : Type} (R : α → β → Prop) : List α → List β → Prop
  | nil : All2 R [] []
  | cons {a b as bs} : R a b → All2 R as bs → All2 R (a :: as) (b :: bs)
namespace All2
variable {α β : Type} {R : α → β → Prop}
theorem length : ∀ {as : List α} {bs : List β}, All2 R as bs → bs.length = as.length
  | _, _, .nil => rfl
  | _, _, .cons _ h => by simp [h.length]
theorem get : ∀ {as : List α} {bs : List β}, All2 R as bs → ∀ {i : Nat} {a : α}, as[i]? = some a → ∃ b, bs[i]? = some b ∧ R a b
  | _, _, .cons r h, 0, _, e => by cases e; exact ⟨_, rfl, r⟩
  | _, _, .cons r h, i + 1, _, e => by obtain ⟨b, q, z⟩ := h.get (i := i) (by simpa using e); exact ⟨b, by simpa using q, z⟩
theorem get' : ∀ {as : List α} {bs : List β}, All2 R as bs → ∀ {i : Nat} {b : β}, bs[i]? = some b → ∃ a, as[i]? = some a ∧ R a b
  | _, _, .cons r h, 0, _, e => by cases e; exact ⟨_, rfl, r⟩
  | _, _, .cons r h, i + 1, _, e => by obtain ⟨b, q, z⟩ := h.get' (i := i) (by simpa using e); exact ⟨b, by simpa using q, z⟩
theorem append : ∀ {as : List α} {bs : List β} {cs : List α} {ds : List β}, All2 R as bs → All2 R cs ds → All2 R (as ++ cs) (bs ++ ds)
  | _, _, _, _, .nil, k => k
  | _, _, _, _, .cons r h, k => .cons r (h.append k)
theorem take : ∀ {as : List α} {bs : List β}, All2 R as bs → ∀ n : Nat, All2 R (as.take n) (bs.take n)
  | _, _, _, 0 => by simpa using .nil
  | _, _, .nil, _ + 1 => .nil
  | _, _, .cons r h, n + 1 => .cons r (h.take n)
theorem drop : ∀ {as : List α} {bs : List β}, All2 R as bs → ∀ n : Nat, All2 R (as.drop n) (bs.drop n)
  | _, _, h, 0 => h
  | _, _, .nil, _ + 1 => .nil
  | _, _, .cons _ h, n + 1 => h.drop n
theorem set {a : α} {b : β} (r : R a b) : ∀ {as : List α} {bs : List β}, All2 R as bs → ∀ n : Nat, All2 R (as.set n a) (bs.set n b)
  | _, _, .nil, _ => .nil
  | _, _, .cons _ h, 0 => .cons r h
  | _, _, .cons q h, n + 1 => .cons q (h.set r n)
theorem snoc {as : List α} {bs : List β} {a : α} {b : β} (h : All2 R as bs) (r : R a b) : All2 R (as ++ [a]) (bs ++ [b]) := h.append (.cons r .nil)
end All2

def IsI (n : Int) (v : Value) : Prop := ∃ t, v = .int n t
def IsB (p : List UInt8) (v : Value) : Prop := ∃ t, v = .bytes p.toArray t
/-- a list, its items written -/
def LsO (vs : List Value) (o : Obj) : Prop := ∃ n, o = listOf vs.toArray n
/-- a list, its items told -/
def LR {α : Type} (R : α → Value → Prop) (xs : List α) (o : Obj) : Prop := ∃ vs, LsO vs o ∧ All2 R xs vs
abbrev LI := LR IsI
abbrev LB := LR IsB
/-- a tuple -/
def TuO (vs : List Value) (o : Obj) : Prop := ∃ n, o = { cls := .type "tuple", data := .seq vs.toArray n }

theorem has_list {h : Heap} {a : Addr} {vs : List Value} (x : Has h (a, LsO vs)) : h.IsList a vs.toArray := by
  obtain ⟨o, e, n, rfl⟩ := x; exact PySem.IsL.isList (n := n) e
theorem has_plain {h : Heap} {a : Addr} {vs : List Value} (x : Has h (a, LsO vs)) : ∃ n, h.get? a = some (listOf vs.toArray n) := by
  obtain ⟨o, e, n, rfl⟩ := x; exact ⟨n, e⟩
theorem has_LR {α : Type} {R : α → Value → Prop} {xs : List α} {h : Heap} {a : Addr} (x : Has h (a, LR R xs)) : ∃ vs, Has h (a, LsO vs) ∧ All2 R xs vs := by
  obtain ⟨o, e, vs, q, z⟩ := x; exact ⟨vs, ⟨o, e, q⟩, z⟩
theorem LR_of {α : Type} {R : α → Value → Prop} {xs : List α} {h : Heap} {a : Addr} {vs : List Value} (x : Has h (a, LsO vs)) (z : All2 R xs vs) : Has h (a, LR R xs) := by
  obtain ⟨o, e, q⟩ := x; exact ⟨o, e, vs, q, z⟩
theorem LR_weak {α β : Type} {R : α → Value → Prop} {S : β → Value → Prop} {xs : List α} {ys : List β} (k : ∀ vs, All2 R xs vs → All2 S ys vs) : ∀ o, LR R xs o → LR S ys o := fun _ ⟨vs, q, z⟩ => ⟨vs, q, k vs z⟩

section
variable {prog : Program} {w : World} {A : Around} {E : Value → Shared → Prop} {base h₀ h : Heap} {g : Array GenState} {d : Drawn} {tk : Nat} {os : OsState}
variable {L : Addr} {m : Str → Option Value} {l l' : List Fact}

theorem nL {env : Env} {x : Str} {pos : Pos} {v : Value} {Q : Value → Shared → Prop} (C : Cx base h₀ env.locals h m l) (hv : m x = some v) (q : Q v ⟨h, g, d, tk, os⟩)
    (hk : env.scope.kind = .function := by rfl) (hx : env.kindOf x = some .local := by rfl) (hd : (x == ("__debug__" : Str)) = false := by decide) :
    wpAny (model prog w) A (eval (.Name x pos) env) Q E ⟨h, g, d, tk, os⟩ := wpAny_Name (wpAny_loadName_local hk hx C.F.ns hv q) hd
theorem nK {env : Env} {x : Str} {pos : Pos} {v : Value} {Q : Value → Shared → Prop} (C : Cx base h₀ env.locals h m l) (W : Wd w base) (e : nsIn (hd.heap_39 w.params) mainGlobals x = some (some v)) (q : Q v ⟨h, g, d, tk, os⟩)
    (hk : env.scope.kind = .function := by rfl) (hx : env.kindOf x = some .globalImplicit := by rfl) (hg : env.globals = mainGlobals := by rfl) (hd : (x == ("__debug__" : Str)) = false := by decide) :
    wpAny (model prog w) A (eval (.Name x pos) env) Q E ⟨h, g, d, tk, os⟩ :=
  let ⟨_, _, _, _, R⟩ := W.R; Name_function_global hk hx (loadGlobal_global (env := env) (by rw [hg]; exact R.g.keeps C.G) (mg_of W.X R.g e) q) hd
theorem nB {env : Env} {x : Str} {pos : Pos} {v : Value} {Q : Value → Shared → Prop} (C : Cx base h₀ env.locals h m l) (W : Wd w base) (e : nsIn (hd.heap_39 w.params) mainGlobals x = some none) (hv : bootBuiltins x = some v) (q : Q v ⟨h, g, d, tk, os⟩) (hn : x ≠ "__name__" := by decide)
    (hk : env.scope.kind = .function := by rfl) (hx : env.kindOf x = some .globalImplicit := by rfl) (hg : env.globals = mainGlobals := by rfl) (hb : env.builtins = builtinsNs := by rfl) (hd : (x == ("__debug__" : Str)) = false := by decide) :
    wpAny (model prog w) A (eval (.Name x pos) env) Q E ⟨h, g, d, tk, os⟩ :=
  let ⟨_, _, _, _, R⟩ := W.R; Name_function_global hk hx (loadGlobal_builtin (env := env) (by rw [hg]; exact R.g.keeps C.G) (mg_none_of W.X R.g e) (by rw [hb]; exact R.b.keeps C.G) ((R.builtins x hn).trans hv) q) hd

/-- one name's value -/
def upd (m : Str → Option Value) (x : Str) (v : Value) : Str → Option Value := fun y => if y = x then some v else m y
theorem upd_ne {m : Str → Option Value} {x y : Str} {v : Value} (h : y ≠ x) : upd m x v y = m y := if_neg h
/-- a cell's content -/
def CeO (v : Option Value) (o : Obj) : Prop := o.data = .cell v
theorem has_cell {h : Heap} {c : Addr} {v : Option Value} (x : Has h (c, CeO v)) : h.IsCell c v := x
theorem nC {env : Env} {x : Str} {pos : Pos} {v : Value} {c : Addr} {Q : Value → Shared → Prop} (C : Cx base h₀ env.locals h m l) (hc : env.cells.lookup x = some c) (hm : (c, CeO (some v)) ∈ l) (q : Q v ⟨h, g, d, tk, os⟩)
    (hk : env.scope.kind = .function := by rfl) (hx : env.kindOf x = some .cell := by rfl) (hd : (x == ("__debug__" : Str)) = false := by decide) :
    wpAny (model prog w) A (eval (.Name x pos) env) Q E ⟨h, g, d, tk, os⟩ := wpAny_Name (wpAny_loadName_cell hk hx hc (has_cell (C.get hm)) q) hd

theorem ldL {env : Env} {x : Str} {v : Value} {Q : Value → Shared → Prop} (C : Cx base h₀ env.locals h m l) (hv : m x = some v) (q : Q v ⟨h, g, d, tk, os⟩)
    (hk : env.scope.kind = .function := by rfl) (hx : env.kindOf x = some .local := by rfl) :
    wpAny (model prog w) A (loadName env x) Q E ⟨h, g, d, tk, os⟩ := wpAny_loadName_local hk hx C.F.ns hv q
theorem stL {env : Env} {x : Str} {v : Value} {Q : Unit → Shared → Prop} (C : Cx base h₀ L h m l)
    (q : ∀ h', Cx base h₀ L h' (upd m x v) l → Q () ⟨h', g, d, tk + 1, os⟩)
    (hk : env.scope.kind = .function := by rfl) (hx : env.kindOf x = some .local := by rfl) (hL : env.locals = L := by rfl) :
    wpAny (model prog w) A (storeName env x v) Q E ⟨h, g, d, tk, os⟩ := by
  subst hL
  exact wpAny_storeName_local hx C.F.ns (fun h' hn hs => q h' (C.set hn hs)) (by rw [hk]; rfl)
theorem stC {env : Env} {x : Str} {v : Value} {c : Addr} {v₀ : Option Value} {Q : Unit → Shared → Prop} (C : Cx base h₀ L h m l) (hc : env.cells.lookup x = some c) (u : At c (CeO v₀) (CeO (some v)) l l')
    (q : ∀ h', Cx base h₀ L h' m l' → Q () ⟨h', g, d, tk, os⟩)
    (hk : env.scope.kind = .function := by rfl) (hx : env.kindOf x = some .cell := by rfl) :
    wpAny (model prog w) A (storeName env x v) Q E ⟨h, g, d, tk, os⟩ :=
  wpAny_storeName_cell hk hx hc (has_cell (C.get u.mem)) fun h' hv hs => q h' (C.at u (fun b o n e => (hs.2 b (by simpa using n)).trans e) hv)

-- lists
theorem len_L {a : Addr} {vs : List Value} {Q : Value → Shared → Prop} (x : Has h (a, LsO vs)) (hz : vs.length ≤ 1000000) (q : Q (.int vs.length (tk + 1)) ⟨h, g, d, tk + 1 + 1, os⟩) :
    wpAny (model prog w) A (call (.builtin "len") [.ref a]) Q E ⟨h, g, d, tk, os⟩ :=
  call_len_list (s := ⟨h, g, d, tk, os⟩) (has_list x) (by rw [List.size_toArray]; omega) (by rw [List.size_toArray]; exact q)
theorem item_L {value slice : Expr} {a : Addr} {vs : List Value} {k : Int} {u : Tok} {v : Value} {Q : Value → Shared → Prop} (x : Has h (a, LsO vs)) (h0 : 0 ≤ k) (h1 : k < 1000000) (hx : vs[k.toNat]? = some v) (q : Q v ⟨h, g, d, tk, os⟩)
    (hs : subscripted slice false (.ref a) (.int k u) = operate [.ref a, .int k u] (getItem (.ref a) (.int k u)) := by with_unfolding_all rfl) :
    wpAny (model prog w) A (subscriptTail value slice (.ref a) (.int k u)) Q E ⟨h, g, d, tk, os⟩ :=
  tail_any (has_list x).typeIs slot_list_getitem.lookup (wpAny_getItem_list (has_list x) h0 (by omega) (by simpa using hx) q) hs
theorem set_L {a : Addr} {vs : List Value} {k : Int} {u : Tok} {v : Value} {Q : Unit → Shared → Prop} (x : Has h (a, LsO vs)) (h0 : 0 ≤ k) (h1 : k < vs.length) (hz : vs.length ≤ 1000000)
    (q : ∀ h', Has h' (a, LsO (vs.set k.toNat v)) → Kp [a] h h' → Q () ⟨h', g, d, tk, os⟩) : wpAny (model prog w) A (setItem (.ref a) (.int k u) v) Q E ⟨h, g, d, tk, os⟩ := by
  obtain ⟨n, e⟩ := has_plain x
  refine ki_setAt (s := ⟨h, g, d, tk, os⟩) e h0 (by omega) (by rw [List.size_toArray]; exact h1) (q _ ⟨_, Heap.get?_update_self _ e rfl, n, ?_⟩ fun b o hb e' => (Heap.get?_update_other _ _ (Ne.symm (by simpa using hb))).trans e')
  show Obj.mapSeq _ (listOf _ _) = _
  simp [Obj.mapSeq]
theorem append_L {a : Addr} {vs : List Value} {v : Value} {Q : Value → Shared → Prop} (x : Has h (a, LsO vs)) (hz : vs.length ≤ 1000000)
    (q : ∀ h', Has h' (a, LsO (vs ++ [v])) → Kp [a] h h' → Q .none ⟨h', g, d, tk, os⟩) : wpAny (model prog w) A (call (.builtin "list.append") [.ref a, v]) Q E ⟨h, g, d, tk, os⟩ := by
  obtain ⟨n, e⟩ := has_plain x
  refine wpAny_list_append_plain (s := ⟨h, g, d, tk, os⟩) ⟨n, e⟩ (fun h' ⟨k, e'⟩ hs => q h' ⟨_, e', k, by simp⟩ fun b o hb e'' => (hs.2 b (by simpa using hb)).trans e'') (by rw [List.size_toArray, sizeLine_eq]; omega)
theorem newList_L {vs : List Value} {Q : Value → Shared → Prop} (C : Cx base h₀ L h m l) (hz : vs.length ≤ 1000000)
    (q : ∀ a h', Cx base h₀ L h' m ((a, LsO vs) :: l) → Q (.ref a) ⟨h', g, d, tk, os⟩) : wpAny (model prog w) A (newList vs) Q E ⟨h, g, d, tk, os⟩ := by
  refine wpAny_newObj_type (s := ⟨h, g, d, tk, os⟩) (q _ _ (C.add (C.kp ?_) rfl (Heap.get?_none_of_le (Nat.le_refl _)) ⟨_, Heap.get?_push_size _ rfl, 0, rfl⟩)) (by show vs.toArray.size ≤ sizeLine; rw [List.size_toArray, sizeLine_eq]; omega)
  exact fun b o _ e => Heap.get?_push_of_some _ e
theorem newTuple_L {vs : List Value} {Q : Value → Shared → Prop} (C : Cx base h₀ L h m l) (hz : vs.length ≤ 1000000)
    (q : ∀ a h', Cx base h₀ L h' m ((a, TuO vs) :: l) → Q (.ref a) ⟨h', g, d, tk, os⟩) : wpAny (model prog w) A (newTuple vs) Q E ⟨h, g, d, tk, os⟩ := by
  refine wpAny_newObj_type (s := ⟨h, g, d, tk, os⟩) (q _ _ (C.add (C.kp ?_) rfl (Heap.get?_none_of_le (Nat.le_refl _)) ⟨_, Heap.get?_push_size _ rfl, 0, rfl⟩)) (by show vs.toArray.size ≤ sizeLine; rw [List.size_toArray, sizeLine_eq]; omega)
  exact fun b o _ e => Heap.get?_push_of_some _ e
/-- the method of a list -/
theorem meth_L {a : Addr} {vs : List Value} {name : Str} {id : String} {pl : Sem Bool} {Q : Value × List Value → Shared → Prop} (x : Has h (a, LsO vs)) (slot : Slot "list" name id) (hty : typeOf (.builtin id) = pure (.type "method_descriptor"))
    (q : Q (.builtin id, [.ref a]) ⟨h, g, d, tk, os⟩) : wpAny (model prog w) A (getMethod (.ref a) name pl) Q E ⟨h, g, d, tk, os⟩ :=
  getMethod_builtin (s := ⟨h, g, d, tk, os⟩) (has_list x).typeIs PySem.F.plainAttrs_list slot hty (fun b e => by cases e; obtain ⟨o, e, n, rfl⟩ := x; exact ⟨_, e, rfl⟩) q
end
-- Lay3

/-- the ledger as the library writes it -/
def Zip (ns : List (Addr × Obj)) (l : List Fact) : Prop := All2 (fun (n : Addr × Obj) (f : Fact) => n.1 = f.1 ∧ f.2 n.2) ns l
theorem Zip.addrs {ns : List (Addr × Obj)} {l : List Fact} (z : Zip ns l) : ns.map (·.1) = l.map (·.1) := by
  induction z with
  | nil => rfl
  | cons r _ ih => simp [r.1, ih]
section
variable {base h₀ h h' : Heap} {L : Addr} {m m' : Str → Option Value} {l l' : List Fact}
theorem Cx.kit (C : Cx base h₀ L h m l) : ∃ ns, News h₀ L h ns ∧ Zip ns l := by
  have N := C.N
  clear C
  induction l with
  | nil => exact ⟨[], (fun _ q => nomatch q), All2.nil⟩
  | cons p r ih =>
    obtain ⟨ns, n, z⟩ := ih fun q hq => N q (.tail _ hq)
    obtain ⟨a, b, o, e, f⟩ := N p (.head _)
    refine ⟨(p.1, o) :: ns, (fun q hq => ?_), All2.cons ⟨rfl, f⟩ z⟩
    rcases List.mem_cons.mp hq with rfl | hq
    · exact ⟨e, a, b⟩
    · exact n q hq
theorem Cx.ofKit {ns : List (Addr × Obj)} (F : Fr h₀ L h m) (N : News h₀ L h ns) (z : Zip ns l) (D : (l.map (·.1)).Nodup) (B : base.StaysIn h₀) : Cx base h₀ L h m l := by
  refine ⟨F, fun p hp => ?_, D, B⟩
  clear D
  induction z with
  | nil => cases hp
  | @cons a b as bs r _ ih =>
    rcases List.mem_cons.mp hp with rfl | hp
    · obtain ⟨x, y, z⟩ := N a (.head _)
      obtain ⟨e1, e2⟩ := r
      exact ⟨e1 ▸ y, e1 ▸ z, a.2, e1 ▸ x, e2⟩
    · exact ih (fun q hq => N q (.tail _ hq)) hp
/-- a rule of the library's that leaves the ledger as it is -/
theorem Cx.same (C : Cx base h₀ L h m l) {P : Prop} (k : ∀ ns, News h₀ L h ns → (∀ h' m', Fr h₀ L h' m' → News h₀ L h' ns → Cx base h₀ L h' m' l) → P) : P := by
  obtain ⟨ns, N, z⟩ := C.kit
  exact k ns N fun h' m' F N => .ofKit F N z C.D C.B
end

abbrev Chain : Addr := 235
/-- an object of the class Chain -/
def InO (dx : Addr) (o : Obj) : Prop := o = instObj Chain dx
/-- its dict -/
def DiO (l : Addr) (o : Obj) : Prop := ∃ hsh t n, o = dictOf [⟨hsh, .str "parts" t, .ref l⟩] n
/-- a chain of these parts -/
structure Ch (base h : Heap) (x dx l : Addr) (ps : List (List UInt8)) : Prop where
  bx : base.get? x = none
  bd : base.get? dx = none
  bl : base.get? l = none
  ix : Has h (x, InO dx)
  id : Has h (dx, DiO l)
  il : Has h (l, LB ps)
  ne : ∀ p ∈ ps, p ≠ []
  sz : ps.flatten.length ≤ 1000
theorem get_ne {h : Heap} {a b : Addr} {o p : Obj} (e : h.get? a = some o) (e' : h.get? b = some p) (n : o.cls ≠ p.cls) : a ≠ b := fun q => by subst q; rw [e] at e'; cases e'; exact n rfl
section
variable {base h h' : Heap} {x dx l : Addr} {ps : List (List UInt8)}
theorem Ch.xd (c : Ch base h x dx l ps) : x ≠ dx := by obtain ⟨o, e, rfl⟩ := c.ix; obtain ⟨o', e', _, _, _, rfl⟩ := c.id; exact get_ne e e' (by simp)
theorem Ch.xl (c : Ch base h x dx l ps) : x ≠ l := by obtain ⟨o, e, rfl⟩ := c.ix; obtain ⟨o', e', _, ⟨_, rfl⟩, _⟩ := c.il; exact get_ne e e' (by simp)
theorem Ch.dl (c : Ch base h x dx l ps) : dx ≠ l := by obtain ⟨o, e, _, _, _, rfl⟩ := c.id; obtain ⟨o', e', _, ⟨_, rfl⟩, _⟩ := c.il; exact get_ne e e' (by simp)
theorem Ch.kp {T : List Addr} (c : Ch base h x dx l ps) (k : Kp T h h') (nx : x ∉ T) (nd : dx ∉ T) (nl : l ∉ T) : Ch base h' x dx l ps := ⟨c.bx, c.bd, c.bl, k.has nx c.ix, k.has nd c.id, k.has nl c.il, c.ne, c.sz⟩
theorem Ch.old {h₀ : Heap} {L : Addr} {m : Str → Option Value} {f : List Fact} (C : Cx base h₀ L h m f) (c : Ch base h₀ x dx l ps) : Ch base h x dx l ps := ⟨c.bx, c.bd, c.bl, C.old c.ix, C.old c.id, C.old c.il, c.ne, c.sz⟩
theorem Ch.cnt (c : Ch base h x dx l ps) : ps.length ≤ ps.flatten.length := by
  have := c.ne
  clear c
  induction ps with
  | nil => simp
  | cons p r ih =>
    have h1 := ih fun q hq => this q (.tail _ hq)
    have h2 : p.length ≠ 0 := fun q => this p (.head _) (List.length_eq_zero_iff.mp q)
    simp only [List.length_cons, List.flatten_cons, List.length_append]
    omega
theorem Ch.kp0 (c : Ch base h x dx l ps) (k : Kp [] h h') : Ch base h' x dx l ps := c.kp k (by simp) (by simp) (by simp)
end

theorem inst_of {h : Heap} {x dx l : Addr} (a : Has h (x, InO dx)) (b : Has h (dx, DiO l)) : ∃ hsh t n, InstAt h x (instObj Chain dx) Chain (some (dictOf [⟨hsh, .str "parts" t, .ref l⟩] n)) := by
  obtain ⟨_, e, rfl⟩ := a
  obtain ⟨_, e', hsh, t, n, rfl⟩ := b
  exact ⟨hsh, t, n, ⟨e, rfl, rfl, e'⟩⟩

theorem k_ga (w : World) : plainGet (hd.heap_39 w.params) Chain "parts" = true := by k_is
theorem k_hd (w : World) : hasDictIn (hd.heap_39 w.params) Chain = true := by k_is
theorem k_parts (w : World) : findIn (hd.heap_39 w.params) (.ref Chain) "parts" = some none := by k_is
theorem k_noget (w : World) : noGet (hd.heap_39 w.params) none = true := by k_is
theorem k_sa (w : World) : findIn (hd.heap_39 w.params) (.ref Chain) "__setattr__" = some (some (.builtin "object.__setattr__")) := by k_is
theorem k_po (w : World) : plainOver (hd.heap_39 w.params) Chain = true := by k_is
theorem k_tk (w : World) : takerIn (hd.heap_39 w.params) Chain "parts" = some none := by k_is

section
variable {prog : Program} {w : World} {A : Around} {E : Value → Shared → Prop} {base h₀ h : Heap} {g : Array GenState} {d : Drawn} {tk : Nat} {os : OsState}
variable {L : Addr} {m : Str → Option Value} {l l' : List Fact} {cn : Str} {cs : Scope} {fa : Addr} {cd : Value} {cl : List (Str × Addr)}

theorem get_parts {x dx p : Addr} {expr : Bool} {Q : Value → Shared → Prop} (W : Wd w h) (a : Has h (x, InO dx)) (b : Has h (dx, DiO p)) (q : Q (.ref p) ⟨h, g, d, tk + 1, os⟩) :
    wpAny (model prog w) A (getAttr (.ref x) "parts" expr) Q E ⟨h, g, d, tk, os⟩ := by
  obtain ⟨hsh, t, n, I⟩ := inst_of a b
  exact get_value (s := ⟨h, g, d, tk, os⟩) W.X I (plainGet_of (k_ga w)).1 (findObj_own (k_hd w) (k_parts w) (k_noget w) rfl) rfl q

theorem get_meth {x dx p f : Addr} {name : Str} {pl : Sem Bool} {Q : Value × List Value → Shared → Prop} (W : Wd w h) (a : Has h (x, InO dx)) (b : Has h (dx, DiO p)) (hf : findIn (hd.heap_39 w.params) (.ref Chain) name = some (some (.ref f))) (ht : isFn (hd.heap_39 w.params) (.ref f) = true)
    (hn : (name == ("parts" : Str)) = false) (hg : plainGet (hd.heap_39 w.params) Chain name = true) (q : Q (.ref f, [.ref x]) ⟨h, g, d, tk, os⟩) :
    wpAny (model prog w) A (getMethod (.ref x) name pl) Q E ⟨h, g, d, tk, os⟩ := by
  obtain ⟨hsh, t, n, I⟩ := inst_of a b
  refine method_fn (s := ⟨h, g, d, tk, os⟩) W.X I (plainGet_of hg).1 (plainGet_of hg).2 hf (beq_iff_eq.mp ht) ?_ q
  show (lookIn name (dictOf _ n)).map _ = _
  rw [lookIn_dict]
  have : (Value.str "parts" t).isStr name = false := by
    show (("parts" : Str) == name) = false
    rw [← hn]; exact BEq.comm
  simp [getL, this, DictEntry.refKey]

theorem set_parts {x dx p v : Addr} {Q : Unit → Shared → Prop} (C : Cx base h₀ L h m l) (W : Wd w base) (a : Has h (x, InO dx)) (u : At dx (DiO p) (DiO v) l l')
    (q : ∀ h' tk', Cx base h₀ L h' m l' → Q () ⟨h', g, d, tk', os⟩) :
    wpAny (model prog w) A (setAttr (.ref x) "parts" (.ref v)) Q E ⟨h, g, d, tk, os⟩ := by
  obtain ⟨hsh, t, n, I⟩ := inst_of a (C.get u.mem)
  have Wh := C.W W
  obtain ⟨ns, N, z⟩ := C.kit
  obtain ⟨r₁, r₂, rfl, rfl⟩ := u.split
  have D := C.D
  -- the dict's own place in the ledger
  have key : ∀ (r₁ r₂ : List Fact) (ns : List (Addr × Obj)), Zip ns (r₁ ++ (dx, DiO p) :: r₂) → ∃ n₁ o n₂, ns = n₁ ++ (dx, o) :: n₂ ∧ Zip n₁ r₁ ∧ Zip n₂ r₂ := by
    intro r₁
    induction r₁ with
    | nil =>
      intro r₂ ns z
      cases z with
      | @cons a _ as _ r z => obtain ⟨a1, a2⟩ := a; obtain ⟨r1, r2⟩ := r; cases r1; exact ⟨[], _, _, rfl, .nil, z⟩
    | cons c r ih =>
      intro r₂ ns z
      cases z with
      | cons r z =>
        obtain ⟨n₁, o, n₂, e, z₁, z₂⟩ := ih r₂ _ z
        exact ⟨_ :: n₁, o, n₂, by rw [e]; rfl, .cons r z₁, z₂⟩
  obtain ⟨n₁, o, n₂, rfl, z₁, z₂⟩ := key _ _ _ z
  have eo : o = dictOf [⟨hsh, .str "parts" t, .ref p⟩] n := by
    have := (N (dx, o) (by simp)).1
    have I2 : h.get? dx = some (dictOf [⟨hsh, .str "parts" t, .ref p⟩] n) := I.dict
    rw [I2] at this; exact (Option.some.inj this).symm
  subst eo
  have ap : ∀ q ∈ n₁ ++ n₂, q.1 ≠ dx := by
    intro q hq e
    have e1 := z₁.addrs
    have e2 := z₂.addrs
    simp only [List.map_append, List.map_cons, ← e1, ← e2] at D
    simp [List.nodup_append] at D
    rcases List.mem_append.mp hq with z | z
    · exact (D.2.2 _ _ z).1 e
    · exact D.2.1.1 q.2 (by rw [← e]; exact z)
  refine set_plain (s := ⟨h, g, d, tk, os⟩) Wh.X I (k_sa w) (osa_dict (od' := dictOf [⟨hsh, .str "parts" t, .ref v⟩] n) (es := [⟨hsh, .str "parts" t, .ref v⟩]) (n := n) C.F N Wh.X I rfl (k_po w) (k_tk w) (k_hd w) rfl (fun q hq => ap q (List.mem_append_left _ hq)) (fun q hq => ap q (List.mem_append_right _ hq)) ?_ rfl (by simp) fun h' F' N' => q h' _ (.ofKit F' N' ?_ ?_ C.B))
  · rw [putName_dict]
    rfl
  · exact z₁.append (.cons ⟨rfl, hsh, t, n, rfl⟩ z₂)
  · simpa using D

/-- a call of a def that raises nothing -/
theorem callN {name qual : Str} {params : Arguments} {body : List Stmt} {scope : Scope} {dV kV doc pm cdv ct oc : Value} {an od : Option Addr} {osl : Array (Option Value)} {f : Addr} {args : List Value} {binds : List (Str × Value)} {Q : Value → Shared → Prop}
    (W : Wd w base) (G : base.StaysIn h) (T : List Fact) (hT : ∀ p ∈ T, base.get? p.1 = none ∧ Has h p) (hD : (T.map (·.1)).Nodup) {n : Nat} (am : Amb A (n + 1))
    (ho : (hd.heap_39 w.params).lookup f = some ⟨oc, od, .func (fnOf name qual params body scope dV kV doc pm an cdv ct), osl⟩) (hcd : codeIn (hd.heap_39 w.params) cdv qual = true)
    (hbind : BindsTo ⟨h, g, d, tk, os⟩ (fnOf name qual params body scope dV kV doc pm an cdv ct) ⟨args, []⟩ binds) (hloc : ∀ y ∈ binds, scope.names.lookup y.1 = some .local)
    (k : ∀ h₁ L, Cx base (hideAll h (T.map (·.1))) L h₁ (fun y => binds.reverse.lookup y) T → Amb (A.deeper (envX qual scope L f cdv [])) n →
      wpAny (model prog w) (A.deeper (envX qual scope L f cdv [])) (execs body (envX qual scope L f cdv []))
        (fun fl s' => Q (match fl with | .ret v => v | _ => .none) s') (fun _ _ => False) ⟨h₁, g, d, tk + binds.length, os⟩)
    (hco : scope.isCoroutine = false) (hgen : scope.isGenerator = false) (hk : scope.kind = .function)
    (hcell : ∀ x ∈ scope.names, x.2 ≠ .cell) : wpAny (model prog w) A (call (.ref f) args) Q E ⟨h, g, d, tk, os⟩ :=
  wpAny_call (enter W G T hT hD (by have := am.d; omega) ho hcd hbind hloc (fun h₁ L C => wpAny_mono (k h₁ L C (am.deeper _)) (fun _ _ x => x) fun _ _ x => x.elim) hco hgen hk hcell)

theorem in_W {h : Heap} {g : Array GenState} {d : Drawn} {tk : Nat} {os : OsState} (W : Wd w h) {P : Prop} (q : P) : (hd.heap_39 w.params).In (⟨h, g, d, tk, os⟩ : Shared).heap ∧ P := ⟨W.X, q⟩
end
-- Lay4
section
variable {prog : Program} {w : World} {A : Around} {E : Value → Shared → Prop} {base h₀ h : Heap} {g : Array GenState} {d : Drawn} {tk : Nat} {os : OsState} {Q : Value → Shared → Prop} {a b : Int} {t u : Tok}
variable {L : Addr} {m : Str → Option Value} {l l' : List Fact} {env : Env}
theorem c_int {i : Int} {k pos} (q : Q (.int i tk) ⟨h, g, d, tk + 1, os⟩) : wpAny (model prog w) A (eval (.Constant (.int i) k pos) env) Q E ⟨h, g, d, tk, os⟩ := wpAny_Constant_int q
theorem c_bool {i : Bool} {k pos} (q : Q (.bool i) ⟨h, g, d, tk, os⟩) : wpAny (model prog w) A (eval (.Constant (.bool i) k pos) env) Q E ⟨h, g, d, tk, os⟩ := wpAny_Constant_bool q
theorem c_none {k pos} (q : Q .none ⟨h, g, d, tk, os⟩) : wpAny (model prog w) A (eval (.Constant .none k pos) env) Q E ⟨h, g, d, tk, os⟩ := wpAny_Constant_none q
theorem c_bytes {x k pos} (q : Q (.bytes x.toArray tk) ⟨h, g, d, tk + 1, os⟩) : wpAny (model prog w) A (eval (.Constant (.bytes x) k pos) env) Q E ⟨h, g, d, tk, os⟩ := Constant_bytes q
theorem i_add (q : Q (.int (a + b) tk) ⟨h, g, d, tk + 1, os⟩) : wpAny (model prog w) A (binaryOp .Add (.int a t) (.int b u)) Q E ⟨h, g, d, tk, os⟩ := add_int q
theorem i_iadd (q : Q (.int (a + b) tk) ⟨h, g, d, tk + 1, os⟩) : wpAny (model prog w) A (inplaceOp .Add (.int a t) (.int b u)) Q E ⟨h, g, d, tk, os⟩ := iadd_int q
theorem i_sub (q : Q (.int (a - b) tk) ⟨h, g, d, tk + 1, os⟩) : wpAny (model prog w) A (binaryOp .Sub (.int a t) (.int b u)) Q E ⟨h, g, d, tk, os⟩ := sub_int q
theorem i_isub (q : Q (.int (a - b) tk) ⟨h, g, d, tk + 1, os⟩) : wpAny (model prog w) A (inplaceOp .Sub (.int a t) (.int b u)) Q E ⟨h, g, d, tk, os⟩ := isub_int q
theorem i_mul (hm : -(2 ^ 64) < b ∧ b < 2 ^ 64) (q : Q (.int (a * b) tk) ⟨h, g, d, tk + 1, os⟩) : wpAny (model prog w) A (binaryOp .Mult (.int a t) (.int b u)) Q E ⟨h, g, d, tk, os⟩ := mul_int q (IntMulOk.of_right (intBits_le_64 hm.1 hm.2))
theorem i_mod (hb : b ≠ 0) (q : Q (.int (a.fmod b) tk) ⟨h, g, d, tk + 1, os⟩) : wpAny (model prog w) A (binaryOp .Mod (.int a t) (.int b u)) Q E ⟨h, g, d, tk, os⟩ := mod_int' hb q
theorem i_div (hb : b ≠ 0) (hs : b.natAbs < 1073741824) (q : Q (.int (a.fdiv b) tk) ⟨h, g, d, tk + 1, os⟩) : wpAny (model prog w) A (binaryOp .FloorDiv (.int a t) (.int b u)) Q E ⟨h, g, d, tk, os⟩ := floordiv_int hb q (Or.inl (PyProof.noPylong_small hs))
theorem i_ofB {c : Bool} (q : Q (.int (if c then 1 else 0) tk) ⟨h, g, d, tk + 1, os⟩) : wpAny (model prog w) A (call (.type "int") [.bool c]) Q E ⟨h, g, d, tk, os⟩ := call_int_bool q
theorem i_neg (q : Q (.int (-a) tk) ⟨h, g, d, tk + 1, os⟩) : wpAny (model prog w) A (unaryOp .USub (.int a t)) Q E ⟨h, g, d, tk, os⟩ := neg_int q

theorem i_eq (q : Q (.bool (decide (a = b))) ⟨h, g, d, tk, os⟩) : wpAny (model prog w) A (compareOp .Eq (.int a t) (.int b u)) Q E ⟨h, g, d, tk, os⟩ := eq_int q
theorem i_ne (q : Q (.bool (decide (a ≠ b))) ⟨h, g, d, tk, os⟩) : wpAny (model prog w) A (compareOp .NotEq (.int a t) (.int b u)) Q E ⟨h, g, d, tk, os⟩ := ne_int (by
  rw [show (a != b) = decide (a ≠ b) by rw [Bool.eq_iff_iff]; simp]; exact q)
theorem setC {x : Addr} {vs : List Value} {k : Int} {v : Value} {Q : Unit → Shared → Prop} (C : Cx base h₀ L h m l) (U : At x (LsO vs) (LsO (vs.set k.toNat v)) l l') (h0 : 0 ≤ k) (h1 : k < vs.length) (hz : vs.length ≤ 1000000)
    (q : ∀ h', Cx base h₀ L h' m l' → Q () ⟨h', g, d, tk, os⟩) : wpAny (model prog w) A (setItem (.ref x) (.int k u) v) Q E ⟨h, g, d, tk, os⟩ :=
  set_L (C.get U.mem) h0 h1 hz fun h' x k => q h' (C.at U k x)
end
theorem ifD {p : Prop} [Decidable p] {X Y : Prop} (a : p → X) (b : ¬p → Y) : if decide p = true then X else Y := by
  by_cases h : p
  · rw [if_pos (decide_eq_true h)]; exact a h
  · rw [if_neg (by simpa using h)]; exact b h
theorem ifT {p : Prop} [Decidable p] {X Y : Prop} (h : p) (a : X) : if decide p = true then X else Y := by rw [if_pos (decide_eq_true h)]; exact a
theorem ifF {p : Prop} [Decidable p] {X Y : Prop} (h : ¬p) (b : Y) : if decide p = true then X else Y := by rw [if_neg (by simpa using h)]; exact b
theorem ifTrue {X Y : Prop} (a : X) : if true = true then X else Y := by rw [if_pos rfl]; exact a
theorem ifFalse {X Y : Prop} (b : Y) : if false = true then X else Y := by rw [if_neg Bool.false_ne_true]; exact b
theorem ifNT {p : Prop} [Decidable p] {X Y : Prop} (h : ¬p) (a : X) : if (!decide p) = true then X else Y := by rw [if_pos (by simpa using h)]; exact a
theorem ifNF {p : Prop} [Decidable p] {X Y : Prop} (h : p) (b : Y) : if (!decide p) = true then X else Y := by rw [if_neg (by simpa using h)]; exact b
theorem ifNTrue {X Y : Prop} (a : Y) : if (!true) = true then X else Y := a
theorem ifNFalse {X Y : Prop} (b : X) : if (!false) = true then X else Y := b
-- Lay5
/-- an iterator at work -/
structure Itr (prog : Program) (w : World) (A : Around) (I : Addr) (n : Nat) (P : Nat → Value → Prop) (φ : Nat → Obj → Prop) (S : Heap → Prop) : Prop where
  item : ∀ i h g d tk os (Q : Option Value → Shared → Prop) (E : Value → Shared → Prop), i < n → Has h (I, φ i) → S h → (∀ v h' tk', P i v → Has h' (I, φ (i + 1)) → Kp [I] h h' → Q (some v) ⟨h', g, d, tk', os⟩) → wpAny (model prog w) A (pyNext (.ref I)) Q E ⟨h, g, d, tk, os⟩
  done : ∀ h g d tk os (Q : Option Value → Shared → Prop) (E : Value → Shared → Prop), Has h (I, φ n) → S h → (∀ h' tk', Kp [I] h h' → Q none ⟨h', g, d, tk', os⟩) → wpAny (model prog w) A (pyNext (.ref I)) Q E ⟨h, g, d, tk, os⟩
  self : ∀ h g d tk os (Q : Value → Shared → Prop) (E : Value → Shared → Prop), Has h (I, φ 0) → Q (.ref I) ⟨h, g, d, tk, os⟩ → wpAny (model prog w) A (pyIter (.ref I)) Q E ⟨h, g, d, tk, os⟩

/-- a turn's end -/
inductive Turn (g : Array GenState) (d : Drawn) (os : OsState) (base h₀ : Heap) (L : Addr) (p : Fact) (J : (Str → Option Value) → List Fact → Prop) (s₂ : Shared) : Prop
  | mk (h₂ : Heap) (tk₂ : Nat) (m₂ : Str → Option Value) (l₂ : List Fact) (e : s₂ = ⟨h₂, g, d, tk₂, os⟩) (C : Cx base h₀ L h₂ m₂ (p :: l₂)) (j : J m₂ l₂)
inductive TurnW (g : Array GenState) (d : Drawn) (os : OsState) (base h₀ : Heap) (L : Addr) (n : Nat) (J : Nat → (Str → Option Value) → List Fact → Prop) (s₂ : Shared) : Prop
  | mk (k : Nat) (h₂ : Heap) (tk₂ : Nat) (m₂ : Str → Option Value) (l₂ : List Fact) (lt : k < n) (e : s₂ = ⟨h₂, g, d, tk₂, os⟩) (C : Cx base h₀ L h₂ m₂ l₂) (j : J k m₂ l₂)
def LiO (a : Addr) (i : Nat) (o : Obj) : Prop := o.cls = .type "list_iterator" ∧ o.data = .fields #[.ref a, .int i 0]
def RiO (x left : Int) (o : Obj) : Prop := o = { cls := .type "range_iterator", dict := none, data := .fields #[rawInt x, rawInt left, rawInt 1], slots := #[] }
/-- a range -/
def RgO (a b : Int) (o : Obj) : Prop := ∃ t u v, o = { cls := .type "range", dict := none, data := .fields #[.int a t, .int b u, .int 1 v], slots := #[] }

theorem kp_same {I : Addr} {h h' : Heap} (k : Heap.SameBut I h h') : Kp [I] h h' := fun b _ n e => (k.2 b (by simpa using n)).trans e
theorem kp_ext {I : Addr} {h h' : Heap} (k : Heap.ExtBut I h h') : Kp [I] h h' := fun b o n e => k b o (by simpa using n) e

theorem itr_list {prog : Program} {w : World} {A : Around} (hh : A.handled = none) (I a : Addr) (vs : List Value) : Itr prog w A I vs.length (fun i v => vs[i]? = some v) (LiO a) (fun h => Has h (a, LsO vs)) where
  item := fun i h g d tk os Q E hi st S k => by
    obtain ⟨o, e, c, dt⟩ := st
    refine wpAny_pyNext_list_item (s := ⟨h, g, d, tk, os⟩) (x := vs[i]) ⟨o, e, c, dt⟩ (has_list S) (by simp [hi]) fun h' hit hs => ?_
    obtain ⟨o', e', c', d'⟩ := hit
    exact k _ _ _ (by simp [hi]) ⟨o', e', c', d'⟩ (kp_same hs)
  done := fun h g d tk os Q E st S k => by
    obtain ⟨o, e, c, dt⟩ := st
    exact wpAny_pyNext_list_end (s := ⟨h, g, d, tk, os⟩) hh ⟨o, e, c, dt⟩ (has_list S) (by simp) fun h' he => k _ _ (kp_ext he)
  self := fun h g d tk os Q E st q => by
    obtain ⟨o, e, c, dt⟩ := st
    exact wpAny_pyIter_listiter (s := ⟨h, g, d, tk, os⟩) (i := 0) ⟨o, e, c, dt⟩ q

theorem itr_range {prog : Program} {w : World} {A : Around} (hh : A.handled = none) (I : Addr) (a : Int) (n : Nat) : Itr prog w A I n (fun i v => ∃ t, v = .int (a + i) t) (fun i => RiO (a + i) (n - i)) (fun _ => True) where
  item := fun i h g d tk os Q E hi st S k => by
    obtain ⟨o, e, rfl⟩ := st
    refine wpAny_pyNext_range_item (s := ⟨h, g, d, tk, os⟩) e (by omega) fun h' hit hs => k _ _ _ ⟨_, rfl⟩ ⟨_, hit, ?_⟩ (kp_same hs)
    have e1 : a + ((i + 1 : Nat) : Int) = a + i + 1 := by omega
    have e2 : (n : Int) - ((i + 1 : Nat) : Int) = n - i - 1 := by omega
    show _ = _
    rw [e1, e2]
  done := fun h g d tk os Q E st S k => by
    obtain ⟨o, e, rfl⟩ := st
    exact wpAny_pyNext_range_end (s := ⟨h, g, d, tk, os⟩) hh e (by omega) fun h' he => k _ _ (kp_ext he)
  self := fun h g d tk os Q E st q => by
    obtain ⟨o, e, rfl⟩ := st
    exact wpAny_pyIter_rangeiter (s := ⟨h, g, d, tk, os⟩) e q

section
variable {prog : Program} {w : World} {A : Around} {E : Value → Shared → Prop} {base h₀ h : Heap} {g : Array GenState} {d : Drawn} {tk : Nat} {os : OsState}
variable {L : Addr} {m : Str → Option Value} {l l' : List Fact}

theorem none_of_push {h : Heap} {o : Obj} {φ : Obj → Prop} (C : Cx base h₀ L h m l) (f : φ o) (hf : o.isFreed = false := by rfl) : Cx base h₀ L (h.push o) m ((h.objs.size, φ) :: l) :=
  C.add (C.kp fun _ _ _ e => Heap.get?_push_of_some _ e) rfl (Heap.get?_none_of_le (Nat.le_refl _)) ⟨_, Heap.get?_push_size _ hf, f⟩

theorem iter_L {a : Addr} {vs : List Value} {Q : Value → Shared → Prop} (C : Cx base h₀ L h m l) (x : Has h (a, LsO vs)) (hh : A.handled = none)
    (q : ∀ I h', Itr prog w A I vs.length (fun i v => vs[i]? = some v) (LiO a) (fun h => Has h (a, LsO vs)) → Kp [] h h' → Cx base h₀ L h' m ((I, LiO a 0) :: l) → Q (.ref I) ⟨h', g, d, tk, os⟩) :
    wpAny (model prog w) A (pyIter (.ref a)) Q E ⟨h, g, d, tk, os⟩ :=
  wpAny_pyIter_list (s := ⟨h, g, d, tk, os⟩) (has_list x) (q _ _ (itr_list hh _ _ _) (fun _ _ _ e => Heap.get?_push_of_some _ e) (none_of_push C ⟨rfl, rfl⟩))

theorem range1 {n : Int} {t : Tok} {Q : Value → Shared → Prop} (C : Cx base h₀ L h m l)
    (q : ∀ r h' tk', Cx base h₀ L h' m ((r, RgO 0 n) :: l) → Q (.ref r) ⟨h', g, d, tk', os⟩) : wpAny (model prog w) A (call (.type "range") [.int n t]) Q E ⟨h, g, d, tk, os⟩ :=
  call_range_1 (s := ⟨h, g, d, tk, os⟩) (q _ _ _ (none_of_push C ⟨_, _, _, rfl⟩))
theorem range2 {a b : Int} {t u : Tok} {Q : Value → Shared → Prop} (C : Cx base h₀ L h m l)
    (q : ∀ r h' tk', Cx base h₀ L h' m ((r, RgO a b) :: l) → Q (.ref r) ⟨h', g, d, tk', os⟩) : wpAny (model prog w) A (call (.type "range") [.int a t, .int b u]) Q E ⟨h, g, d, tk, os⟩ :=
  call_range_2 (s := ⟨h, g, d, tk, os⟩) (q _ _ _ (none_of_push C ⟨_, _, _, rfl⟩))
theorem iter_R {r : Addr} {a b : Int} {Q : Value → Shared → Prop} (C : Cx base h₀ L h m l) (x : Has h (r, RgO a b)) (hh : A.handled = none) (h1 : -(2 ^ 60) ≤ a) (h2 : a < 2 ^ 60) (h3 : -(2 ^ 60) ≤ b) (h4 : b < 2 ^ 60)
    (q : ∀ I h', Itr prog w A I (b - a).toNat (fun i v => ∃ t, v = .int (a + i) t) (fun i => RiO (a + i) ((b - a).toNat - i)) (fun _ => True) → Cx base h₀ L h' m ((I, RiO (a + (0 : Nat)) ((b - a).toNat - (0 : Nat))) :: l) → Q (.ref I) ⟨h', g, d, tk, os⟩) :
    wpAny (model prog w) A (pyIter (.ref r)) Q E ⟨h, g, d, tk, os⟩ := by
  obtain ⟨o, e, t, u, v, rfl⟩ := x
  refine wpAny_pyIter_range (s := ⟨h, g, d, tk, os⟩) e (small_one (by omega) (by omega) (by omega) (by omega)) (q _ _ (itr_range hh _ _ _) (none_of_push C ?_))
  have hsz : Builtin.Range.rangeSize a b 1 = ((b - a).toNat : Int) := by rw [rangeSize_one]; split <;> omega
  rw [hsz]
  simp [RiO]

/-- for x in ..: body, by what holds between the turns -/
theorem forI {env : Env} {x : Str} {px : Pos} {body : List Stmt} {I : Addr} {n : Nat} {P : Nat → Value → Prop} {φ : Nat → Obj → Prop} {S : Heap → Prop} {R : Result → Shared → Prop}
    (T : Itr prog w A I n P φ S) (J : Nat → (Str → Option Value) → List Fact → Prop) (C : Cx base h₀ L h m ((I, φ 0) :: l)) (h0 : J 0 m l)
    (hS : ∀ i m l h', J i m l → Cx base h₀ L h' m ((I, φ i) :: l) → S h')
    (turn : ∀ i v m₁ l₁ h₁ tk₁, i < n → P i v → J i m₁ l₁ → Cx base h₀ L h₁ (upd m₁ x v) ((I, φ (i + 1)) :: l₁) →
      ∀ K : Flow → Shared → Prop, (∀ s₂, Turn g d os base h₀ L (I, φ (i + 1)) (J (i + 1)) s₂ → K .next s₂) → (∀ v s₂, R (.ok (.ret v)) s₂ → K (.ret v) s₂) →
      wpAny (model prog w) A (execs body env) K (fun _ _ => False) ⟨h₁, g, d, tk₁, os⟩)
    (done : ∀ h' tk' m' l', J n m' l' → Cx base h₀ L h' m' l' → R (.ok .next) ⟨h', g, d, tk', os⟩)
    (hk : env.scope.kind = .function) (hx : env.kindOf x = some .local) (hL : env.locals = L) :
    codeAny (model prog w) A (.forLoop (.Name x px) (.ref I) body [] env) R ⟨h, g, d, tk, os⟩ := by
  refine codeAny_forLoop (fun k s' => ∃ h' tk' m' l' i, s' = ⟨h', g, d, tk', os⟩ ∧ Cx base h₀ L h' m' ((I, φ i) :: l') ∧ J i m' l' ∧ i ≤ n ∧ k = n + 1 - i) ?_ (n + 1) ⟨h, tk, m, l, 0, rfl, C, h0, Nat.zero_le _, rfl⟩
  rintro k s' ⟨h', tk', m', l', i, rfl, C', j, hi, rfl⟩
  by_cases hlt : i < n
  · refine T.item i _ _ _ _ _ _ _ hlt (C'.get (List.Mem.head _)) (hS _ _ _ _ j C') fun v h₂ tk₂ p x₂ k₂ => ?_
    have C₂ := C'.at (At.head (ψ := φ (i + 1))) k₂ x₂
    refine wpAny_assign_Name (stL C₂ (fun h₃ C₃ => ?_) hk hx hL)
    refine wpAny_mono (turn i v m' l' h₃ _ hlt p j C₃ _ ?_ ?_) (fun f s₄ z => z) fun _ _ z => z.elim
    · rintro s₄ ⟨h₅, tk₅, m₅, l₅, e, C₅, j₅⟩
      exact ⟨n + 1 - (i + 1), by omega, h₅, tk₅, m₅, l₅, i + 1, e, C₅, j₅, hlt, rfl⟩
    · exact fun v s z => z
  · have hin : i = n := by omega
    subst hin
    refine T.done _ _ _ _ _ _ _ (C'.get (List.Mem.head _)) (hS _ _ _ _ j C') fun h₂ tk₂ k₂ => wpAny_execs_nil (done _ _ _ _ j ?_)
    have D := C'.D
    simp only [List.map_cons, List.nodup_cons] at D
    have hI := (C'.N _ (List.Mem.head _))
    refine ⟨⟨ns_kp C'.F.ns k₂ (by simpa using Ne.symm hI.1), fun b o e => k₂ b o (fun q => ?_) (C'.F.keep b o e), C'.F.above⟩, fun p hp => ?_, D.2, C'.B⟩
    · rw [List.mem_singleton.mp q, hI.2.1] at e; cases e
    · have := C'.N p (.tail _ hp)
      exact ⟨this.1, this.2.1, k₂.has (fun q => D.1 (by rw [← List.mem_singleton.mp q]; exact List.mem_map_of_mem hp)) this.2.2⟩

/-- while test: body, by what holds between the turns and a number that falls -/
theorem whileC {env : Env} {test : PySem.Expr} {body : List Stmt} {pos : Pos} {Q : Flow → Shared → Prop} (J : Nat → (Str → Option Value) → List Fact → Prop) (C : Cx base h₀ L h m l) {n : Nat} (h0 : J n m l)
    (turn : ∀ n m₁ l₁ h₁ tk₁, J n m₁ l₁ → Cx base h₀ L h₁ m₁ l₁ →
      wpAny (model prog w) A (isTrue test env (eval test env)) (fun b s₂ => if b = true then ∀ K : Flow → Shared → Prop, (∀ s₃, TurnW g d os base h₀ L n J s₃ → K .next s₃) → (∀ v s₃, Q (.ret v) s₃ → K (.ret v) s₃) → wpAny (model prog w) A (execs body env) K (fun _ _ => False) s₂ else Q .next s₂) (fun _ _ => False) ⟨h₁, g, d, tk₁, os⟩) :
    wpAny (model prog w) A (exec (.While test body [] pos) env) Q E ⟨h, g, d, tk, os⟩ := by
  refine wpAny_While (codeAny_whileLoop (fun k s' => ∃ h' tk' m' l', s' = ⟨h', g, d, tk', os⟩ ∧ Cx base h₀ L h' m' l' ∧ J k m' l') ?_ n ⟨h, tk, m, l, rfl, C, h0⟩)
  rintro k s' ⟨h', tk', m', l', rfl, C', j⟩
  refine wpAny_mono (turn k m' l' h' tk' j C') (fun b s₂ z => ?_) fun _ _ z => z.elim
  cases b with
  | false => exact wpAny_execs_nil z
  | true =>
    refine wpAny_mono (z _ ?_ ?_) (fun f s₃ y => y) fun _ _ z => z.elim
    · rintro s₃ ⟨i, h₅, tk₅, m₅, l₅, lt, e, C₅, j₅⟩
      exact ⟨i, lt, h₅, tk₅, m₅, l₅, e, C₅, j₅⟩
    · exact fun v s y => y
end
-- Lay6
/-- a frame laid aside: its locals -/
def FrO (m : Str → Option Value) (o : Obj) : Prop := ∃ es ep, o.data = .dict es ep ∧ StrKeys es ∧ ∀ name, nsFind es name = m name
theorem fr_has {h : Heap} {L : Addr} {m : Str → Option Value} (x : h.Ns L m) : Has h (L, FrO m) := let ⟨o, es, ep, e, r⟩ := x; ⟨o, e, es, ep, r⟩
theorem has_fr {h : Heap} {L : Addr} {m : Str → Option Value} (x : Has h (L, FrO m)) : h.Ns L m := let ⟨o, e, es, ep, r⟩ := x; ⟨o, es, ep, e, r⟩
section
variable {base h₀ h h' : Heap} {L Lc : Addr} {m m' : Str → Option Value} {l l' : List Fact}
theorem Cx.push (C : Cx base h₀ L h m l) (k : Kp [] h h') (n : h.get? Lc = none) (ns : h'.Ns Lc m') (ab : h₀.objs.size ≤ Lc) : Cx base h₀ Lc h' m' ((L, FrO m) :: l) := by
  have C' := C.kp k
  have old : ∀ p : Fact, Has h p → p.1 ≠ Lc := fun p ⟨o, e, _⟩ q => by rw [q, n] at e; cases e
  refine ⟨⟨ns, C'.F.keep, ab⟩, fun p hp => ?_, ?_, C.B⟩
  · rcases List.mem_cons.mp hp with rfl | hp
    · exact ⟨old _ (fr_has C.F.ns), Heap.get?_none_of_le C.F.above, fr_has C'.F.ns⟩
    · exact ⟨old p (C.N p hp).2.2, (C.N p hp).2.1, (C'.N p hp).2.2⟩
  · simp only [List.map_cons, List.nodup_cons]
    refine ⟨fun q => ?_, C.D⟩
    obtain ⟨p, hp, e⟩ := List.mem_map.mp q
    exact (C.N p hp).1 e
theorem Cx.pop (C : Cx base h₀ Lc h m' ((L, FrO m) :: l)) (ab : h₀.objs.size ≤ L) (hs : Heap.SameBut Lc h h') : Cx base h₀ L h' m l := by
  have D := C.D
  simp only [List.map_cons, List.nodup_cons] at D
  have keep : ∀ p : Fact, p.1 ≠ Lc → Has h p → Has h' p := fun p n ⟨o, e, f⟩ => ⟨o, (hs.2 _ n).trans e, f⟩
  have hL := C.N _ (List.Mem.head _)
  refine ⟨⟨has_fr (keep (L, FrO m) hL.1 hL.2.2), fun b o e => (hs.2 b (Nat.ne_of_lt (Nat.lt_of_lt_of_le (Heap.lt_size e) C.F.above))).trans (C.F.keep b o e), ab⟩, fun p hp => ?_, D.2, C.B⟩
  have := C.N p (.tail _ hp)
  exact ⟨fun q => D.1 (by rw [← q]; exact List.mem_map_of_mem hp), this.2.1, keep p this.1 this.2.2⟩
end

section
variable {prog : Program} {w : World} {A : Around} {E : Value → Shared → Prop} {base h₀ h : Heap} {g : Array GenState} {d : Drawn} {tk : Nat} {os : OsState}
variable {L : Addr} {m : Str → Option Value} {l l' : List Fact} {env : Env}

inductive TurnC (g : Array GenState) (d : Drawn) (os : OsState) (base h₀ : Heap) (L : Addr) (p q r : Fact) (J : List Fact → Prop) (s₂ : Shared) : Prop
  | mk (h₂ : Heap) (tk₂ : Nat) (m₂ : Str → Option Value) (l₂ : List Fact) (e : s₂ = ⟨h₂, g, d, tk₂, os⟩) (C : Cx base h₀ L h₂ m₂ (p :: q :: r :: l₂)) (j : J l₂)
def CompAt (prog : Program) (w : World) (A : Around) (env : Env) (elt : PySem.Expr) (x : Str) (px : Pos) (iter : PySem.Expr) (ifs : List PySem.Expr) (scope : Scope) (cl : List (Str × Addr)) (pos : Pos) (Q : Value → Shared → Prop) (E : Value → Shared → Prop) (it : Value) (s₂ : Shared) : Prop :=
  wpAny (model prog w) A (newList []) (fun acc s₃ => wpAny (model prog w) A (newFunctionEnv scope env.globals cl [] env.qual none .none (some env)) (fun cenv s₄ =>
    codeAny (model prog w) A (.compStart (.ListComp elt [⟨.Name x px, iter, ifs, 0⟩] scope pos) 0 it acc { cenv with scope := relabel scope env }) (compPost (model prog w) A E none Q acc cenv.locals) s₄) E s₃) E s₂

theorem compE {s : Shared} {elt iter : PySem.Expr} {x : Str} {px : Pos} {ifs : List PySem.Expr} {scope : Scope} {cl : List (Str × Addr)} {pos : Pos} {Q : Value → Shared → Prop}
    (hclos : closureFor scope env = pure cl)
    (h : wpAny (model prog w) A (eval iter env) (fun xv s₁ => wpAny (model prog w) A (pyIter xv) (fun it s₂ => CompAt prog w A env elt x px iter ifs scope cl pos Q E it s₂) E s₁) E s)
    (hkind : scope.kind = .function) (hnames : ∀ y ∈ scope.names, y.2 = .local → scope.names.lookup y.1 = some .local)
    (hs : ∀ x, foldedSetIterable iter env x = pure x) :
    wpAny (model prog w) A (eval (.ListComp elt [⟨.Name x px, iter, ifs, 0⟩] scope pos) env) Q E s := by
  rw [eval_ListComp]
  exact wpAny_comprehension_free (use := none) rfl hs hclos hkind hnames h

theorem ifs0 {M : Model} {cenv : Env} {Q : Bool → Shared → Prop} {s : Shared} (q : Q true s) :
    wpAny M A (forIn ([] : List PySem.Expr) true fun c r => if r = true then do let ok ← isTrue c cenv (eval c cenv); pure (ForInStep.yield ok) else pure (ForInStep.yield r)) Q E s := wpAny_pure q
theorem ifs1 {M : Model} {c : PySem.Expr} {cenv : Env} {Q : Bool → Shared → Prop} {s : Shared} (q : wpAny M A (isTrue c cenv (eval c cenv)) Q E s) :
    wpAny M A (forIn [c] true fun c r => if r = true then do let ok ← isTrue c cenv (eval c cenv); pure (ForInStep.yield ok) else pure (ForInStep.yield r)) Q E s := by
  simp only [List.forIn_cons, List.forIn_nil, if_true]
  refine wpAny_bind (wpAny_bind (wpAny_mono q (fun b s₁ z => ?_) fun _ _ z => z))
  exact wpAny_pure (wpAny_pure z)

theorem compL {elt iter : PySem.Expr} {x : Str} {px : Pos} {ifs : List PySem.Expr} {scope : Scope} {cl : List (Str × Addr)} {pos : Pos} {Q : Value → Shared → Prop}
    {I : Addr} {n : Nat} {P : Nat → Value → Prop} {φ : Nat → Obj → Prop} {S : Heap → Prop}
    (T : Itr prog w A I n P φ S) (J : Nat → List Value → List Fact → Prop) (C : Cx base h₀ L h m ((I, φ 0) :: l)) (h0 : J 0 [] l) (hz : ∀ i ys l, J i ys l → ys.length ≤ 1000000)
    (hS : ∀ i ys D F Lc m' l h', J i ys l → Cx base h₀ Lc h' m' ((I, φ i) :: (D, LsO ys) :: (L, FrO F) :: l) → S h')
    (turn : ∀ i v ys l₁ Lc h₁ tk₁ m₁ D, i < n → P i v → J i ys l₁ → m₁ x = some v → Cx base h₀ Lc h₁ m₁ ((I, φ (i + 1)) :: (D, LsO ys) :: (L, FrO m) :: l₁) →
      wpAny (model prog w) A (forIn ifs true fun c r => if r = true then do let ok ← isTrue c (compEnvC scope cl Lc env) (eval c (compEnvC scope cl Lc env)); pure (ForInStep.yield ok) else pure (ForInStep.yield r)) (fun ok s₂ =>
        if ok = true then wpAny (model prog w) A (eval elt (compEnvC scope cl Lc env)) (fun y s₃ => TurnC g d os base h₀ Lc (I, φ (i + 1)) (D, LsO ys) (L, FrO m) (J (i + 1) (ys ++ [y])) s₃) (fun _ _ => False) s₂
        else TurnC g d os base h₀ Lc (I, φ (i + 1)) (D, LsO ys) (L, FrO m) (J (i + 1) ys) s₂) (fun _ _ => False) ⟨h₁, g, d, tk₁, os⟩)
    (done : ∀ h' tk' D ys l', J n ys l' → Cx base h₀ L h' m ((D, LsO ys) :: l') → Q (.ref D) ⟨h', g, d, tk', os⟩)
    (hcell : ∀ y ∈ scope.names, y.2 ≠ .cell) (hkind : scope.kind = .function) (hx : scope.names.lookup x = some .local) :
    CompAt prog w A env elt x px iter ifs scope cl pos Q E (.ref I) ⟨h, g, d, tk, os⟩ := by
  have CI := C.N _ (List.Mem.head _)
  refine newList_L C (by simp) fun D h₁ C₁ => ?_
  refine wpAny_newFunctionEnv (s := ⟨h₁, g, d, tk, os⟩) hcell (by intro y hy; simp at hy) (fun h₂ hns hsb => ?_) hkind
  -- the block's own frame
  have kp : Kp [] h₁ h₂ := fun b o _ e => hsb.extBut b o (Nat.ne_of_lt (Heap.lt_size e)) (Heap.get?_push_of_some _ e)
  have C₂ := C₁.push (Lc := h₁.objs.size) kp (Heap.get?_none_of_le (Nat.le_refl _)) hns (Nat.le_trans C₁.F.above (Nat.le_of_lt C₁.F.ns.lt))
  have C₃ : Cx base h₀ h₁.objs.size h₂ (fun x => ([] : List (Str × Value)).reverse.lookup x) ((I, φ 0) :: (D, LsO []) :: (L, FrO m) :: l) :=
    C₂.sub (by intro p hp; simp only [List.mem_cons] at hp ⊢; grind) (by have := C₂.D; simp only [List.map_cons, List.nodup_cons, List.mem_cons] at this ⊢; grind)
  clear C₂ kp hsb
  generalize h₁.objs.size = Lc at *
  have loop : codeAny (model prog w) A (.compLoop (.ListComp elt [⟨.Name x px, iter, ifs, 0⟩] scope pos) 0 (.ref I) (.ref D) (compEnvC scope cl Lc env)) (compPost (model prog w) A E none Q (.ref D) Lc) ⟨h₂, g, d, tk + ([] : List (Str × Value)).length, os⟩ := by
    refine codeAny_compLoop_tests (fun k s' => ∃ h' tk' m' l' i ys, s' = ⟨h', g, d, tk', os⟩ ∧ Cx base h₀ Lc h' m' ((I, φ i) :: (D, LsO ys) :: (L, FrO m) :: l') ∧ J i ys l' ∧ i ≤ n ∧ k = n + 1 - i) ?_ (n + 1) ⟨h₂, _, _, l, 0, [], rfl, C₃, h0, Nat.zero_le _, rfl⟩
    rintro k s' ⟨h', tk', m', l', i, ys, rfl, C', j, hi, rfl⟩
    by_cases hlt : i < n
    · refine T.item i _ _ _ _ _ _ _ hlt (C'.get (List.Mem.head _)) (hS _ _ _ _ _ _ _ _ j C') fun v h₃ tk₃ p x₃ k₃ => ?_
      have C₄ := C'.at (At.head (ψ := φ (i + 1))) k₃ x₃
      refine wpAny_assign_Name (stL (env := compEnvC scope cl Lc env) C₄ (fun h₄ C₅ => ?_) hkind (lookup_relabel_local hx) rfl)
      refine wpAny_mono (turn i v ys l' Lc h₄ _ _ D hlt p j (if_pos rfl) C₅) (fun ok s₅ z => ?_) fun _ _ z => z.elim
      cases ok with
      | false => obtain ⟨h₅, tk₅, m₅, l₅, e, C₆, j₆⟩ := z; exact ⟨n + 1 - (i + 1), by omega, h₅, tk₅, m₅, l₅, i + 1, ys, e, C₆, j₆, hlt, rfl⟩
      | true =>
        refine wpAny_mono z (fun y s₆ u => ?_) fun _ _ z => z.elim
        obtain ⟨h₅, tk₅, m₅, l₅, rfl, C₆, j₆⟩ := u
        refine append_L (C₆.get (.tail _ (.head _))) (hz _ _ _ j) fun h₇ x₇ k₇ => ?_
        exact ⟨n + 1 - (i + 1), by omega, h₇, tk₅, m₅, l₅, i + 1, ys ++ [y], rfl, C₆.at (At.tail At.head) k₇ x₇, j₆, hlt, rfl⟩
    · have hin : i = n := by omega
      subst hin
      refine T.done _ _ _ _ _ _ _ (C'.get (List.Mem.head _)) (hS _ _ _ _ _ _ _ _ j C') fun h₃ tk₃ k₃ => ?_
      have DD := C'.D
      simp only [List.map_cons, List.nodup_cons] at DD
      have hI := (C'.N _ (List.Mem.head _))
      have C₄ : Cx base h₀ Lc h₃ m' ((D, LsO ys) :: (L, FrO m) :: l') := by
        refine ⟨⟨ns_kp C'.F.ns k₃ (by simpa using Ne.symm hI.1), fun b o e => k₃ b o (fun q => ?_) (C'.F.keep b o e), C'.F.above⟩, fun p hp => ?_, by simp only [List.map_cons, List.nodup_cons]; exact DD.2, C'.B⟩
        · rw [List.mem_singleton.mp q, hI.2.1] at e; cases e
        · have := C'.N p (.tail _ hp)
          exact ⟨this.1, this.2.1, k₃.has (fun q => DD.1 (by rw [← List.mem_singleton.mp q]; exact List.mem_map_of_mem (f := Prod.fst) hp)) this.2.2⟩
      have C₅ : Cx base h₀ Lc h₃ m' ((L, FrO m) :: (D, LsO ys) :: l') :=
        C₄.sub (by intro p hp; simp only [List.mem_cons] at hp ⊢; grind) (by have := C₄.D; simp only [List.map_cons, List.nodup_cons, List.mem_cons] at this ⊢; grind)
      exact ⟨m', C₅.F.ns, fun h₆ hs => done _ _ _ _ _ j (C₅.pop C.F.above hs)⟩
  have start := codeAny_compStart_list (prog := prog) (w := w) (A := A) (R := compPost (model prog w) A E none Q (.ref D) Lc) loop (T.self _ _ _ _ _ _ _ (C₃.get (List.Mem.head _)) loop)
  exact start
end

section
variable {prog : Program} {w : World} {A : Around} {E : Value → Shared → Prop} {base h : Heap} {g : Array GenState} {d : Drawn} {tk : Nat} {os : OsState}
/-- a call of a def with cells -/
theorem enterC {name qual : Str} {params : Arguments} {body : List Stmt} {scope : Scope} {dV kV doc pm cdv ct oc : Value} {an od : Option Addr} {osl : Array (Option Value)} {f : Addr} {args : List Value} {binds : List (Str × Value)} {R : Result → Shared → Prop}
    (W : Wd w base) (G : base.StaysIn h) (T : List Fact) (hT : ∀ p ∈ T, base.get? p.1 = none ∧ Has h p) (hD : (T.map (·.1)).Nodup) (hroom : A.depth < recursionLimit)
    (ho : (hd.heap_39 w.params).lookup f = some ⟨oc, od, .func (fnOf name qual params body scope dV kV doc pm an cdv ct), osl⟩) (hcd : codeIn (hd.heap_39 w.params) cdv qual = true)
    (hbind : bindArgs (fnOf name qual params body scope dV kV doc pm an cdv ct) ⟨args, []⟩ = pure binds)
    (hkind : (binds.all fun y => scope.names.lookup y.1 == some .local || scope.names.lookup y.1 == some .cell) = true) (hnd : ((cellsFrom 0 scope.names []).map (·.1)).Nodup)
    (k : ∀ h₁ L tk₁, Cx base (hideAll h (T.map (·.1))) L h₁ (bindL (envX qual scope L f cdv (cellsFrom (L + 1) scope.names [])).kindOf binds fun _ => none)
        (((cellsFrom (L + 1) scope.names []).map fun p => ((p.2, CeO (bindC (envX qual scope L f cdv (cellsFrom (L + 1) scope.names [])).kindOf binds (fun _ => none) p.1)) : Fact)) ++ T) →
      wpAny (model prog w) (A.deeper (envX qual scope L f cdv (cellsFrom (L + 1) scope.names []))) (execs body (envX qual scope L f cdv (cellsFrom (L + 1) scope.names [])))
        (fun fl s' => R (.ok (.ret (match fl with | .ret v => v | _ => .none))) s')
        (fun e s' => wpAny (model prog w) (A.deeper (envX qual scope L f cdv (cellsFrom (L + 1) scope.names []))) (leaving (envX qual scope L f cdv (cellsFrom (L + 1) scope.names [])) e) (fun _ s'' => R (.error e) s'') (fun e' s'' => R (.error e') s'') s')
        ⟨h₁, g, d, tk₁, os⟩)
    (hco : scope.isCoroutine = false) (hgen : scope.isGenerator = false) (hk : scope.kind = .function) : codeAny (model prog w) A (.call (.ref f) ⟨args, []⟩) R ⟨h, g, d, tk, os⟩ := by
  have X := W.X.keeps G
  refine codeAny_call_cells (fd := fnOf name qual params body scope dV kV doc pm an cdv ct) (body := body) (binds := binds) hroom (X _ _ ho) rfl (W.nolimit.keeps G) (codeRec_of X hcd) rfl hbind rfl (kindsX hkind _) (fun s₁ x => ?_) hco hgen hk
  obtain ⟨h₁, tk₁, rfl, kp⟩ := x.done
  refine k h₁ h.objs.size tk₁ ⟨⟨x.toInCall.ns, fun b o e => kp b o (of_hideAll _ e), Nat.le_of_eq (hideAll_size _ _)⟩, fun p hp => ?_, ?_, fun b o e => hideAll_get _ (G b o e) fun q => ?_⟩
  · rcases List.mem_append.mp hp with hp | hp
    · obtain ⟨⟨n, c⟩, hq, rfl⟩ := List.mem_map.mp hp
      have ab := x.above n c hq
      refine ⟨Nat.ne_of_gt ab, Heap.get?_none_of_le (by rw [hideAll_size]; exact Nat.le_of_lt ab), ?_⟩
      exact x.cell n c (lookup_of_mem_nodup (cellsFrom_names scope.names 0 (h.objs.size + 1) [] [] rfl ▸ hnd) hq)
    · obtain ⟨_, o, e, f⟩ := hT p hp
      exact ⟨Nat.ne_of_lt (Heap.lt_size e), hideAll_none _ (List.mem_map_of_mem hp), o, kp _ _ e, f⟩
  · rw [List.map_append, List.nodup_append]
    refine ⟨?_, hD, fun a ha b hb q => ?_⟩
    · have ap := x.apart
      have : (callEnvC (fnOf name qual params body scope dV kV doc pm an cdv ct) h.objs.size f).cells = cellsFrom (h.objs.size + 1) scope.names [] := rfl
      rw [this] at ap
      simp only [List.map_map]
      rw [List.nodup_iff_pairwise_ne, List.pairwise_map]
      exact ap
    · subst q
      obtain ⟨p, hp, e⟩ := List.mem_map.mp hb
      obtain ⟨q', hq', e'⟩ := List.mem_map.mp ha
      obtain ⟨⟨n, c⟩, hq, rfl⟩ := List.mem_map.mp hq'
      have ab := x.above n c hq
      obtain ⟨_, o, z, _⟩ := hT p hp
      have lt := Heap.lt_size z
      have e1 : p.1 = c := e.trans e'.symm
      rw [e1] at lt
      exact absurd ab (Nat.not_lt.mpr (Nat.le_of_lt lt))
  · obtain ⟨p, hp, z⟩ := List.mem_map.mp q
    rw [← z, (hT p hp).1] at e; cases e

theorem callC {name qual : Str} {params : Arguments} {body : List Stmt} {scope : Scope} {dV kV doc pm cdv ct oc : Value} {an od : Option Addr} {osl : Array (Option Value)} {f : Addr} {args : List Value} {binds : List (Str × Value)} {Q : Value → Shared → Prop}
    (W : Wd w base) (G : base.StaysIn h) (T : List Fact) (hT : ∀ p ∈ T, base.get? p.1 = none ∧ Has h p) (hD : (T.map (·.1)).Nodup) {n : Nat} (am : Amb A (n + 1))
    (ho : (hd.heap_39 w.params).lookup f = some ⟨oc, od, .func (fnOf name qual params body scope dV kV doc pm an cdv ct), osl⟩) (hcd : codeIn (hd.heap_39 w.params) cdv qual = true)
    (hbind : bindArgs (fnOf name qual params body scope dV kV doc pm an cdv ct) ⟨args, []⟩ = pure binds)
    (hkind : (binds.all fun y => scope.names.lookup y.1 == some .local || scope.names.lookup y.1 == some .cell) = true) (hnd : ((cellsFrom 0 scope.names []).map (·.1)).Nodup)
    (k : ∀ h₁ L tk₁, Cx base (hideAll h (T.map (·.1))) L h₁ (bindL (envX qual scope L f cdv (cellsFrom (L + 1) scope.names [])).kindOf binds fun _ => none)
        (((cellsFrom (L + 1) scope.names []).map fun p => ((p.2, CeO (bindC (envX qual scope L f cdv (cellsFrom (L + 1) scope.names [])).kindOf binds (fun _ => none) p.1)) : Fact)) ++ T) → Amb (A.deeper (envX qual scope L f cdv (cellsFrom (L + 1) scope.names []))) n →
      wpAny (model prog w) (A.deeper (envX qual scope L f cdv (cellsFrom (L + 1) scope.names []))) (execs body (envX qual scope L f cdv (cellsFrom (L + 1) scope.names [])))
        (fun fl s' => Q (match fl with | .ret v => v | _ => .none) s') (fun _ _ => False) ⟨h₁, g, d, tk₁, os⟩)
    (hco : scope.isCoroutine = false) (hgen : scope.isGenerator = false) (hk : scope.kind = .function) : wpAny (model prog w) A (call (.ref f) args) Q E ⟨h, g, d, tk, os⟩ :=
  wpAny_call (enterC W G T hT hD (by have := am.d; omega) ho hcd hbind hkind hnd (fun h₁ L tk₁ C => wpAny_mono (k h₁ L tk₁ C (am.deeper _)) (fun _ _ x => x) fun _ _ x => x.elim) hco hgen hk)
end
-- Lay7
namespace BJ
open Builtin
theorem slot_join : Slot "bytes" "join" "bytes.join" :=
  .of (owner := "bytes") (n := "join") (by rw [typeLookup_type, builtinLookup_eq_fast]; kernel_rfl) (by decide +kernel) (by decide +kernel) (by decide +kernel)
    (by first | exact .inl (by decide +kernel) | exact .inr (by decide +kernel)) (by rw [isSubtype_type]; kernel_rfl)
theorem entry_join : entryFor table "bytes.join" = some Builtin.«bytes.join» := entryFor_of_tree (by kernel_rfl)
theorem args_join (a b : Value) : argsOk "bytes.join" ⟨[a, b], []⟩ := by unfold argsOk; kernel_rfl
theorem type_join : typeOf (.builtin "bytes.join") = pure (.type "method_descriptor") := by kernel_rfl
theorem take_eq {id : String} {b : Array UInt8} {t : Tok} : Bytes.takeBufferQuiet? id (.bytes b t) 0 = pure (some (b, none)) := by
  have e : Bytes.takeBuffer? id (.bytes b t) 0 = pure (some (b, none)) := by
    unfold Bytes.takeBuffer?
    rw [KBy.special_eq KBy.look_buffer, KBy.own_buffer]
    have : Bytes.buffer? id (.bytes b t) ((0 : Int) == Bytes.fullReadOnly) = pure (some b) := by
      rw [show ((0 : Int) == Bytes.fullReadOnly) = false by decide]; exact KBy.buffer_eq
    show ((pure (some (Value.builtin "bytes.__buffer__")) : Sem _) >>= _) = _
    show ((Bytes.buffer? id (.bytes b t) ((0 : Int) == Bytes.fullReadOnly)) >>= _) = _
    rw [this]; rfl
  unfold Bytes.takeBufferQuiet?
  rw [e]; rfl
section
variable {prog : Program} {w : World} {A : Around} {E : Value → Shared → Prop} {h : Heap} {g : Array GenState} {d : Drawn} {tk : Nat} {os : OsState}
theorem letGo_all {M : Model} {s : Shared} {Q : Unit → Shared → Prop} (q : Q () s) : ∀ (taken : List (Value × Option Value)) (keep : List Value), (∀ p ∈ taken, p.2 = none) → wpAny M A (Bytes.joinLetGo taken keep) Q E s
  | [], _, _ => wpAny_pure q
  | (x, none) :: r, keep, k => by
    unfold Bytes.joinLetGo
    refine wpAny_bind ?_
    refine wpAny_bind (wpAny_holding (wpAny_point ?_))
    refine wpAny_pure ?_
    exact letGo_all q r keep fun p hp => k p (.tail _ hp)
  | (_, some _) :: _, _, k => by have := k _ (.head _); cases this
theorem joined_flat (ps : List (Array UInt8)) : (Bytes.joined #[] ps).toList = (ps.map (·.toList)).flatten := by
  unfold Bytes.joined
  have : ∀ (l : List (Array UInt8 × Nat)) (a : Array UInt8), (l.foldl (fun out (p, i) => (if i > 0 then out ++ #[] else out) ++ p) a).toList = a.toList ++ (l.map (·.1.toList)).flatten := by
    intro l
    induction l with
    | nil => intro a; simp
    | cons x r ih => intro a; rw [List.foldl_cons, ih]; simp
  rw [this]
  simp [List.map_map]
  congr 1
  rw [show (ps.zipIdx.map fun x => x.1.toList) = (ps.zipIdx.map (·.1)).map (·.toList) by rw [List.map_map]; rfl, List.zipIdx_map_fst]
theorem arr_nil {G : Array Value → Prop} (e : ∀ a b r, G #[] = G ⟨a :: b :: r⟩) (q : G #[]) : ∀ arr : Array Value, arr.size ≠ 1 → G arr := by
  intro arr n
  rcases arr with ⟨_ | ⟨a, _ | ⟨b, r⟩⟩⟩
  · exact q
  · exact absurd rfl n
  · exact e a b r ▸ q
theorem join {l : Addr} {vs : List Value} {ps : List (List UInt8)} {t : Tok} {Q : Value → Shared → Prop} (x : Has h (l, LsO vs)) (z : All2 IsB ps vs) (hz : ps.flatten.length ≤ 1000000) 
    (q : ∀ t' tk', Q (.bytes ps.flatten.toArray t') ⟨h, g, d, tk', os⟩) : wpAny (model prog w) A (call (.builtin "bytes.join") [.bytes #[] t, .ref l]) Q E ⟨h, g, d, tk, os⟩ := by
  obtain ⟨n, e⟩ := has_plain x
  refine call_meets (s := ⟨h, g, d, tk, os⟩) (S := fun _ R s => s = ⟨h, g, d, tk, os⟩ ∧ ∀ t' tk', R (.ok (.ret (.bytes ps.flatten.toArray t'))) ⟨h, g, d, tk', os⟩) slot_join (typeIs_bytes _ _ _) entry_join (args_join _ _) ?_ ⟨rfl, q⟩
  refine .of_wp fun prog w A R s hS => ?_
  obtain ⟨rfl, k⟩ := hS
  unfold Builtin.«bytes.join» Bytes.joinM
  refine wpAny_bind (wpAny_of_eq (a := (.bytes #[] t, .ref l)) rfl ?_)
  show wpAny _ _ (Bytes.joinItems (.ref l) >>= _) _ _ _
  refine wpAny_bind ?_
  unfold Bytes.joinItems
  refine wpAny_bind (wpAny_typeOf ⟨_, e, rfl⟩ ?_)
  refine bm_if_true (by decide) (wpAny_pure ?_)
  refine wpAny_bind (wpAny_seqItems e rfl ?_)
  clear x q
  by_cases hone : vs.length = 1
  · obtain ⟨v, rfl⟩ := List.length_eq_one_iff.mp hone
    cases z with
    | cons r z =>
      obtain ⟨t1, rfl⟩ := r
      cases z
      show wpAny _ _ (typeOf _ >>= _) _ _ _
      refine wpAny_bind (wpAny_typeOf (typeIs_bytes _ _ _) ?_)
      refine bm_if_true (by decide) ?_
      refine wpAny_bind (wpAny_rule ?_)
      have := k t1 tk
      simp only [List.flatten_cons, List.flatten_nil, List.append_nil] at this
      exact wpAny_pure ⟨_, rfl, this⟩
  · dsimp only
    refine bm_if_true (by decide) ?_
    obtain ⟨us, hv⟩ : ∃ us, vs = us := ⟨_, rfl⟩
    have e' : h.get? l = some (listOf us.toArray n) := hv ▸ e
    have z' : All2 IsB ps us := hv ▸ z
    have hsz : vs.toArray.size = us.length := by simp [hv]
    rw [hv] at hone
    clear hv z e
    rw [hsz]
    replace hsz : vs.toArray.size ≠ 1 := hsz ▸ hone
    generalize vs.toArray = arr at *
    revert hsz
    revert arr
    refine arr_nil ?hnil ?_
    case hnil => exact fun _ _ _ => rfl
    ·
      show wpAny _ _ (forIn _ _ _ >>= _) _ _ _
      refine wpAny_bind ?_
      rw [Std.Legacy.Range.forIn_eq_forIn_range']
      refine wpAny_forIn_list _ (fun rest b s => ∃ i tk', rest = List.range' i (us.length - i) ∧ i ≤ us.length ∧ s = ⟨h, g, d, tk', os⟩ ∧ b.1 = ((ps.take i).map (·.toArray)).toArray ∧ b.2 = (us.take i).map (·, none)) _ ?_ ?_ _ _ ⟨0, tk, by simp [Std.Legacy.Range.size], Nat.zero_le _, rfl, by simp, by simp⟩
      · rintro i rest ⟨pa, ta⟩ s ⟨i', tk', hr, hi, rfl, hp, ht⟩
        dsimp only at hp ht ⊢
        have hlt : i' < us.length := by
          rcases Nat.lt_or_ge i' us.length with q | q
          · exact q
          · rw [show us.length - i' = 0 by omega] at hr; cases hr
        rw [show us.length - i' = (us.length - (i' + 1)) + 1 by omega, List.range'_succ] at hr
        obtain ⟨rfl, rfl⟩ := List.cons.inj hr
        obtain ⟨v, hv⟩ : ∃ v, us[i]? = some v := ⟨_, List.getElem?_eq_getElem hlt⟩
        obtain ⟨p, hpi, t1, rfl⟩ := z'.get' hv
        have hget : us.toArray.getD i .none = .bytes p.toArray t1 := by rw [Array.getD_eq_getD_getElem?]; simp [hv]
        refine wpAny_bind (wpAny_seqItems e' rfl ?_)
        dsimp only
        have hheap : ((us.take i).map fun x => ((x, none) : Value × Option Value)).any (fun x => x.1.onHeap) = false := by
          rw [List.any_eq_false]
          intro p hp
          obtain ⟨v, hv, rfl⟩ := List.mem_map.mp hp
          obtain ⟨j, hj⟩ := List.mem_iff_getElem?.mp hv
          obtain ⟨p', _, t', rfl⟩ := (z'.take i).get' hj
          exact Bool.false_ne_true
        refine bm_if_false (by rw [ht, hheap]; rfl) ?_
        rw [hget]
        refine wpAny_bind (wpAny_holding (wpAny_of_eq take_eq ?_))
        dsimp only
        refine wpAny_bind (wpAny_seqItems e' rfl ?_)
        dsimp only
        refine bm_if_false (by simp) ?_
        refine wpAny_pure ⟨i + 1, tk', by congr 1, hlt, rfl, ?_, ?_⟩
        · rw [hp, List.take_add_one, hpi]; simp
        · rw [ht, List.take_add_one, hv]; simp
      · rintro ⟨pa, ta⟩ s ⟨i', tk', hr, hi, rfl, hp, ht⟩
        dsimp only at hp ht ⊢
        have hin : i' = us.length := by
          rcases Nat.lt_or_ge i' us.length with q | q
          · rw [show us.length - i' = (us.length - (i' + 1)) + 1 by omega, List.range'_succ] at hr; cases hr
          · omega
        subst hin
        have hl := z'.length
        rw [hl, List.take_length] at hp
        rw [List.take_length] at ht
        subst hp ht
        refine wpAny_bind (wpAny_of_eq (a := #[]) rfl ?_)
        have hj : Bytes.joined #[] (ps.map (·.toArray)) = ps.flatten.toArray := by
          apply Array.toList_inj.mp
          rw [joined_flat, List.map_map, show ((fun x : Array UInt8 => x.toList) ∘ fun x : List UInt8 => x.toArray) = _root_.id from rfl, List.map_id]
        have hsum : ∀ (a : Nat) (qs : List (List UInt8)), Array.foldl (fun x1 (x2 : Array UInt8) => x1 + x2.size) a (qs.map (·.toArray)).toArray = a + qs.flatten.length := by
          intro a qs
          rw [← Array.foldl_toList]
          simp only
          induction qs generalizing a with
          | nil => simp
          | cons q r ih => simp only [List.map_cons, List.foldl_cons, ih]; simp; omega
        refine bm_if_false (KBy.tooLong_not (by rw [hsum]; simp; simp at hz; omega)) ?_
        dsimp only
        rw [hj]
        refine wpAny_bind (wpAny_mkBytes ?_ (by rw [List.size_toArray, sizeLine_eq]; omega))
        refine wpAny_bind (wpAny_holding (wpAny_point ?_))
        refine wpAny_bind (letGo_all ?_ _ _ (by intro p hp; obtain ⟨_, _, rfl⟩ := List.mem_map.mp hp; rfl))
        exact wpAny_pure ⟨_, rfl, k _ _⟩
end
end BJ
namespace BN
open Builtin
theorem look_bytes : typeLookup (.type "bytes") "__bytes__" = pure (some (.builtin "bytes.__bytes__")) := by rw [typeLookup_type, builtinLookup_eq_fast]; kernel_rfl
section
variable {prog : Program} {w : World} {A : Around} {E : Value → Shared → Prop} {s : Shared}
theorem new {b : Array UInt8} {t : Tok} {Q : Value → Shared → Prop} (hQ : Q (.bytes b t) s) :
    codeAny (model prog w) A (.call (.builtin "bytes.__new__") ⟨[.type "bytes", .bytes b t], []⟩) (wants Q E) s := by
  refine codeAny_of_tree ?_
  show wpAny _ A.in1 (do checkBuiltinCall "bytes.__new__" ⟨[.type "bytes", .bytes b t], []⟩; again (.builtin "bytes.__new__" ⟨[.type "bytes", .bytes b t], []⟩)) _ _ s
  refine wpAny_bind (wpAny_of_eq (F.bm_newCall _) (wpAny_pure ⟨plainId_quiet F.bm_plain _, codeAny_builtin F.bm_entry ?_⟩))
  rw [Around.under_plainId F.bm_plain _]
  unfold Builtin.«bytes.__new__»
  refine wpAny_bind (wpAny_of_eq (a := true) rfl ?_)
  refine bm_if_false rfl ?_
  refine wpAny_bind (wpAny_of_eq F.bm_sub ?_)
  refine bm_if_false rfl ?_
  refine wpAny_bind (wpAny_of_eq (F.bm_bind _) ?_)
  refine wpAny_bind (wpAny_of_eq (a := ()) rfl ?_)
  refine wpAny_bind (wpAny_of_eq (a := ()) rfl ?_)
  refine bm_if_false rfl ?_
  refine wpAny_bind (wpAny_specialOf (typeIs_bytes _ _ _) look_bytes ?_)
  refine wpAny_bind (wpAny_rule ?_)
  refine wpAny_bind (wpAny_typeOf (typeIs_bytes _ _ _) ?_)
  refine bm_if_true rfl ?_
  exact (show wpAny _ _ (pure (PySem.Fin.done (Flow.ret (Value.bytes b t)))) _ _ _ from wpAny_pure hQ)
theorem call_new {b : Array UInt8} {t : Tok} {Q : Value → Shared → Prop} (hQ : Q (.bytes b t) s) : wpAny (model prog w) A (call (.type "bytes") [.bytes b t]) Q E s := by
  refine callType_codes (Q₁ := fun obj s₁ => s₁.TypeIs obj "bytes" ∧ Q obj s₁) F.bm_called (F.bm_typeCall _) F.entry_object_init
    (new ⟨typeIs_bytes _ _ _, hQ⟩) fun obj s₁ h₁ => ?_
  exact ⟨h₁.1, F.args_object_init_2 obj _, object_init_meets F.bm_called.init.lookup F.bm_called.made (by decide) prog w A.in1 _ s₁ ⟨h₁.1, rfl, h₁.2⟩⟩
end
end BN

/-- what a slice takes -/
def cut {α : Type} (xs : List α) (lo hi : Option Int) : List α := (xs.drop (lo.elim 0 (clipAt xs.length))).take (hi.elim xs.length (clipAt xs.length) - lo.elim 0 (clipAt xs.length))
theorem clip_nat (n k : Nat) : clipAt n (k : Int) = min k n := by have := clipAt_cast n k; rw [if_neg (by omega)] at this; omega
section
variable {α : Type} {xs : List α}
theorem cut_from (k : Nat) : cut xs (some (k : Int)) none = xs.drop k := by
  simp only [cut, Option.elim, clip_nat]
  rcases Nat.le_total k xs.length with h | h
  · rw [Nat.min_eq_left h, List.take_of_length_le (by simp)]
  · rw [Nat.min_eq_right h, List.drop_of_length_le h]; simp
theorem cut_upto (k : Nat) : cut xs none (some (k : Int)) = xs.take k := by
  simp only [cut, Option.elim, clip_nat, List.drop_zero, Nat.sub_zero]
  rcases Nat.le_total k xs.length with h | h
  · rw [Nat.min_eq_left h]
  · rw [Nat.min_eq_right h, List.take_of_length_le (Nat.le_refl _), List.take_of_length_le h]
theorem cut_run (a b : Nat) : cut xs (some (a : Int)) (some (b : Int)) = (xs.drop a).take (b - a) := by
  simp only [cut, Option.elim, clip_nat]
  rcases Nat.le_total a xs.length with h | h
  · rw [Nat.min_eq_left h]
    rcases Nat.le_total b xs.length with h' | h'
    · rw [Nat.min_eq_left h']
    · rw [Nat.min_eq_right h', List.take_of_length_le (by simp), List.take_of_length_le (by simp; omega)]
  · rw [Nat.min_eq_right h, List.drop_of_length_le h, List.drop_of_length_le (Nat.le_refl _)]; simp
theorem cut_length (lo hi : Option Int) : (cut xs lo hi).length ≤ xs.length := by simp only [cut, List.length_take, List.length_drop]; omega
theorem cut_last : cut xs none (some (-1)) = xs.take (xs.length - 1) := by
  have h := clipAt_cast xs.length (-1)
  simp only [cut, Option.elim, List.drop_zero, Nat.sub_zero]
  congr 1
  rw [if_pos (by omega)] at h
  omega
end
theorem pick_cut (items : List Value) (lo hi : Option Int) : slicePick items.toArray lo hi none = (cut items lo hi).toArray := by
  rw [slicePick_plain]; simp [cut]
theorem picked_cut (p : List UInt8) (lo hi : Option Int) : KBy.picked p.toArray lo hi = (cut p lo hi).toArray := by
  rw [KBc.picked_eq]; simp [cut]
theorem All2.cut {α β : Type} {R : α → β → Prop} {as : List α} {bs : List β} (h : All2 R as bs) (lo hi : Option Int) : All2 R (NU.cut as lo hi) (NU.cut bs lo hi) := by
  unfold NU.cut; rw [h.length]; exact (h.drop _).take _

section
variable {prog : Program} {w : World} {A : Around} {E : Value → Shared → Prop} {base h₀ h : Heap} {g : Array GenState} {d : Drawn} {tk : Nat} {os : OsState}
variable {L : Addr} {m : Str → Option Value} {l l' : List Fact} {env : Env}

-- slices
theorem sl_ {lower upper : Option PySem.Expr} {p : Pos} {s : Shared} {Q : Value → Shared → Prop}
    (q : wpAny (model prog w) A (evalPart lower env) (fun a s₁ => wpAny (model prog w) A (evalPart upper env) (fun b s₂ => match s₂ with
      | ⟨h, g, d, tk, os⟩ => Q (.ref h.objs.size) ⟨h.push { cls := .type "slice", data := .fields #[a, b, .none] }, g, d, tk, os⟩) E s₁) E s) :
    wpAny (model prog w) A (eval (.Slice lower upper none p) env) Q E s := wpAny_Slice (wpAny_mono q (fun _ _ x => wpAny_mono x (fun _ _ y => wpAny_evalPart_none y) fun _ _ e => e) fun _ _ e => e)
theorem sl_none {Q : Value → Shared → Prop} {s : Shared} (q : Q .none s) : wpAny (model prog w) A (evalPart none env) Q E s := wpAny_evalPart_none q
theorem sl_some {e : PySem.Expr} {Q : Value → Shared → Prop} {s : Shared} (q : wpAny (model prog w) A (eval e env) Q E s) : wpAny (model prog w) A (evalPart (some e) env) Q E s := q

theorem slice_L {value slice : PySem.Expr} {a : Addr} {vs : List Value} {vl vu : Value} {lo hi : Option Int} {Q : Value → Shared → Prop} (C : Cx base h₀ L h m l) (x : Has h (a, LsO vs)) (pl : IsPart vl lo) (pu : IsPart vu hi) (hz : vs.length ≤ 1000000)
    (q : ∀ b h', Cx base h₀ L h' m ((b, LsO (cut vs lo hi)) :: l) → Q (.ref b) ⟨h', g, d, tk, os⟩)
    (hs : subscripted slice false (.ref a) (.ref h.objs.size) = operate [.ref h.objs.size, .ref a] (getItem (.ref a) (.ref h.objs.size))) :
    wpAny (model prog w) A (subscriptTail value slice (.ref a) (.ref h.objs.size)) Q E ⟨h.push { cls := .type "slice", data := .fields #[vl, vu, .none] }, g, d, tk, os⟩ := by
  have x1 := (has_list x).push { cls := .type "slice", data := .fields #[vl, vu, .none] }
  refine tail_any (T := "list") (Heap.IsList.typeIs (s := ⟨h.push _, g, d, tk, os⟩) x1) list_getitem_lookup (wpAny_getItem_list_slice (s := ⟨h.push _, g, d, tk, os⟩) x1 (Heap.IsSliceOf.new ..) pl pu .none (by simp) ?_ (by rw [List.size_toArray, sizeLine_eq]; omega)) hs
  show Q (.ref (h.push _).objs.size) _
  rw [Heap.size_push]
  have C₁ : Cx base h₀ L (h.push { cls := .type "slice", data := .fields #[vl, vu, .none] }) m l := C.kp fun _ _ _ e => Heap.get?_push_of_some _ e
  have C₂ := none_of_push (o := { cls := .type "list", data := .seq (slicePick vs.toArray lo hi none) }) (φ := LsO (cut vs lo hi)) C₁ ⟨0, by rw [pick_cut]⟩
  rw [Heap.size_push] at C₂
  exact q _ _ C₂
theorem slice_B {value slice : PySem.Expr} {p : List UInt8} {t : Tok} {vl vu : Value} {lo hi : Option Int} {Q : Value → Shared → Prop} (C : Cx base h₀ L h m l) (pl : IsPart vl lo) (pu : IsPart vu hi) (hz : p.length ≤ 1000000)
    (q : ∀ t' h' tk', Cx base h₀ L h' m l → Q (.bytes (cut p lo hi).toArray t') ⟨h', g, d, tk', os⟩)
    (hs : subscripted slice false (.bytes p.toArray t) (.ref h.objs.size) = operate [.ref h.objs.size, .bytes p.toArray t] (getItem (.bytes p.toArray t) (.ref h.objs.size)))
    (ht : ∀ r, letTemporaryGo value (.bytes p.toArray t) r = pure ()) :
    wpAny (model prog w) A (subscriptTail value slice (.bytes p.toArray t) (.ref h.objs.size)) Q E ⟨h.push { cls := .type "slice", data := .fields #[vl, vu, .none] }, g, d, tk, os⟩ := by
  refine C.same fun ns N mk => KBc.slice_K (s := ⟨h, g, d, tk, os⟩) (h₀ := h₀) (L := L) (m := m) (news := ns) (ks := KBw.bInts p.toArray) C.F N rfl pl pu (by rw [KBw.ints_length, List.size_toArray]; omega) (fun h' t' k F' N' _ => ?_) hs ht
  rw [picked_cut]
  exact q _ _ _ (mk _ _ F' N')

-- bytes
theorem len_B {p : List UInt8} {t : Tok} {Q : Value → Shared → Prop} (hz : p.length ≤ 1000000) (q : Q (.int p.length (tk + 1)) ⟨h, g, d, tk + 1 + 1, os⟩) : wpAny (model prog w) A (call (.builtin "len") [.bytes p.toArray t]) Q E ⟨h, g, d, tk, os⟩ :=
  len_bytes (s := ⟨h, g, d, tk, os⟩) (by rw [List.size_toArray]; omega) (by rw [List.size_toArray]; exact q)
theorem item_B {value slice : PySem.Expr} {p : List UInt8} {i : Int} {t ui : Tok} {Q : Value → Shared → Prop} (hz : p.length ≤ 1000000) (h0 : 0 ≤ i) (h1 : i < p.length) (q : ∀ t' tk', Q (.int (p.getD i.toNat 0).toNat t') ⟨h, g, d, tk', os⟩)
    (hs : subscripted slice false (.bytes p.toArray t) (.int i ui) = operate [.bytes p.toArray t, .int i ui] (getItem (.bytes p.toArray t) (.int i ui)))
    (ht : ∀ r, letTemporaryGo value (.bytes p.toArray t) r = pure ()) : wpAny (model prog w) A (subscriptTail value slice (.bytes p.toArray t) (.int i ui)) Q E ⟨h, g, d, tk, os⟩ :=
  bytes_item_K (s := ⟨h, g, d, tk, os⟩) (by omega) h0 h1 rfl (q _ _) hs ht
theorem add_B {p r : List UInt8} {t u : Tok} {Q : Value → Shared → Prop} (hz : p.length + r.length ≤ 1000000) (q : ∀ t' tk', Q (.bytes (p ++ r).toArray t') ⟨h, g, d, tk', os⟩) : wpAny (model prog w) A (binaryOp .Add (.bytes p.toArray t) (.bytes r.toArray u)) Q E ⟨h, g, d, tk, os⟩ :=
  bytes_add_K (s := ⟨h, g, d, tk, os⟩) (by simp only [List.size_toArray]; omega) rfl q
theorem eq_B {p r : List UInt8} {t u : Tok} {Q : Value → Shared → Prop} (q : Q (.bool (decide (p = r))) ⟨h, g, d, tk, os⟩) : wpAny (model prog w) A (compareOp .Eq (.bytes p.toArray t) (.bytes r.toArray u)) Q E ⟨h, g, d, tk, os⟩ :=
  eq_bytes (by rw [show (p.toArray.toList == r.toArray.toList) = decide (p = r) by rw [Bool.eq_iff_iff]; simp]; exact q)
theorem ne_B {p r : List UInt8} {t u : Tok} {Q : Value → Shared → Prop} (q : Q (.bool (decide (p ≠ r))) ⟨h, g, d, tk, os⟩) : wpAny (model prog w) A (compareOp .NotEq (.bytes p.toArray t) (.bytes r.toArray u)) Q E ⟨h, g, d, tk, os⟩ :=
  ne_bytes (by rw [show (p.toArray.toList != r.toArray.toList) = decide (p ≠ r) by rw [Bool.eq_iff_iff]; simp]; exact q)
theorem meth_join {p : List UInt8} {t : Tok} {pl : Sem Bool} {Q : Value × List Value → Shared → Prop} (q : Q (.builtin "bytes.join", [.bytes p.toArray t]) ⟨h, g, d, tk, os⟩) : wpAny (model prog w) A (getMethod (.bytes p.toArray t) "join" pl) Q E ⟨h, g, d, tk, os⟩ := by
  with_reducible exact KBd.method_of (.bytes p.toArray t) (typeIs_bytes _ _ _) BJ.slot_join BJ.type_join KBd.noRef q

-- more of lists
theorem ints_of {ns : List Int} {vs : List Value} (z : All2 IsI ns vs) : IntsAre vs ns := by
  induction z with
  | nil => exact .nil
  | cons r _ ih => obtain ⟨t, rfl⟩ := r; exact .cons _ _ ih
theorem any_int {n : Int} {ns : List Int} {vs : List Value} (z : All2 IsI ns vs) : (vs.any fun v => match v with | .int k _ => k == n | _ => false) = decide (n ∈ ns) := by
  induction z with
  | nil => simp
  | cons r _ ih => obtain ⟨t, rfl⟩ := r; rw [List.any_cons, ih, Bool.eq_iff_iff]; simp only [Bool.or_eq_true, beq_iff_eq, decide_eq_true_eq, List.mem_cons]; exact or_congr ⟨Eq.symm, Eq.symm⟩ Iff.rfl
theorem new_ints {a : Addr} {ns : List Int} {Q : Value → Shared → Prop} (C : Cx base h₀ L h m l) (x : Has h (a, LI ns)) (hr : ∀ n ∈ ns, 0 ≤ n ∧ n < 256) (hz : ns.length ≤ 1000000) (hh : A.handled = none)
    (q : ∀ t' h' tk', Cx base h₀ L h' m l → Q (.bytes (ns.map fun n => n.toNat.toUInt8).toArray t') ⟨h', g, d, tk', os⟩) : wpAny (model prog w) A (call (.type "bytes") [.ref a]) Q E ⟨h, g, d, tk, os⟩ := by
  obtain ⟨vs, x, z⟩ := has_LR x
  have hi := ints_of z
  exact call_bytes_ints (s := ⟨h, g, d, tk, os⟩) (has_list x) hi hr (by rw [z.length, sizeLine_eq]; omega) hh fun h' t k hk => q t h' k (C.kp fun b o _ e => hk b o e)
theorem sum_L {a : Addr} {ns : List Int} {Q : Value → Shared → Prop} (C : Cx base h₀ L h m l) (x : Has h (a, LI ns)) (hh : A.handled = none) (q : ∀ t' h' tk', Cx base h₀ L h' m l → Q (.int ns.sum t') ⟨h', g, d, tk', os⟩) :
    wpAny (model prog w) A (call (.builtin "sum") [.ref a]) Q E ⟨h, g, d, tk, os⟩ := by
  obtain ⟨vs, x, z⟩ := has_LR x
  exact C.same fun ns N mk => sumK (s := ⟨h, g, d, tk, os⟩) hh C.F N (has_list x) (ints_of z) fun h' tk t' F' N' => q _ _ _ (mk _ _ F' N')
theorem notIn_L {a : Addr} {ns : List Int} {n : Int} {u : Tok} {Q : Value → Shared → Prop} (x : Has h (a, LI ns)) (q : Q (.bool (decide (n ∉ ns))) ⟨h, g, d, tk, os⟩) : wpAny (model prog w) A (compareOp .NotIn (.int n u) (.ref a)) Q E ⟨h, g, d, tk, os⟩ := by
  obtain ⟨vs, x, z⟩ := has_LR x
  refine SeqAt.notIn_listAt (s := ⟨h, g, d, tk, os⟩) (fun v => match v with | .int k _ => k == n | _ => false) (has_list x) (fun y hy => ?_) ?_
  · obtain ⟨i, hi⟩ := List.mem_iff_getElem?.mp (by simpa using hy)
    obtain ⟨k, _, t, rfl⟩ := z.get' hi
    exact SeqAt.EqAt.int_int _ _ _ _
  · have : (vs.toArray.any fun v => match v with | .int k _ => k == n | _ => false) = decide (n ∈ ns) := by
      rw [← Array.any_toList]
      exact any_int z
    rw [this]
    simpa using q
theorem eq_nil {a b : Addr} {Q : Value → Shared → Prop} (x : Has h (a, LsO [])) (y : Has h (b, LsO [])) (hu : A.units + 64 < cLine) (q : Q (.bool true) ⟨h, g, d, tk, os⟩) : wpAny (model prog w) A (compareOp .Eq (.ref a) (.ref b)) Q E ⟨h, g, d, tk, os⟩ :=
  eq_intsK (s := ⟨h, g, d, tk, os⟩) (has_list x) .nil (has_list y) .nil hu (by simpa using q)
theorem ne_nil {a b : Addr} {Q : Value → Shared → Prop} (x : Has h (a, LsO [])) (y : Has h (b, LsO [])) (hu : A.units + 64 < cLine) (q : Q (.bool false) ⟨h, g, d, tk, os⟩) : wpAny (model prog w) A (compareOp .NotEq (.ref a) (.ref b)) Q E ⟨h, g, d, tk, os⟩ :=
  ne_intsK (s := ⟨h, g, d, tk, os⟩) (has_list x) .nil (has_list y) .nil hu (by simpa using q)
theorem cat_L {a b : Addr} {vs us : List Value} {Q : Value → Shared → Prop} (C : Cx base h₀ L h m l) (x : Has h (a, LsO vs)) (y : Has h (b, LsO us)) (hz : vs.length + us.length ≤ 1000000)
    (q : ∀ c h', Cx base h₀ L h' m ((c, LsO (vs ++ us)) :: l) → Q (.ref c) ⟨h', g, d, tk, os⟩) : wpAny (model prog w) A (binaryOp .Add (.ref a) (.ref b)) Q E ⟨h, g, d, tk, os⟩ := by
  obtain ⟨ns, N, z⟩ := C.kit
  refine add_lists (s := ⟨h, g, d, tk, os⟩) C.F N (has_list x) (has_list y) (fun h' F' N' => q _ _ (.ofKit F' N' (.cons ⟨rfl, 0, rfl⟩ z) ?_ C.B)) (by rw [sizeLine_eq]; omega)
  simp only [List.map_cons, List.nodup_cons]
  refine ⟨fun k => ?_, C.D⟩
  obtain ⟨p, hp, e⟩ := List.mem_map.mp k
  obtain ⟨o, e', _⟩ := (C.N p hp).2.2
  rw [e] at e'
  exact Nat.lt_irrefl _ (Heap.lt_size e')
theorem insert0_L {a : Addr} {vs : List Value} {v : Value} {u : Tok} {Q : Value → Shared → Prop} (x : Has h (a, LsO vs)) (hz : vs.length ≤ 1000000)
    (q : ∀ h' tk', Has h' (a, LsO (v :: vs)) → Kp [a] h h' → Q .none ⟨h', g, d, tk', os⟩) : wpAny (model prog w) A (call (.builtin "list.insert") [.ref a, .int 0 u, v]) Q E ⟨h, g, d, tk, os⟩ := by
  obtain ⟨n, e⟩ := has_plain x
  refine call_meets (s := ⟨h, g, d, tk, os⟩) F.slot_list_insert ⟨_, e, rfl⟩ F.entry_list_insert (F.args_list_insert_3 _ _ _) (AutoListH.list_insert_list_int_val_1 a vs.toArray n 0 u v (by decide) (by rw [List.size_toArray, sizeLine_eq]; omega)) ⟨e, ?_⟩
  refine q _ _ ⟨_, Heap.get?_update_self _ e ?_, ?_⟩ fun b o hb e' => (Heap.get?_update_other _ _ (Ne.symm (by simpa using hb))).trans e'
  · simp [Obj.mapSeq, Obj.isFreed]
  · exact ⟨n + 1, by simp [Obj.mapSeq]⟩
theorem extend_L {a b : Addr} {vs us : List Value} {Q : Value → Shared → Prop} (x : Has h (a, LsO vs)) (y : Has h (b, LsO us)) (hz : vs.length + us.length ≤ 1000000)
    (q : ∀ h' tk', Has h' (a, LsO (vs ++ us)) → Kp [a] h h' → Q .none ⟨h', g, d, tk', os⟩) : wpAny (model prog w) A (call (.builtin "list.extend") [.ref a, .ref b]) Q E ⟨h, g, d, tk, os⟩ := by
  obtain ⟨n, e⟩ := has_plain x
  obtain ⟨n', e'⟩ := has_plain y
  refine call_meets (s := ⟨h, g, d, tk, os⟩) F.slot_list_extend ⟨_, e, rfl⟩ F.entry_list_extend (F.args_list_extend_2 _ _) (AutoSeq1.list_extend_list_list_0 a vs.toArray n b us.toArray n' ?_ (by rw [List.size_toArray, sizeLine_eq]; omega) (by simp only [List.size_toArray]; rw [sizeLine_eq]; omega)) ⟨e, e', ?_⟩
  · have : Builtin.List.listTooLong (vs.toArray.size + us.toArray.size) = false := by
      unfold Builtin.List.listTooLong
      simp only [List.size_toArray]
      rw [sizeLine_eq]
      exact decide_eq_false (by omega)
    rw [this]; simp
  refine q _ _ ⟨_, Heap.get?_update_self _ e ?_, ?_⟩ fun c o hb e' => (Heap.get?_update_other _ _ (Ne.symm (by simpa using hb))).trans e'
  · simp only [Obj.mapSeq, Obj.isFreed]
  · refine ⟨if (vs ++ us).length = vs.length then n else n + 1, ?_⟩
    simp only [Obj.mapSeq]
    simp
end
-- Lay8
section
variable {prog : Program} {w : World} {A : Around} {E : Value → Shared → Prop} {base h₀ h : Heap} {g : Array GenState} {d : Drawn} {tk : Nat} {os : OsState}
variable {L : Addr} {m : Str → Option Value} {l l' : List Fact} {env : Env}
theorem cat0 {f : Value} {vs : List Value} {Q : Value → Shared → Prop} {s : Shared} (q : wpAny (model prog w) A (call f vs) Q E s) : wpAny (model prog w) A (call f ([] ++ vs)) Q E s := q
theorem cat1 {f a : Value} {vs : List Value} {Q : Value → Shared → Prop} {s : Shared} (q : wpAny (model prog w) A (call f (a :: vs)) Q E s) : wpAny (model prog w) A (call f ([a] ++ vs)) Q E s := q
theorem has_tuple {a : Addr} {vs : List Value} (x : Has h (a, TuO vs)) : h.IsTuple a vs.toArray := by
  obtain ⟨o, e, n, rfl⟩ := x; exact ⟨_, e, rfl, n, rfl⟩
theorem asgT {elts : List PySem.Expr} {k} {pos : Pos} {t : Addr} {vs : List Value} {Q : Unit → Shared → Prop} (C : Cx base h₀ L h m l) (x : Has h (t, TuO vs)) (hh : A.handled = none)
    (hn : (assignEach elts env).length = vs.length) (hstar : (assignEach elts env).findIdx? (·.1) = none)
    (q : ∀ h', Cx base h₀ L h' m l → wpAny (model prog w) A (assignInOrder ((assignEach elts env).map (·.2)) vs) Q E ⟨h', g, d, tk, os⟩) :
    wpAny (model prog w) A (assign (.Tuple elts k pos) env (.ref t)) Q E ⟨h, g, d, tk, os⟩ :=
  wpAny_assign_Tuple (s := ⟨h, g, d, tk, os⟩) hh (has_tuple x) (by rw [List.size_toArray]; exact hn) hstar fun h' he => q h' (C.kp fun b o _ e => he b o (Nat.ne_of_lt (Heap.lt_size e)) e)
theorem unpT {t : Addr} {vs : List Value} {n : Nat} {Q : List Value → Shared → Prop} (C : Cx base h₀ L h m l) (x : Has h (t, TuO vs)) (hh : A.handled = none) (hn : n = vs.length)
    (q : ∀ h', Cx base h₀ L h' m l → Q vs ⟨h', g, d, tk, os⟩) : wpAny (model prog w) A (unpackItems (.ref t) n none) Q E ⟨h, g, d, tk, os⟩ := by
  subst hn
  exact unpackItems_tuple (s := ⟨h, g, d, tk, os⟩) hh (has_tuple x) fun h' he => q h' (C.kp fun b o _ e => he b o (Nat.ne_of_lt (Heap.lt_size e)) e)
theorem asg_nil {Q : Unit → Shared → Prop} {s : Shared} (q : Q () s) : wpAny (model prog w) A (assignInOrder [] []) Q E s := wpAny_assignInOrder_none q
theorem asg_cons {t : Value → Sem Unit} {ts : List (Value → Sem Unit)} {x : Value} {xs : List Value} {Q : Unit → Shared → Prop} {s : Shared}
    (q : wpAny (model prog w) A (t x) (fun _ s₁ => wpAny (model prog w) A (assignInOrder ts xs) Q E s₁) E s) : wpAny (model prog w) A (assignInOrder (t :: ts) (x :: xs)) Q E s := wpAny_assignInOrder_more q
theorem appC {a : Addr} {vs : List Value} {v : Value} {Q : Value → Shared → Prop} (C : Cx base h₀ L h m l) (u : At a (LsO vs) (LsO (vs ++ [v])) l l') (hz : vs.length ≤ 1000000)
    (q : ∀ h', Cx base h₀ L h' m l' → Q .none ⟨h', g, d, tk, os⟩) : wpAny (model prog w) A (call (.builtin "list.append") [.ref a, v]) Q E ⟨h, g, d, tk, os⟩ :=
  append_L (C.get u.mem) hz fun h' x k => q h' (C.at u k x)
theorem insC {a : Addr} {vs : List Value} {v : Value} {u' : Tok} {Q : Value → Shared → Prop} (C : Cx base h₀ L h m l) (u : At a (LsO vs) (LsO (v :: vs)) l l') (hz : vs.length ≤ 1000000)
    (q : ∀ h' tk', Cx base h₀ L h' m l' → Q .none ⟨h', g, d, tk', os⟩) : wpAny (model prog w) A (call (.builtin "list.insert") [.ref a, .int 0 u', v]) Q E ⟨h, g, d, tk, os⟩ :=
  insert0_L (C.get u.mem) hz fun h' tk' x k => q h' tk' (C.at u k x)
theorem extC {a b : Addr} {vs us : List Value} {Q : Value → Shared → Prop} (C : Cx base h₀ L h m l) (u : At a (LsO vs) (LsO (vs ++ us)) l l') (y : Has h (b, LsO us)) (hz : vs.length + us.length ≤ 1000000)
    (q : ∀ h' tk', Cx base h₀ L h' m l' → Q .none ⟨h', g, d, tk', os⟩) : wpAny (model prog w) A (call (.builtin "list.extend") [.ref a, .ref b]) Q E ⟨h, g, d, tk, os⟩ :=
  extend_L (C.get u.mem) y hz fun h' tk' x k => q h' tk' (C.at u k x)
theorem min2 {a b : Int} {t u : Tok} {Q : Value → Shared → Prop} (C : Cx base h₀ L h m l) (hh : A.handled = none) (q : ∀ t' h' tk', Cx base h₀ L h' m l → Q (.int (min a b) t') ⟨h', g, d, tk', os⟩) : wpAny (model prog w) A (call (.builtin "min") [.int a t, .int b u]) Q E ⟨h, g, d, tk, os⟩ :=
  C.same fun ns N mk => min_two_N (s := ⟨h, g, d, tk, os⟩) hh C.F N fun h' tk' F' N' => by
    rw [show (if b < a then b else a) = min a b by rw [Int.min_def]; split <;> split <;> omega]
    exact q _ _ _ (mk _ _ F' N')
theorem max2 {a b : Int} {t u : Tok} {Q : Value → Shared → Prop} (C : Cx base h₀ L h m l) (hh : A.handled = none) (q : ∀ t' h' tk', Cx base h₀ L h' m l → Q (.int (max a b) t') ⟨h', g, d, tk', os⟩) : wpAny (model prog w) A (call (.builtin "max") [.int a t, .int b u]) Q E ⟨h, g, d, tk, os⟩ :=
  C.same fun ns N mk => max_two_N (s := ⟨h, g, d, tk, os⟩) hh C.F N fun h' tk' F' N' => by
    rw [show (if b > a then b else a) = max a b by rw [Int.max_def]; split <;> split <;> omega]
    exact q _ _ _ (mk _ _ F' N')
end
-- the walk's own words stand under names of the library's that are free here: kbo_bools one step; k_updF a local's value; k_memK small arithmetic; k_allIn an entry of the ledger; k_clsL a def's own facts
local macro_rules | `(tactic| k_memK) => `(tactic| first | omega | decide | (simp; done) | (simp; omega))
local macro_rules | `(tactic| k_updF) => `(tactic| first
  | exact rfl | assumption | (refine (upd_ne (by decide)).trans ?_; k_updF) | (refine (if_neg (by decide)).trans ?_; k_updF))
local macro_rules | `(tactic| k_allIn) => `(tactic| first | exact .head | exact .tail .head | exact .tail (.tail .head) | exact .tail (.tail (.tail .head)) | exact .tail (.tail (.tail (.tail .head))) | exact .tail (.tail (.tail (.tail (.tail .head)))) | exact .tail (.tail (.tail (.tail (.tail (.tail .head))))))
local macro_rules | `(tactic| k_ownIn) => `(tactic| first | exact Cx.get (by assumption) (by k_mem) | exact Cx.old (by assumption) (by assumption))
local macro_rules | `(tactic| k_clsL) => `(tactic| (
  (case ho => k_is); (case hcd => k_is); (case hbind => exact BindsTo.of_eq rfl); (case hloc => exact locs rfl); (case h1 => rfl); (case h2 => rfl); (case h3 => rfl); (case h4 => decide)))
local macro_rules | `(tactic| kbo_bools) => `(tactic| first
  | with_reducible (first | refine cat0 ?_ | refine cat1 ?_ | refine PyProof.Rows.args_nil ?_)
  | ((with_reducible refine PyProof.Rows.args_cons ?_ ?he); (case he => rfl))
  | ((with_reducible show wpAny _ _ (eval (PySem.Expr.Name _ _) _) _ _ _); first
    | (refine' nL (by assumption) ?hv ?_; (case hv => k_updF))
    | (refine' nK (by assumption) (by assumption) ?e ?_; (case e => k_is))
    | (refine' nB (by assumption) (by assumption) ?e ?hv ?_; (case e => k_is); (case hv => boot_by_name)))
  | with_reducible (first | refine wpAny_execs_nil ?_ | refine wpAny_execs_cons ?_ | refine wpAny_If ?_ | refine wpAny_Return_some ?_ | refine wpAny_Return_none ?_)
  | ((with_reducible show wpAny _ _ (exec (Stmt.Assign [PySem.Expr.Name _ _] _ _) _) _ _ _); refine wpAny_Assign_Name ?_ ?hs; case hs => rfl)
  | ((with_reducible show wpAny _ _ (exec (Stmt.Assign [PySem.Expr.Subscript _ _ _] _ _) _) _ _ _); refine wpAny_Assign_Subscript ?_ ?hs; case hs => rfl)
  | ((with_reducible show wpAny _ _ (exec (Stmt.Assign [PySem.Expr.Attribute _ _ _] _ _) _) _ _ _); refine plainObj_wpAny_Assign_Attribute ?_ ?hs; case hs => rfl)
  | ((with_reducible show wpAny _ _ (exec (Stmt.Assign [PySem.Expr.Tuple _ _ _] _ _) _) _ _ _); first | (refine PyProof.Rows.Assign_Tuple ?_ ?hs ?hw; (case hs => rfl); (case hw => rfl)) | (refine' PyProof.Rows.Assign_Tuple_swapped ?_ ?hs ?hw; (case hs => rfl); (case hw => rfl)))
  | ((with_reducible show wpAny _ _ (exec (Stmt.AugAssign _ _ _ _) _) _ _ _); refine wpAny_AugAssign_Name ?_)
  | ((with_reducible show wpAny _ _ (exec (Stmt.Expr _ _) _) _ _ _); refine wpAny_Expr_any ?_ ?hi ?hs; (case hi => rfl); (case hs => rfl))
  | ((with_reducible show wpAny _ _ (storeName _ _ _) _ _ _); (rename Cx _ _ _ _ _ _ => cOld); refine stL cOld ?_; clear cOld; intro _ _)
  | ((with_reducible show wpAny _ _ (loadName _ _) _ _ _); refine' ldL (by assumption) ?hv ?_; (case hv => k_updF))
  | with_reducible (first | refine c_int ?_ | refine c_bool ?_ | refine c_none ?_ | refine c_bytes ?_)
  | ((with_reducible show wpAny _ _ (eval (PySem.Expr.Compare _ _ _ _) _) _ _ _); refine wpAny_Compare1 ?_)
  | ((with_reducible show wpAny _ _ (isTrue (PySem.Expr.Compare _ _ _ _) _ _) _ _ _); refine wpAny_isTrue_Compare1 ?_)
  | (with_reducible refine wpAny_BinOp ?_)
  | ((with_reducible show wpAny _ _ (eval (PySem.Expr.Subscript _ _ _) _) _ _ _); refine PyProof.Rows.Subscript_ ?_)
  | ((with_reducible show wpAny _ _ (eval (PySem.Expr.Call (PySem.Expr.Attribute _ _ _) _ _ _) _) _ _ _); refine' PyProof.Rows.MethodCall_ ?_ ?he; case he => rfl)
  | ((with_reducible show wpAny _ _ (eval (PySem.Expr.Call _ _ _ _) _) _ _ _); refine PyProof.Rows.Call_ ?_ ?he; case he => rfl)
  | ((with_reducible show wpAny _ _ (eval (PySem.Expr.Attribute _ _ _) _) _ _ _); refine PyProof.Rows.Attribute_any_ ?_ ?he; case he => with_unfolding_all rfl)
  | ((with_reducible show wpAny _ _ (eval (PySem.Expr.Tuple _ _ _) _) _ _ _); refine PyProof.Rows.Tuple_ ?_)
  | ((with_reducible show wpAny _ _ (eval (PySem.Expr.List _ _) _) _ _ _); refine PyProof.Rows.List_ ?_)
  | ((with_reducible show wpAny _ _ (callWith _ (Value.type _) _ _ _) _ _ _); refine PyProof.Rows.callWith_type1 ?_)
  | ((with_reducible show wpAny _ _ (callWith _ (Value.builtin _) _ (backTo _ (starEach [] _)) _) _ _ _); refine PyProof.Rows.callWith_method0 ?_)
  | ((with_reducible show wpAny _ _ (callWith _ (Value.builtin _) _ _ _) _ _ _); refine PyProof.Rows.callWith_method1 ?_)
  | ((with_reducible show wpAny _ _ (callWith _ (Value.ref _) _ (backTo _ (starEach [] _)) _) _ _ _); refine' callWith_K0 (K := hd.heap_39 _) ?X ?hk ?_; (case X => exact (Cx.W (by assumption) (by assumption)).X); (case hk => k_is))
  | ((with_reducible show wpAny _ _ (callWith _ (Value.ref _) _ _ _) _ _ _); refine' callWith_K (K := hd.heap_39 _) (Wd.X (by assumption)) ?hk ?_; (case hk => k_is))
  | with_reducible (first | refine call_int_int ?_ | refine i_ofB ?_ | refine i_add ?_ | refine i_iadd ?_ | refine i_sub ?_ | refine i_isub ?_)
  | ((with_reducible refine i_mul ?nm ?_); (case nm => k_memK))
  | ((with_reducible refine i_mod ?nb ?_); (case nb => k_memK))
  | ((with_reducible refine i_div ?nb ?ns ?_); (case nb => k_memK); (case ns => k_memK))
  | with_reducible (first | refine lt_int ?_ | refine gt_int ?_ | refine le_int ?_ | refine ge_int ?_ | refine i_eq ?_ | refine i_ne ?_ | refine i_neg ?_ | refine wpAny_truthy_bool ?_)
  | ((with_reducible show wpAny _ _ (subscriptTail _ _ (Value.ref _) (Value.int _ _)) _ _ _); refine' item_L ?X ?h0 ?h1 ?hx ?_ ?hs; (case X => k_ownIn); (case h0 => k_memK); (case h1 => k_memK); (case hx => (first | exact rfl | assumption)); (case hs => with_unfolding_all rfl))
  | ((with_reducible show wpAny _ _ (setItem (Value.ref _) (Value.int _ _) _) _ _ _); (rename Cx _ _ _ _ _ _ => cOld); refine' setC cOld ?u ?h0 ?h1 ?hz ?_; (case u => k_allIn); (case h0 => k_memK); (case h1 => k_memK); (case hz => k_memK); clear cOld; intro _ _)
  | ((with_reducible show wpAny _ _ (call (Value.builtin "len") [Value.ref _]) _ _ _); refine' len_L ?X ?hz ?_; (case X => k_ownIn); (case hz => (first | assumption | k_memK)))
  | ((with_reducible show wpAny _ _ (call (Value.builtin "len") [Value.bytes _ _]) _ _ _); refine' len_B ?hz ?_; (case hz => (first | assumption | k_memK)))
  | ((with_reducible show wpAny _ _ (getAttr (Value.ref _) _ _) _ _ _); refine' get_parts (Cx.W (by assumption) (by assumption)) ?X ?Y ?_; (case X => k_ownIn); (case Y => k_ownIn))
  | ((with_reducible show wpAny _ _ (getMethod (Value.ref _) _ _) _ _ _); refine' get_meth (Cx.W (by assumption) (by assumption)) ?X ?Y ?hf ?ht ?hn ?hg ?_; (case X => k_ownIn); (case Y => k_ownIn); (case hf => k_is); (case ht => k_is); (case hn => decide); (case hg => k_is))
  | ((with_reducible show wpAny _ _ (getMethod (Value.ref _) (PySem.Str.ofString "append") _) _ _ _); refine' meth_L ?X PySem.F.slot_list_append PySem.F.type_list_append ?_; (case X => k_ownIn))
  | ((with_reducible show wpAny _ _ (getMethod (Value.ref _) (PySem.Str.ofString "insert") _) _ _ _); refine' meth_L ?X PySem.F.slot_list_insert PySem.F.type_list_insert ?_; (case X => k_ownIn))
  | ((with_reducible show wpAny _ _ (getMethod (Value.ref _) (PySem.Str.ofString "extend") _) _ _ _); refine' meth_L ?X PySem.F.slot_list_extend PySem.F.type_list_extend ?_; (case X => k_ownIn))
  | ((with_reducible show wpAny _ _ (getMethod (Value.bytes _ _) _ _) _ _ _); refine meth_join ?_)
  | ((with_reducible show wpAny _ _ (call (Value.builtin "list.append") [Value.ref _, _]) _ _ _); (rename Cx _ _ _ _ _ _ => cOld); refine' appC cOld ?u ?hz ?_; (case u => k_allIn); (case hz => (first | assumption | k_memK)); clear cOld; intro _ _)
  | ((with_reducible show wpAny _ _ (call (Value.builtin "list.insert") [Value.ref _, _, _]) _ _ _); (rename Cx _ _ _ _ _ _ => cOld); refine' insC cOld ?u ?hz ?_; (case u => k_allIn); (case hz => (first | assumption | k_memK)); clear cOld; intro _ _ _)
  | ((with_reducible show wpAny _ _ (setAttr (Value.ref _) _ _) _ _ _); (rename Cx _ _ _ _ _ _ => cOld); refine' set_parts cOld (by assumption) ?X ?u ?_; (case X => k_ownIn); (case u => k_allIn); clear cOld; intro _ _ _)
  | ((with_reducible show wpAny _ _ (newList _) _ _ _); (rename Cx _ _ _ _ _ _ => cOld); refine newList_L cOld ?hz ?_; (case hz => k_memK); clear cOld; intro _ _ _)
  | ((with_reducible show wpAny _ _ (newTuple _) _ _ _); (rename Cx _ _ _ _ _ _ => cOld); refine newTuple_L cOld ?hz ?_; (case hz => k_memK); clear cOld; intro _ _ _)
  | ((with_reducible show wpAny _ _ (assign (PySem.Expr.Tuple _ _ _) _ (Value.ref _)) _ _ _); (rename Cx _ _ _ _ _ _ => cOld); refine' asgT cOld ?X ?hh ?hn ?hs ?_; (case X => k_ownIn); (case hh => (first | assumption | exact Amb.hh (by assumption))); (case hn => rfl); (case hs => rfl); clear cOld; intro _ _)
  | ((with_reducible show wpAny _ _ (unpackItems (Value.ref _) _ _) _ _ _); (rename Cx _ _ _ _ _ _ => cOld); refine' unpT cOld ?X ?hh ?hn ?_; (case X => k_ownIn); (case hh => (first | assumption | exact Amb.hh (by assumption))); (case hn => rfl); clear cOld; intro _ _)
  | ((with_reducible show wpAny _ _ (assignInOrder _ _) _ _ _); first | refine asg_nil ?_ | refine asg_cons ?_)
  | with_reducible (first | refine PyProof.Rows.assign_Name ?_ | refine PyProof.Rows.bindName_ ?_)
  | ((with_reducible show wpAny _ _ (call (Value.builtin "min") [Value.int _ _, Value.int _ _]) _ _ _); (rename Cx _ _ _ _ _ _ => cOld); refine min2 cOld ?hh ?_; (case hh => (first | assumption | exact Amb.hh (by assumption))); clear cOld; intro _ _ _ _)
  | ((with_reducible show wpAny _ _ (call (Value.builtin "max") [Value.int _ _, Value.int _ _]) _ _ _); (rename Cx _ _ _ _ _ _ => cOld); refine max2 cOld ?hh ?_; (case hh => (first | assumption | exact Amb.hh (by assumption))); clear cOld; intro _ _ _ _)
  | ((with_reducible show wpAny _ _ (call (Value.type "range") [Value.int _ _]) _ _ _); (rename Cx _ _ _ _ _ _ => cOld); refine range1 cOld ?_; clear cOld; intro _ _ _ _)
  | ((with_reducible show wpAny _ _ (call (Value.type "range") [Value.int _ _, Value.int _ _]) _ _ _); (rename Cx _ _ _ _ _ _ => cOld); refine range2 cOld ?_; clear cOld; intro _ _ _ _)
  | with_reducible (first | refine sl_ ?_ | refine sl_none ?_ | refine sl_some ?_)
  | ((with_reducible show wpAny _ _ (subscriptTail _ _ (Value.bytes _ _) (Value.ref _)) _ _ _); (rename Cx _ _ _ _ _ _ => cOld); refine' slice_B cOld ?pl ?pu ?hz ?_ ?hs ?ht; (case pl => constructor); (case pu => constructor); (case hz => (first | assumption | k_memK)); (case hs => with_unfolding_all rfl); (case ht => (intro _; with_unfolding_all rfl)); clear cOld; intro _ _ _ _)
  | ((with_reducible show wpAny _ _ (subscriptTail _ _ (Value.ref _) (Value.ref _)) _ _ _); (rename Cx _ _ _ _ _ _ => cOld); refine' slice_L cOld ?X ?pl ?pu ?hz ?_ ?hs; (case X => k_ownIn); (case pl => constructor); (case pu => constructor); (case hz => (first | assumption | k_memK)); (case hs => with_unfolding_all rfl); clear cOld; intro _ _ _)
  | ((with_reducible show wpAny _ _ (subscriptTail _ _ (Value.bytes _ _) (Value.int _ _)) _ _ _); refine' item_B ?hz ?h0 ?h1 ?_ ?hs ?ht; (case hz => (first | assumption | k_memK)); (case h0 => k_memK); (case h1 => k_memK); (case hs => with_unfolding_all rfl); (case ht => (intro _; with_unfolding_all rfl)); intro _ _)
  | ((with_reducible refine add_B ?hz ?_); (case hz => (first | assumption | k_memK)); intro _ _)
  | with_reducible (first | refine eq_B ?_ | refine ne_B ?_)
  | ((with_reducible show wpAny _ _ (call (Value.type "bytes") [Value.bytes _ _]) _ _ _); refine BN.call_new ?_)
  | ((with_reducible show wpAny _ _ (exec (Stmt.For _ _ _ _ _) _) _ _ _); refine wpAny_For ?_ ?hs; (case hs => (intro _; rfl)))
  | ((with_reducible show wpAny _ _ (eval (PySem.Expr.ListComp _ _ _ _) _) _ _ _); refine' compE ?hc ?_ ?h1 ?h2 ?h3; (case hc => rfl); (case h1 => rfl); (case h2 => decide); (case h3 => (intro _; rfl)))
  | ((with_reducible show wpAny _ _ (call (Value.builtin "bytes.join") [_, Value.ref _]) _ _ _); refine' BJ.join ?X ?z ?hz ?_; (case X => k_ownIn); (case z => assumption); (case hz => (first | assumption | k_memK)); intro _ _)
  | with_reducible (first | refine PyProof.Rows.isTrue_not ?_ | refine PyProof.Rows.isTrue_and_nil ?_ | refine PyProof.Rows.isTrue_or_nil ?_ | refine PyProof.Rows.isTrue_and ?_ | refine PyProof.Rows.isTrue_or ?_)
  | ((with_reducible show wpAny _ _ (isTrue (PySem.Expr.Call _ _ _ _) _ _) _ _ _); refine PyProof.Rows.isTrue_plain ?_ ?he; case he => rfl)
  | ((with_reducible show wpAny _ _ (isTrue (PySem.Expr.Name _ _) _ _) _ _ _); refine PyProof.Rows.isTrue_plain ?_ ?he; case he => rfl)
  | with_reducible (first | refine PyProof.Rows.UnaryOp_ ?_ | refine PyProof.Rows.BoolOp_one ?_ | refine PyProof.Rows.BoolOp_and ?_ | refine PyProof.Rows.BoolOp_or ?_)
  | ((with_reducible show wpAny _ _ (eval (PySem.Expr.IfExp _ _ _ _) _) _ _ _); refine wpAny_IfExp ?_)
  | with_reducible (first | refine ifTrue ?_ | refine ifFalse ?_ | refine ifNTrue ?_ | refine ifNFalse ?_)
  | ((with_reducible refine ifF ?c ?_); (case c => (first | with_reducible assumption | omega)))
  | ((with_reducible refine ifT ?c ?_); (case c => (first | with_reducible assumption | omega)))
  | ((with_reducible refine ifNF ?c ?_); (case c => (first | with_reducible assumption | omega)))
  | ((with_reducible refine ifNT ?c ?_); (case c => (first | with_reducible assumption | omega)))
  | ((with_reducible show Frag.In _ _ ∧ _); refine in_W (Cx.W (by assumption) (by assumption)) ?_))
-- T1
/-- the draws' source -/
def Src (o : Obj) : Prop := ∃ b m, 0 ≤ b ∧ 0 ≤ m ∧ m < 2147483648 ∧ LI [b, m] o
section
variable {prog : Program} {w : World} {A : Around} {E : Value → Shared → Prop} {base h₀ h : Heap} {g : Array GenState} {d : Drawn} {tk : Nat} {os : OsState}
theorem take_c {a : Addr} {top : Int} {u : Tok} {Q : Value → Shared → Prop} (W : Wd w base) (G : base.StaysIn h) (am : Amb A 4) (ha : Has h (a, Src)) (hb : base.get? a = none) (h1 : 0 < top) (h2 : top < 1000000)
    (k : ∀ v t h' tk', 0 ≤ v → v < top → Kp [a] h h' → Has h' (a, Src) → Q (.int v t) ⟨h', g, d, tk', os⟩) :
    wpAny (model prog w) A (call (.ref 260) [.ref a, .int top u]) Q E ⟨h, g, d, tk, os⟩ := by
  obtain ⟨o, ho, b, z, b0, z0, z1, vs, hvs, hall⟩ := ha
  obtain ⟨t0, t1, rfl⟩ : ∃ t0 t1, vs = [.int b t0, .int z t1] := by
    cases hall with | cons r1 h1 => cases h1 with | cons r2 h2 => cases h2; obtain ⟨t0, rfl⟩ := r1; obtain ⟨t1, rfl⟩ := r2; exact ⟨t0, t1, rfl⟩
  have hs : Has h (a, LsO [.int b t0, .int z t1]) := ⟨o, ho, hvs⟩
  refine' callN W G [(a, LsO [.int b t0, .int z t1])] (by simpa using ⟨hb, hs⟩) (by simp) am ?ho ?hcd ?hbind ?hloc ?_ ?h1 ?h2 ?h3 ?h4
  k_clsL
  have fm : ∀ x y : Int, 0 < y → 0 ≤ x.fmod y ∧ x.fmod y < y := fun x y hy => ⟨Int.fmod_nonneg_of_pos x hy, Int.fmod_lt_of_pos x hy⟩
  have f1 := fm (z * 39373 + 7) 2147483647 (by decide)
  have out : ∀ {b z : Int} {t t' L m h'}, 0 ≤ b → 0 ≤ z → z < 2147483648 → Cx base (hideAll h [a]) L h' m [(a, LsO [.int b t, .int z t'])] → Kp [a] h h' ∧ Has h' (a, Src) := fun h0 h1 h2 C =>
    ⟨C.out, let ⟨o, e, q⟩ := C.get (List.Mem.head _); ⟨o, e, _, _, h0, h1, h2, _, q, .cons ⟨_, rfl⟩ (.cons ⟨_, rfl⟩ .nil)⟩⟩
  intro h₁ L C am
  repeat kbo_bools
  refine ifD (fun c => ?_) (fun c => ?_)
  · repeat kbo_bools
    rename Cx _ _ _ _ _ _ => C'
    obtain ⟨e1, e2⟩ := out (Int.fdiv_nonneg b0 (Int.le_of_lt h1)) z0 z1 C'
    exact k _ _ _ _ (fm b top h1).1 (fm b top h1).2 e1 e2
  · repeat kbo_bools
    rename Cx _ _ _ _ _ _ => C'
    obtain ⟨e1, e2⟩ := out b0 f1.1 (by omega) C'
    exact k _ _ _ _ (fm _ top h1).1 (fm _ top h1).2 e1 e2
end
-- C1
section
variable {prog : Program} {w : World} {A : Around} {E : Value → Shared → Prop} {base h₀ h : Heap} {g : Array GenState} {d : Drawn} {tk : Nat} {os : OsState}
variable {x dx l : Addr} {ps : List (List UInt8)} {Q : Value → Shared → Prop}

theorem take_flat {ps : List (List UInt8)} {p : List UInt8} {i : Nat} (e : ps[i]? = some p) : (ps.take (i + 1)).flatten = (ps.take i).flatten ++ p := by
  rw [List.take_add_one, e]; simp
theorem part_le {ps : List (List UInt8)} {p : List UInt8} {i : Nat} (e : ps[i]? = some p) : p.length ≤ ps.flatten.length := by
  have h1 := congrArg List.length (take_flat e)
  have h2 : ps.flatten = (ps.take (i + 1)).flatten ++ (ps.drop (i + 1)).flatten := by rw [← List.flatten_append, List.take_append_drop]
  rw [h2, List.length_append, h1, List.length_append]
  omega

theorem size_c (W : Wd w base) (G : base.StaysIn h) (am : Amb A 3) (c : Ch base h x dx l ps)
    (k : ∀ t h' tk', Kp [] h h' → Q (.int ps.flatten.length t) ⟨h', g, d, tk', os⟩) :
    wpAny (model prog w) A (call (.ref 72) [.ref x]) Q E ⟨h, g, d, tk, os⟩ := by
  obtain ⟨vs, hl, z⟩ := has_LR c.il
  have hz := c.sz
  have hx := c.ix
  have hd' := c.id
  refine' callN W G [] (by simp) (by simp) am ?ho ?hcd ?hbind ?hloc ?_ ?h1 ?h2 ?h3 ?h4
  k_clsL
  intro h₁ L C am
  repeat kbo_bools
  rename Cx _ _ _ _ _ _ => C
  refine iter_L C (C.old hl) am.hh fun I h₂ T kp C => ?_
  refine forI T (fun i m l => l = [] ∧ ∃ n t, m "total" = some (.int n t) ∧ n = ((ps.take i).flatten.length : Int)) C ⟨rfl, _, _, rfl, by simp⟩ (fun i m l h' _ C => C.old hl) ?_ ?_ rfl rfl rfl
  · rintro i v m₁ l₁ h₁ tk₁ hi hv ⟨rfl, n, t, ht, rfl⟩ C K kn kr
    obtain ⟨p, hp, t', rfl⟩ := z.get' hv
    have hp1 := part_le hp
    repeat kbo_bools
    rename Cx _ _ _ _ _ _ => C
    exact kn _ ⟨_, _, _, _, rfl, C, rfl, _, _, rfl, by rw [take_flat hp]; simp⟩
  · rintro h' tk' m' l' ⟨rfl, n, t, ht, rfl⟩ C
    repeat kbo_bools
    have := k t h' tk' C.out
    rw [z.length, List.take_length]
    exact this

theorem size_x {L : Addr} {m : Str → Option Value} {f : List Fact} (C : Cx base h₀ L h m f) (W : Wd w base) (am : Amb A 3) (c : Ch base h x dx l ps)
    (k : ∀ t h' tk', Kp [] h h' → Cx base h₀ L h' m f → Q (.int ps.flatten.length t) ⟨h', g, d, tk', os⟩) :
    wpAny (model prog w) A (call (.ref 72) [.ref x]) Q E ⟨h, g, d, tk, os⟩ := size_c W C.G am c fun t h' tk' kp => k t h' tk' kp (C.kp kp)

theorem count_c (W : Wd w base) (G : base.StaysIn h) (am : Amb A 3) (c : Ch base h x dx l ps) (k : ∀ t h' tk', Kp [] h h' → Q (.int ps.length t) ⟨h', g, d, tk', os⟩) :
    wpAny (model prog w) A (call (.ref 79) [.ref x]) Q E ⟨h, g, d, tk, os⟩ := by
  obtain ⟨vs, hl, z⟩ := has_LR c.il
  have hz := c.sz
  have hn := c.cnt
  have hv := z.length
  have hx := c.ix
  have hd' := c.id
  refine' callN W G [] (by simp) (by simp) am ?ho ?hcd ?hbind ?hloc ?_ ?h1 ?h2 ?h3 ?h4
  k_clsL
  intro h₁ L C am
  repeat kbo_bools
  rw [z.length]
  exact k _ _ _ C.out

theorem empty_c (W : Wd w base) (G : base.StaysIn h) (am : Amb A 3) (c : Ch base h x dx l ps) (k : ∀ h' tk', Kp [] h h' → Q (.bool (decide (ps.flatten = []))) ⟨h', g, d, tk', os⟩) :
    wpAny (model prog w) A (call (.ref 86) [.ref x]) Q E ⟨h, g, d, tk, os⟩ := by
  obtain ⟨vs, hl, z⟩ := has_LR c.il
  have hz := c.sz
  have hn := c.cnt
  have hv := z.length
  have hx := c.ix
  have hd' := c.id
  refine' callN W G [] (by simp) (by simp) am ?ho ?hcd ?hbind ?hloc ?_ ?h1 ?h2 ?h3 ?h4
  k_clsL
  intro h₁ L C am
  repeat kbo_bools
  have e : decide ((vs.length : Int) = 0) = decide (ps.flatten = []) := by
    rw [decide_eq_decide, hv]
    constructor
    · intro q
      have : ps = [] := List.length_eq_zero_iff.mp (by omega)
      rw [this]; rfl
    · intro q
      rw [q] at hn
      simp at hn
      rw [hn]; rfl
  rw [← e] at k
  exact k _ _ C.out

theorem octets_c (W : Wd w base) (G : base.StaysIn h) (am : Amb A 3) (c : Ch base h x dx l ps) (k : ∀ t h' tk', Kp [] h h' → Q (.bytes ps.flatten.toArray t) ⟨h', g, d, tk', os⟩) :
    wpAny (model prog w) A (call (.ref 93) [.ref x]) Q E ⟨h, g, d, tk, os⟩ := by
  obtain ⟨vs, hl, z⟩ := has_LR c.il
  have hz := c.sz
  have hx := c.ix
  have hd' := c.id
  refine' callN W G [] (by simp) (by simp) am ?ho ?hcd ?hbind ?hloc ?_ ?h1 ?h2 ?h3 ?h4
  k_clsL
  intro h₁ L C am
  repeat kbo_bools
  exact k _ _ _ C.out

theorem sizes_c (W : Wd w base) (G : base.StaysIn h) (am : Amb A 3) (c : Ch base h x dx l ps) (k : ∀ a h' tk', Kp [] h h' → h.get? a = none → Has h' (a, LI (ps.map fun p => (p.length : Int))) → Q (.ref a) ⟨h', g, d, tk', os⟩) :
    wpAny (model prog w) A (call (.ref 98) [.ref x]) Q E ⟨h, g, d, tk, os⟩ := by
  obtain ⟨vs, hl, z⟩ := has_LR c.il
  have hz := c.sz
  have hn := c.cnt
  have hx := c.ix
  have hd' := c.id
  refine' callN W G [] (by simp) (by simp) am ?ho ?hcd ?hbind ?hloc ?_ ?h1 ?h2 ?h3 ?h4
  k_clsL
  intro h₁ L C am
  repeat kbo_bools
  rename Cx _ _ _ _ _ _ => C
  refine iter_L C (C.old hl) am.hh fun I h₂ T kp C => ?_
  refine compL T (fun i ys l => l = [] ∧ All2 IsI ((ps.take i).map fun p => (p.length : Int)) ys) C ⟨rfl, by simpa using .nil⟩ ?_ (fun i ys D F Lc m' l h' _ C => C.old hl) ?_ ?_ (by decide) rfl rfl
  · rintro i ys l ⟨rfl, z'⟩
    rw [z'.length]; simp; omega
  · rintro i v ys l₁ Lc h₁ tk₁ m₁ D hi hv ⟨rfl, z'⟩ hm C
    obtain ⟨p, hp, t', rfl⟩ := z.get' hv
    have hp1 := part_le hp
    refine ifs0 ?_
    repeat kbo_bools
    rename Cx _ _ _ _ _ _ => C
    refine ⟨_, _, _, _, rfl, C, rfl, ?_⟩
    rw [List.take_add_one, hp, List.map_append]
    exact z'.snoc ⟨_, rfl⟩
  · rintro h' tk' D ys l' ⟨rfl, z'⟩ C
    rw [z.length, List.take_length] at z'
    exact k _ _ _ C.out (C.fresh (List.Mem.head _) (by simp)) (LR_of (C.get (List.Mem.head _)) z')
end
-- the contracts, as steps
local macro_rules | `(tactic| k_places) => `(tactic| first | assumption | exact Ch.old (by assumption) (by assumption))
local macro_rules | `(tactic| kbo_bools) => `(tactic| first
  | ((with_reducible show wpAny _ _ (call (Value.ref 72) _) _ _ _); (rename Cx _ _ _ _ _ _ => cOld); refine' size_x cOld (by assumption) (Amb.mono (by assumption) (by decide)) ?c ?_; (case c => k_places); clear cOld; intro _ _ _ _ _))
-- C2
section
variable {prog : Program} {w : World} {A : Around} {E : Value → Shared → Prop} {base h₀ h : Heap} {g : Array GenState} {d : Drawn} {tk : Nat} {os : OsState}
variable {x dx l : Addr} {ps : List (List UInt8)} {Q : Value → Shared → Prop} {at_ size many : Int} {u u' : Tok}

theorem Cx.drop2 {L : Addr} {m : Str → Option Value} {a b : Fact} {l : List Fact} (C : Cx base h₀ L h m (a :: b :: l)) : Cx base h₀ L h m (a :: l) := C.drop (.cons_cons _ (.cons _ (.refl _)))
theorem Cx.drop1 {L : Addr} {m : Str → Option Value} {a : Fact} {l : List Fact} (C : Cx base h₀ L h m (a :: l)) : Cx base h₀ L h m l := C.drop (.cons _ (.refl _))

theorem check_c (W : Wd w base) (G : base.StaysIn h) (am : Amb A 4) (c : Ch base h x dx l ps) (h0 : 0 ≤ at_) (h1 : 0 ≤ size) (h2 : at_ + size ≤ ps.flatten.length)
    (k : ∀ h' tk', Kp [] h h' → Q .none ⟨h', g, d, tk', os⟩) :
    wpAny (model prog w) A (call (.ref 105) [.ref x, .int at_ u, .int size u']) Q E ⟨h, g, d, tk, os⟩ := by
  have hx := c.ix
  have hd' := c.id
  refine' callN W G [] (by simp) (by simp) am ?ho ?hcd ?hbind ?hloc ?_ ?h1 ?h2 ?h3 ?h4
  k_clsL
  intro h₁ L C am
  repeat kbo_bools
  rename Cx _ _ _ _ _ _ => C
  exact k _ _ C.out

/-- where an octet stands -/
structure Place (ps : List (List UInt8)) (n : Int) (i r : Nat) : Prop where
  le : i ≤ ps.length
  sum : ((ps.take i).flatten.length : Int) + r = n
  lt : ∀ p, ps[i]? = some p → r < p.length
  end_ : i = ps.length → r = 0

/-- what holds between the turns -/
inductive PlaceJ (ps : List (List UInt8)) (x : Addr) (at_ : Int) (i : Nat) (m : Str → Option Value) (f : List Fact) : Prop
  | mk (h0 : f = []) (h1 : m "self" = some (.ref x)) (h2 : ((ps.take i).flatten.length : Int) ≤ at_) (n : Int) (t : Tok) (g0 : m "left" = some (.int n t)) (g1 : n = at_ - (ps.take i).flatten.length)
theorem place_c (W : Wd w base) (G : base.StaysIn h) (am : Amb A 4) (c : Ch base h x dx l ps) (h0 : 0 ≤ at_) (h1 : at_ ≤ ps.flatten.length)
    (k : ∀ a i r t t' h' tk', Kp [] h h' → h.get? a = none → Has h' (a, TuO [.int (i : Nat) t, .int (r : Nat) t']) → Place ps at_ i r → Q (.ref a) ⟨h', g, d, tk', os⟩) :
    wpAny (model prog w) A (call (.ref 112) [.ref x, .int at_ u]) Q E ⟨h, g, d, tk, os⟩ := by
  obtain ⟨vs, hl, z⟩ := has_LR c.il
  have hz := c.sz
  have hn := c.cnt
  have hv := z.length
  have hx := c.ix
  have hd' := c.id
  refine' callN W G [] (by simp) (by simp) am ?ho ?hcd ?hbind ?hloc ?_ ?h1 ?h2 ?h3 ?h4
  k_clsL
  intro h₁ L C am
  repeat kbo_bools
  rename Cx _ _ _ _ _ _ => C
  refine iter_R C (C.get (List.Mem.head _)) am.hh (by decide) (by decide) (by omega) (by omega) fun I h₂ T C => ?_
  replace C := C.drop2
  have e0 : ((vs.length : Int) - 0).toNat = ps.length := by omega
  rw [e0] at T C
  refine forI T (PlaceJ ps x at_) C ⟨rfl, rfl, by simpa using h0, _, _, rfl, by simp⟩ (fun i m l h' _ C => trivial) ?_ ?_ rfl rfl rfl
  · rintro i v m₁ l₁ h₁ tk₁ hi ⟨ti, rfl⟩ ⟨rfl, hs, hle, n, t, ht, rfl⟩ C K kn kr
    obtain ⟨p, hp⟩ : ∃ p, ps[i]? = some p := ⟨_, List.getElem?_eq_getElem hi⟩
    obtain ⟨v, hvi, t', rfl⟩ := z.get hp
    have hvi' : vs[((0 : Int) + (i : Nat)).toNat]? = some (.bytes p.toArray t') := by rw [show ((0 : Int) + (i : Nat)).toNat = i by omega]; exact hvi
    have hp1 := part_le hp
    repeat kbo_bools
    refine ifD (fun cc => ?_) (fun cc => ?_)
    · repeat kbo_bools
      rename Cx _ _ _ _ _ _ => C
      have e1 : (0 : Int) + (i : Nat) = (i : Nat) := by omega
      have e2 : at_ - ((ps.take i).flatten.length : Int) = ((at_ - (ps.take i).flatten.length).toNat : Nat) := by omega
      rw [e1, e2] at C
      refine kr _ _ ?_
      exact k _ i (at_ - (ps.take i).flatten.length).toNat _ _ _ _ C.out (C.fresh (List.Mem.head _) (by simp)) (C.get (List.Mem.head _))
        ⟨by omega, by omega, (fun q hq => by rw [hp] at hq; cases hq; omega), fun q => by omega⟩
    · repeat kbo_bools
      rename Cx _ _ _ _ _ _ => C
      exact kn _ ⟨_, _, _, _, rfl, C, rfl, by k_updF, by rw [take_flat hp, List.length_append]; omega, _, _, rfl, by rw [take_flat hp, List.length_append]; omega⟩
  · rintro h' tk' m' l' ⟨rfl, hs, hle, n, t, ht, rfl⟩ C
    repeat kbo_bools
    rename Cx _ _ _ _ _ _ => C
    rw [List.take_length] at hle
    rw [hv] at C
    exact k _ ps.length 0 _ _ _ _ C.out (C.fresh (List.Mem.head _) (by simp)) (C.get (List.Mem.head _))
      ⟨Nat.le_refl _, by rw [List.take_length]; omega, (fun q hq => by rw [List.getElem?_eq_none (Nat.le_refl _)] at hq; cases hq), fun q => rfl⟩
end
-- C3
theorem Cx.only {base h₀ h : Heap} {L : Addr} {m : Str → Option Value} {l : List Fact} {a : Addr} {φ : Obj → Prop} (C : Cx base h₀ L h m l) (x : (a, φ) ∈ l) : Cx base h₀ L h m [(a, φ)] := C.sub (by simpa using x) (by simp)
section
variable {prog : Program} {w : World} {A : Around} {E : Value → Shared → Prop} {base h₀ h : Heap} {g : Array GenState} {d : Drawn} {tk : Nat} {os : OsState}
variable {x dx l L : Addr} {m : Str → Option Value} {f : List Fact} {ps : List (List UInt8)} {Q : Value → Shared → Prop} {at_ size many : Int} {u u' : Tok}
theorem check_x (C : Cx base h₀ L h m f) (W : Wd w base) (am : Amb A 4) (c : Ch base h x dx l ps) (h0 : 0 ≤ at_) (h1 : 0 ≤ size) (h2 : at_ + size ≤ ps.flatten.length)
    (k : ∀ h' tk', Cx base h₀ L h' m f → Q .none ⟨h', g, d, tk', os⟩) :
    wpAny (model prog w) A (call (.ref 105) [.ref x, .int at_ u, .int size u']) Q E ⟨h, g, d, tk, os⟩ := check_c W C.G am c h0 h1 h2 fun h' tk' kp => k h' tk' (C.kp kp)
theorem place_x (C : Cx base h₀ L h m f) (W : Wd w base) (am : Amb A 4) (c : Ch base h x dx l ps) (h0 : 0 ≤ at_) (h1 : at_ ≤ ps.flatten.length)
    (k : ∀ a i r t t' h' tk', Cx base h₀ L h' m ((a, TuO [.int (i : Nat) t, .int (r : Nat) t']) :: f) → Place ps at_ i r → Q (.ref a) ⟨h', g, d, tk', os⟩) :
    wpAny (model prog w) A (call (.ref 112) [.ref x, .int at_ u]) Q E ⟨h, g, d, tk, os⟩ := place_c W C.G am c h0 h1 fun a i r t t' h' tk' kp hn x p => k a i r t t' h' tk' (C.add (C.kp kp) rfl hn x) p
end

theorem ne_len : ∀ {qs : List (List UInt8)}, (∀ q ∈ qs, q ≠ []) → qs.length ≤ qs.flatten.length
  | [], _ => by simp
  | q :: r, h => by
    have h1 := ne_len (qs := r) fun q hq' => h q (.tail _ hq')
    have h2 : q.length ≠ 0 := fun k => h q (.head _) (List.length_eq_zero_iff.mp k)
    simp only [List.length_cons, List.flatten_cons, List.length_append]
    omega
/-- what is left of a chain from a place on -/
def rest (ps : List (List UInt8)) (i r : Nat) : List UInt8 := (ps.drop i).flatten.drop r
theorem flat_split (ps : List (List UInt8)) (i : Nat) : ps.flatten = (ps.take i).flatten ++ (ps.drop i).flatten := by rw [← List.flatten_append, List.take_append_drop]
theorem Place.rest {ps : List (List UInt8)} {n : Int} {i r : Nat} (p : Place ps n i r) : NU.rest ps i r = ps.flatten.drop n.toNat := by
  have e : n.toNat = (ps.take i).flatten.length + r := by have := p.sum; omega
  rw [e, flat_split ps i, ← List.drop_drop, List.drop_left]
  rfl
theorem rest_cons {ps : List (List UInt8)} {i r : Nat} {p : List UInt8} (e : ps[i]? = some p) (h : r ≤ p.length) : rest ps i r = p.drop r ++ rest ps (i + 1) 0 := by
  obtain ⟨hi, rfl⟩ := List.getElem?_eq_some_iff.mp e
  unfold rest
  rw [List.drop_eq_getElem_cons hi, List.flatten_cons, List.drop_append_of_le_length h, List.drop_zero]
theorem rest_end {ps : List (List UInt8)} {i r : Nat} (h : ps.length ≤ i) : rest ps i r = [] := by
  unfold rest; rw [List.drop_of_length_le h]; simp
/-- a walk along a chain: a place that stands before an octet -/
structure Walk (ps : List (List UInt8)) (i r : Nat) : Prop where
  lt : ∀ p, ps[i]? = some p → r < p.length
theorem Walk.next {ps : List (List UInt8)} (ne : ∀ p ∈ ps, p ≠ []) (i : Nat) : Walk ps i 0 := ⟨fun p e => List.length_pos_iff.mpr (ne p (List.mem_of_getElem? e))⟩
theorem Walk.part {ps : List (List UInt8)} {i r k : Nat} (h : 0 < k) (hk : k ≤ (rest ps i r).length) : ∃ p, ps[i]? = some p := by
  rcases Nat.lt_or_ge i ps.length with q | q
  · exact ⟨_, List.getElem?_eq_getElem q⟩
  · rw [rest_end q] at hk; simp at hk; omega
theorem piece_len {p : List UInt8} {r k : Nat} : ((p.drop r).take k).length = min k (p.length - r) := by simp
theorem rest_take {ps : List (List UInt8)} {i r k : Nat} {p : List UInt8} (e : ps[i]? = some p) (h : r ≤ p.length) :
    (rest ps i r).take k = (p.drop r).take k ++ (rest ps (i + 1) 0).take (k - ((p.drop r).take k).length) := by
  rw [rest_cons e h, List.take_append, piece_len, List.length_drop]
  congr 2
  omega
theorem rest_len {ps : List (List UInt8)} {i r k : Nat} {p : List UInt8} (e : ps[i]? = some p) (h : r ≤ p.length) (hk : k ≤ (rest ps i r).length) : k - ((p.drop r).take k).length ≤ (rest ps (i + 1) 0).length := by
  rw [rest_cons e h, List.length_append, List.length_drop] at hk
  rw [piece_len]
  omega
-- the contracts, as steps
local macro_rules | `(tactic| k_places) => `(tactic| first | assumption | exact Ch.old (by assumption) (by assumption))
local macro_rules | `(tactic| kbo_bools) => `(tactic| first
  | ((with_reducible show wpAny _ _ (call (Value.ref 72) _) _ _ _); (rename Cx _ _ _ _ _ _ => cOld); refine' size_x cOld (by assumption) (Amb.mono (by assumption) (by decide)) ?c ?_; (case c => k_places); clear cOld; intro _ _ _ _ _)
  | ((with_reducible show wpAny _ _ (call (Value.ref 105) _) _ _ _); (rename Cx _ _ _ _ _ _ => cOld); refine' check_x cOld (by assumption) (Amb.mono (by assumption) (by decide)) ?c ?h0 ?h1 ?h2 ?_; (case c => k_places); (case h0 => (first | assumption | omega)); (case h1 => (first | assumption | omega)); (case h2 => (first | assumption | omega)); clear cOld; intro _ _ _))
-- C4
section
variable {prog : Program} {w : World} {A : Around} {E : Value → Shared → Prop} {base h₀ h : Heap} {g : Array GenState} {d : Drawn} {tk : Nat} {os : OsState}
variable {x dx l : Addr} {ps : List (List UInt8)} {Q : Value → Shared → Prop} {at_ size many : Int} {u u' : Tok}

theorem octet_c (W : Wd w base) (G : base.StaysIn h) (am : Amb A 5) (c : Ch base h x dx l ps) (h0 : 0 ≤ at_) (h1 : at_ < ps.flatten.length)
    (k : ∀ t h' tk', Kp [] h h' → Q (.int (ps.flatten.getD at_.toNat 0).toNat t) ⟨h', g, d, tk', os⟩) :
    wpAny (model prog w) A (call (.ref 119) [.ref x, .int at_ u]) Q E ⟨h, g, d, tk, os⟩ := by
  obtain ⟨vs, hl, z⟩ := has_LR c.il
  have hz := c.sz
  have hn := c.cnt
  have hv := z.length
  have hx := c.ix
  have hd' := c.id
  refine' callN W G [] (by simp) (by simp) am ?ho ?hcd ?hbind ?hloc ?_ ?h1 ?h2 ?h3 ?h4
  k_clsL
  intro h₁ L C am
  repeat kbo_bools
  rename Cx _ _ _ _ _ _ => C
  refine place_x C W (am.mono (by decide)) (Ch.old C c) h0 (by omega) fun t i r t1 t2 h₂ tk₂ C pl => ?_
  repeat kbo_bools
  obtain ⟨p, hp⟩ := Walk.part (ps := ps) (i := i) (r := r) (k := 1) (by decide) (by rw [pl.rest, List.length_drop]; omega)
  obtain ⟨v, hvi, t', rfl⟩ := z.get hp
  have hle := pl.le
  have hlt := pl.lt p hp
  have hp1 := part_le hp
  have hz' : p.length ≤ 1000000 := by omega
  have e := congrArg (fun q : List UInt8 => q.getD 0 0) pl.rest
  rw [rest_cons hp (Nat.le_of_lt hlt)] at e
  have e' : (ps.flatten.getD at_.toNat 0) = p.getD r 0 := by
    refine Eq.trans ?_ (e.symm.trans ?_)
    · simp [List.getD_eq_getElem?_getD]
    · rw [List.getD_eq_getElem?_getD, List.getElem?_append_left (by rw [List.length_drop]; omega), List.getElem?_drop, Nat.add_zero, List.getD_eq_getElem?_getD]
  repeat kbo_bools
  rename Cx _ _ _ _ _ _ => C
  have := k
  rw [e'] at k
  exact k _ _ _ C.out
/-- what holds between the turns -/
inductive PiecesJ (ps : List (List UInt8)) (x : Addr) (at_ size : Int) (n : Nat) (m : Str → Option Value) (f : List Fact) : Prop
  | mk (a : Addr) (qs : List (List UInt8)) (us : List Value) (i r lf : Nat) (t t' t'' : Tok) (h0 : f = [(a, LsO us)]) (h1 : All2 IsB qs us) (h2 : ∀ q ∈ qs, q ≠ []) (h3 : m "self" = some (.ref x)) (h4 : m "found" = some (.ref a)) (h5 : m "left" = some (.int (lf : Nat) t)) (h6 : m "index" = some (.int (i : Nat) t')) (h7 : m "inner" = some (.int (r : Nat) t'')) (h8 : i ≤ ps.length) (h9 : Walk ps i r) (h10 : lf ≤ (rest ps i r).length) (h11 : qs.flatten ++ (rest ps i r).take lf = (ps.flatten.drop at_.toNat).take size.toNat) (h12 : n = lf)
theorem pieces_c (W : Wd w base) (G : base.StaysIn h) (am : Amb A 5) (c : Ch base h x dx l ps) (h0 : 0 ≤ at_) (hs : 0 ≤ size) (h1 : at_ + size ≤ ps.flatten.length)
    (k : ∀ a qs h' tk', Kp [] h h' → h.get? a = none → base.get? a = none → Has h' (a, LB qs) → qs.flatten = (ps.flatten.drop at_.toNat).take size.toNat → (∀ q ∈ qs, q ≠ []) → Q (.ref a) ⟨h', g, d, tk', os⟩) :
    wpAny (model prog w) A (call (.ref 126) [.ref x, .int at_ u, .int size u']) Q E ⟨h, g, d, tk, os⟩ := by
  obtain ⟨vs, hl, z⟩ := has_LR c.il
  have hz := c.sz
  have hn := c.cnt
  have hv := z.length
  have hx := c.ix
  have hd' := c.id
  refine' callN W G [] (by simp) (by simp) am ?ho ?hcd ?hbind ?hloc ?_ ?h1 ?h2 ?h3 ?h4
  k_clsL
  intro h₁ L C am
  repeat kbo_bools
  rename Cx _ _ _ _ _ _ => C
  refine place_x C W (am.mono (by decide)) (Ch.old C c) h0 (by omega) fun t i r t1 t2 h₂ tk₂ C pl => ?_
  repeat kbo_bools
  rename Cx _ _ _ _ _ _ => C
  have hle := pl.le
  have hrest := pl.rest
  refine whileC (PiecesJ ps x at_ size) (C.only (φ := LsO []) (by k_mem)) (n := size.toNat)
    ⟨_, [], [], i, r, size.toNat, u', t1, t2, rfl, .nil, by simp, rfl, rfl, (by rw [Int.toNat_of_nonneg hs]; rfl), rfl, rfl, hle, ⟨pl.lt⟩, (by rw [hrest, List.length_drop]; omega), (by rw [hrest]; rfl), rfl⟩ ?_
  rintro n m₁ f₁ h₁ tk₁ ⟨a, qs, us, i, r, lf, t, t', t'', rfl, zq, hq, ms, mf, ml, mi, mr, hi, wk, hlen, hcol, rfl⟩ C
  repeat kbo_bools
  refine ifD (fun cc => ?_) (fun cc => ?_)
  · intro K kn kr
    obtain ⟨p, hp⟩ := Walk.part (k := n) (by omega) hlen
    obtain ⟨v, hvi, tv, rfl⟩ := z.get hp
    have hlt := wk.lt p hp
    have hp1 := part_le hp
    have hz' : p.length ≤ 1000000 := by omega
    have e : cut p (some (r : Int)) (some ((r : Int) + (n : Int))) = (p.drop r).take n := by rw [← Int.natCast_add, cut_run]; congr 1; omega
    have hc : (cut p (some (r : Int)) (some ((r : Int) + (n : Int)))).length ≤ 1000000 := Nat.le_trans (cut_length _ _) hz'
    have hu : us.length ≤ 1000000 := by
      rw [zq.length]
      have h3 := congrArg List.length hcol
      rw [List.length_append, List.length_take, List.length_take, List.length_drop] at h3
      have := ne_len hq
      omega
    repeat kbo_bools
    rename Cx _ _ _ _ _ _ => C
    have h4 := rest_len hp (Nat.le_of_lt hlt) hlen
    have h5 := piece_len (p := p) (r := r) (k := n)
    have h6 : ((n - ((p.drop r).take n).length : Nat) : Int) = (n : Int) - ((cut p (some (r : Int)) (some ((r : Int) + (n : Int)))).length : Nat) := by rw [e, h5]; omega
    refine kn _ ⟨n - ((p.drop r).take n).length, _, _, _, _, by rw [h5]; omega, rfl, C, a, qs ++ [(p.drop r).take n], _, i + 1, 0, n - ((p.drop r).take n).length, _, _, _, rfl, ?_, ?_, by k_updF, by k_updF, (by rw [h6]; rfl), rfl, rfl, ?_, Walk.next c.ne _, h4, ?_, rfl⟩
    · exact zq.snoc ⟨_, by rw [e]⟩
    · intro q hq'
      rcases List.mem_append.mp hq' with h6 | h6
      · exact hq q h6
      · rw [List.mem_singleton.mp h6]
        intro h7
        rw [h7] at h5
        simp at h5
        omega
    · have := (List.getElem?_eq_some_iff.mp hp).1; omega
    · rw [List.flatten_append, List.flatten_singleton, List.append_assoc, ← rest_take hp (Nat.le_of_lt hlt)]; exact hcol
  · have h0 : n = 0 := by omega
    subst h0
    repeat kbo_bools
    rename Cx _ _ _ _ _ _ => C
    refine k a qs _ _ C.out (C.fresh (List.Mem.head _) (by simp)) (C.nobase (List.Mem.head _)) (LR_of (C.get (List.Mem.head _)) zq) ?_ hq
    rw [← hcol]; simp
end
-- C5
/-- the parts that are kept -/
def full (ps : List (List UInt8)) : List (List UInt8) := ps.filter fun p => decide (p ≠ [])
theorem full_flat (ps : List (List UInt8)) : (full ps).flatten = ps.flatten := by
  induction ps with
  | nil => rfl
  | cons p r ih =>
    unfold full at ih ⊢
    by_cases h : p = []
    · subst h; simpa using ih
    · rw [List.filter_cons_of_pos (by simpa using h), List.flatten_cons, List.flatten_cons, ih]
theorem full_ne (ps : List (List UInt8)) : ∀ p ∈ full ps, p ≠ [] := fun p h => by have := (List.mem_filter.mp h).2; simpa using this
theorem full_id {ps : List (List UInt8)} (h : ∀ p ∈ ps, p ≠ []) : full ps = ps := List.filter_eq_self.mpr fun p q => by simpa using h p q
theorem full_len (ps : List (List UInt8)) : (full ps).length ≤ ps.length := List.length_filter_le _ _
theorem full_snoc (ps : List (List UInt8)) (p : List UInt8) : full (ps ++ [p]) = full ps ++ (if p = [] then [] else [p]) := by
  unfold full
  rw [List.filter_append]
  by_cases h : p = [] <;> simp [h]
theorem full_take {ps : List (List UInt8)} {i : Nat} {p : List UInt8} (e : ps[i]? = some p) : full (ps.take (i + 1)) = full (ps.take i) ++ (if p = [] then [] else [p]) := by
  rw [List.take_add_one, e]; exact full_snoc _ _

section
variable {prog : Program} {w : World} {A : Around} {E : Value → Shared → Prop} {base h₀ h : Heap} {g : Array GenState} {d : Drawn} {tk : Nat} {os : OsState}
variable {x dx l L a : Addr} {m : Str → Option Value} {f f' : List Fact} {ps : List (List UInt8)} {Q : Value → Shared → Prop} {at_ size many : Int} {u u' : Tok}

theorem filled_c (W : Wd w base) (G : base.StaysIn h) (am : Amb A 3) (ha : Has h (a, LB ps)) (hn : ps.length ≤ 1000) (hz : ps.flatten.length ≤ 1000)
    (k : ∀ b h' tk', Kp [] h h' → h.get? b = none → Has h' (b, LB (full ps)) → Q (.ref b) ⟨h', g, d, tk', os⟩) :
    wpAny (model prog w) A (call (.ref 51) [.ref a]) Q E ⟨h, g, d, tk, os⟩ := by
  obtain ⟨vs, hl, z⟩ := has_LR ha
  refine' callN W G [] (by simp) (by simp) am ?ho ?hcd ?hbind ?hloc ?_ ?h1 ?h2 ?h3 ?h4
  k_clsL
  intro h₁ L C am
  repeat kbo_bools
  rename Cx _ _ _ _ _ _ => C
  refine iter_L C (C.old hl) am.hh fun I h₂ T kp C => ?_
  refine compL T (fun i ys l => l = [] ∧ All2 IsB (full (ps.take i)) ys) C ⟨rfl, by simpa [full] using .nil⟩ ?_ (fun i ys D F Lc m' l h' _ C => C.old hl) ?_ ?_ (by decide) rfl rfl
  · rintro i ys l ⟨rfl, z'⟩
    have := full_len (ps.take i)
    rw [z'.length]; rw [List.length_take] at this; omega
  · rintro i v ys l₁ Lc h₁ tk₁ m₁ D hi hv ⟨rfl, z'⟩ hm C
    obtain ⟨p, hp, t', rfl⟩ := z.get' hv
    have hp1 := part_le hp
    refine ifs1 ?_
    repeat kbo_bools
    refine ifD (fun cc => ?_) (fun cc => ?_)
    · repeat kbo_bools
      rename Cx _ _ _ _ _ _ => C
      refine ⟨_, _, _, _, rfl, C, rfl, ?_⟩
      rw [full_take hp, if_neg (by intro q; subst q; simp at cc)]
      exact z'.snoc ⟨_, rfl⟩
    · refine ⟨_, _, _, _, rfl, C, rfl, ?_⟩
      have : p = [] := List.length_eq_zero_iff.mp (by omega)
      rw [full_take hp, if_pos this, List.append_nil]
      exact z'
  · rintro h' tk' D ys l' ⟨rfl, z'⟩ C
    rw [z.length, List.take_length] at z'
    exact k _ _ _ C.out (C.fresh (List.Mem.head _) (by simp)) (LR_of (C.get (List.Mem.head _)) z')

theorem part_c (W : Wd w base) (G : base.StaysIn h) (am : Amb A 6) (c : Ch base h x dx l ps) (h0 : 0 ≤ at_) (hs : 0 ≤ size) (h1 : at_ + size ≤ ps.flatten.length)
    (k : ∀ t h' tk', Kp [] h h' → Q (.bytes ((ps.flatten.drop at_.toNat).take size.toNat).toArray t) ⟨h', g, d, tk', os⟩) :
    wpAny (model prog w) A (call (.ref 133) [.ref x, .int at_ u, .int size u']) Q E ⟨h, g, d, tk, os⟩ := by
  have hz := c.sz
  have hx := c.ix
  have hd' := c.id
  refine' callN W G [] (by simp) (by simp) am ?ho ?hcd ?hbind ?hloc ?_ ?h1 ?h2 ?h3 ?h4
  k_clsL
  intro h₁ L C am
  repeat kbo_bools
  rename Cx _ _ _ _ _ _ => C
  refine pieces_c W C.G (am.mono (by decide)) (Ch.old C c) h0 hs h1 fun a qs h₂ tk₂ kp hn hb hq e ne => ?_
  replace C := C.add (C.kp kp) rfl hn hq
  obtain ⟨vs, hl, z⟩ := has_LR (C.get (List.Mem.head _))
  have hq' : qs.flatten.length ≤ 1000000 := by rw [e, List.length_take, List.length_drop]; omega
  repeat kbo_bools
  rw [e]
  exact k _ _ _ C.out

def EmO (o : Obj) : Prop := o = dictOf [] 0
theorem set_new {v : Addr} {l l' : List Fact} {Q : Unit → Shared → Prop} (C : Cx base h₀ L h m l) (W : Wd w base) (a : Has h (x, InO dx)) (u : At dx EmO (DiO v) l l')
    (q : ∀ h' tk', Cx base h₀ L h' m l' → Q () ⟨h', g, d, tk', os⟩) :
    wpAny (model prog w) A (setAttr (.ref x) "parts" (.ref v)) Q E ⟨h, g, d, tk, os⟩ := by
  have I : InstAt h x (instObj Chain dx) Chain (some (dictOf [] 0)) := by
    obtain ⟨_, e, rfl⟩ := a
    obtain ⟨_, e', rfl⟩ := C.get u.mem
    exact ⟨e, rfl, rfl, e'⟩
  have Wh := C.W W
  obtain ⟨ns, N, z⟩ := C.kit
  obtain ⟨r₁, r₂, rfl, rfl⟩ := u.split
  have D := C.D
  have key : ∀ (r₁ r₂ : List Fact) (ns : List (Addr × Obj)), Zip ns (r₁ ++ (dx, EmO) :: r₂) → ∃ n₁ o n₂, ns = n₁ ++ (dx, o) :: n₂ ∧ Zip n₁ r₁ ∧ Zip n₂ r₂ := by
    intro r₁
    induction r₁ with
    | nil =>
      intro r₂ ns z
      cases z with
      | @cons a _ as _ r z => obtain ⟨a1, a2⟩ := a; obtain ⟨r1, r2⟩ := r; cases r1; exact ⟨[], _, _, rfl, .nil, z⟩
    | cons c r ih =>
      intro r₂ ns z
      cases z with
      | cons r z =>
        obtain ⟨n₁, o, n₂, e, z₁, z₂⟩ := ih r₂ _ z
        exact ⟨_ :: n₁, o, n₂, by rw [e]; rfl, .cons r z₁, z₂⟩
  obtain ⟨n₁, o, n₂, rfl, z₁, z₂⟩ := key _ _ _ z
  have eo : o = dictOf [] 0 := by
    have := (N (dx, o) (by simp)).1
    have I2 : h.get? dx = some (dictOf [] 0) := I.dict
    rw [I2] at this; exact (Option.some.inj this).symm
  subst eo
  have ap : ∀ q ∈ n₁ ++ n₂, q.1 ≠ dx := by
    intro q hq e
    have e1 := z₁.addrs
    have e2 := z₂.addrs
    simp only [List.map_append, List.map_cons, ← e1, ← e2] at D
    simp [List.nodup_append] at D
    rcases List.mem_append.mp hq with z | z
    · exact (D.2.2 _ _ z).1 e
    · exact D.2.1.1 q.2 (by rw [← e]; exact z)
  refine set_plain (s := ⟨h, g, d, tk, os⟩) Wh.X I (k_sa w) (osa_dict (od' := dictOf [⟨PyData.keyHash w.params "parts", .str "parts" (tk + 1), .ref v⟩] 1) (es := [⟨PyData.keyHash w.params "parts", .str "parts" (tk + 1), .ref v⟩]) (n := 1) C.F N Wh.X I rfl (k_po w) (k_tk w) (k_hd w) rfl (fun q hq => ap q (List.mem_append_left _ hq)) (fun q hq => ap q (List.mem_append_right _ hq)) ?_ rfl (by simp) fun h' F' N' => q h' _ (.ofKit F' N' ?_ ?_ C.B))
  · rw [putName_dict]
    rfl
  · exact z₁.append (.cons ⟨rfl, _, _, _, rfl⟩ z₂)
  · simpa using D
theorem amb_under {A : Around} {n : Nat} (am : Amb A (n + 1)) (vals : List Value) (C : Addr) : Amb (A.under (.builtin "type.__call__" ⟨.ref C :: vals, []⟩)) n :=
  ⟨am.hh, by have := am.d; show A.depth + (Code.builtin "type.__call__" ⟨.ref C :: vals, []⟩).weight + n < _; rw [show (Code.builtin "type.__call__" ⟨.ref C :: vals, []⟩).weight = 1 by kernel_rfl]; omega, by have := am.u; rw [units_under_make]; omega⟩
theorem init_c (W : Wd w base) (G : base.StaysIn h) {n : Nat} (am : Amb A (n + 4)) (bd : base.get? dx = none) (hx : Has h (x, InO dx)) (hd' : Has h (dx, EmO)) (ha : Has h (a, LB ps)) (hn : ps.length ≤ 1000) (hz : ps.flatten.length ≤ 1000)
    {R : Result → Shared → Prop}
    (k : ∀ l h' tk', Kp [dx] h h' → h.get? l = none → Has h' (dx, DiO l) → Has h' (l, LB (full ps)) → R (.ok (.ret .none)) ⟨h', g, d, tk', os⟩) :
    codeAny (model prog w) A (.call (.ref 65) ⟨[.ref x, .ref a], []⟩) R ⟨h, g, d, tk, os⟩ := by
  have xd : x ≠ dx := by obtain ⟨o, e, rfl⟩ := hx; obtain ⟨o', e', rfl⟩ := hd'; exact get_ne e e' (by simp)
  have ad : a ≠ dx := by obtain ⟨o, e, vs, ⟨n, rfl⟩, _⟩ := ha; obtain ⟨o', e', rfl⟩ := hd'; exact get_ne e e' (by simp)
  have hx1 := has_hide (T := [dx]) hx (by simpa using xd)
  have ha1 := has_hide (T := [dx]) ha (by simpa using ad)
  refine' enter W G [(dx, EmO)] (by simpa using ⟨bd, hd'⟩) (by simp) (by have := am.d; omega) ?ho ?hcd ?hbind ?hloc ?_ ?h1 ?h2 ?h3 ?h4
  k_clsL
  intro h₁ L C
  have am := am.deeper
  repeat kbo_bools
  refine filled_c W C.G ((am _).mono (by omega)) (C.old ha1) hn hz fun b h₂ tk₂ kp hb hq => ?_
  replace C := C.add (C.kp kp) rfl hb hq
  repeat kbo_bools
  refine set_new C W (C.old hx1) (.tail .head) fun h₃ tk₃ C => ?_
  repeat kbo_bools
  exact k b _ _ C.out (C.fresh (List.Mem.head _) (by intro q; have := C.D; simp at this; simp at q; exact this q)) (C.get (.tail _ (.head _))) (C.get (.head _))

theorem make_c (C : Cx base h₀ L h m f) (W : Wd w base) (am : Amb A 5) (ha : Has h (a, LB ps)) (hn : ps.length ≤ 1000) (hz : ps.flatten.length ≤ 1000)
    (k : ∀ x dx l h' tk', Cx base h₀ L h' m ((l, LB (full ps)) :: (x, InO dx) :: (dx, DiO l) :: f) → Kp [] h h' → h.get? x = none → h.get? dx = none → h.get? l = none → Ch base h' x dx l (full ps) → Q (.ref x) ⟨h', g, d, tk', os⟩) :
    wpAny (model prog w) A (call (.ref 235) [.ref a]) Q E ⟨h, g, d, tk, os⟩ := by
  have X := (C.W W).X
  refine wpAny_call (make_core (makes_of X (by k_is)) (looks_findIn X (r := some (.ref 65)) (by k_is)) (fun self => bind_fn X self (by k_is)) (.inl rfl) ?_)
  have C1 := none_of_push (o := emptyDict) (φ := EmO) C rfl
  have C2 := none_of_push (o := instObj Chain h.objs.size) (φ := InO h.objs.size) C1 rfl
  rw [Heap.size_push] at C2
  have k1 : Kp [] h ((h.push emptyDict).push (instObj Chain h.objs.size)) := fun b o _ e => Heap.get?_push_of_some _ (Heap.get?_push_of_some _ e)
  have n1 : h.get? h.objs.size = none := Heap.get?_none_of_le (Nat.le_refl _)
  have n2 : h.get? (h.objs.size + 1) = none := Heap.get?_none_of_le (Nat.le_succ _)
  refine init_c (n := 0) W C2.G (amb_under am _ _) (C2.nobase (.tail _ (.head _))) (C2.get (.head _)) (C2.get (.tail _ (.head _))) (k1.has (by simp) ha) hn hz fun l h' tk' kp hl hd' hl' => ?_
  refine ⟨rfl, ?_⟩
  have C3 := C2.at (.tail .head) kp hd'
  have C4 := C2.add C3 rfl hl hl'
  have k2 : Kp [] h h' := fun b o n e => kp b o (by simp; intro q; subst q; rw [n1] at e; cases e) (k1 b o n e)
  refine k _ _ _ _ _ C4 k2 n2 n1 (k1.new (by simp) hl) ⟨C4.nobase (.tail _ (.head _)), C4.nobase (.tail _ (.tail _ (.head _))), C4.nobase (.head _), C4.get (.tail _ (.head _)), C4.get (.tail _ (.tail _ (.head _))), C4.get (.head _), full_ne _, by rw [full_flat]; exact hz⟩
end
-- C6
section
variable {base h₀ h h' : Heap} {L : Addr} {m : Str → Option Value} {l l' : List Fact}
/-- objects are new -/
theorem Cx.addAll (C : Cx base h₀ L h m l) (k : Kp [] h h') (T : List Fact) (x : ∀ p ∈ T, h.get? p.1 = none ∧ Has h' p) (D : (T.map (·.1)).Nodup) : Cx base h₀ L h' m (T ++ l) := by
  have C' := C.kp k
  have new : ∀ p : Fact, h.get? p.1 = none → ∀ q : Fact, Has h q → q.1 ≠ p.1 := fun p e q ⟨o, z, _⟩ w => by rw [w, e] at z; cases z
  refine ⟨C'.F, fun p hp => ?_, ?_, C.B⟩
  · rcases List.mem_append.mp hp with hp | hp
    · obtain ⟨n, y⟩ := x p hp
      refine ⟨fun q => ?_, ?_, y⟩
      · obtain ⟨o, _, _, z, _⟩ := C.F.ns; rw [← q, n] at z; cases z
      · cases q : h₀.get? p.1 with
        | none => rfl
        | some o => have := C.F.keep _ o q; rw [n] at this; cases this
    · exact C'.N p hp
  · rw [List.map_append, List.nodup_append]
    refine ⟨D, C.D, fun a ha b hb q => ?_⟩
    obtain ⟨p, hp, rfl⟩ := List.mem_map.mp ha
    obtain ⟨r, hr, rfl⟩ := List.mem_map.mp hb
    exact new p (x p hp).1 r (C.N r hr).2.2 q.symm
/-- a chain is changed: its dict and its list -/
theorem Cx.mut {x dx p p' : Addr} {ps ps' : List (List UInt8)} (C : Cx base h₀ L h m ((dx, DiO p) :: (p, LB ps) :: l)) (k : Kp [dx, p] h h') (n : p' = p ∨ h.get? p' = none) (c : Ch base h' x dx p' ps') : Cx base h₀ L h' m ((dx, DiO p') :: (p', LB ps') :: l) := by
  have D := C.D
  simp only [List.map_cons, List.nodup_cons, List.mem_cons, not_or] at D
  obtain ⟨⟨d1, d2⟩, d3, d4⟩ := D
  have a1 := C.N _ (.head _)
  have a2 := C.N _ (.tail _ (.head _))
  have T0 : ∀ y ∈ [dx, p], h₀.get? y = none := by
    intro y hy
    simp at hy
    rcases hy with rfl | rfl
    · exact a1.2.1
    · exact a2.2.1
  have F' : Fr h₀ L h' m := ⟨ns_kp C.F.ns k (by simp; exact ⟨fun q => a1.1 q.symm, fun q => a2.1 q.symm⟩), fun b o e => k b o (fun q => by rw [T0 b q] at e; cases e) (C.F.keep b o e), C.F.above⟩
  have N' : ∀ q ∈ l, q.1 ≠ L ∧ h₀.get? q.1 = none ∧ Has h' q := fun q hq => by
    have := C.N q (.tail _ (.tail _ hq))
    refine ⟨this.1, this.2.1, k.has ?_ this.2.2⟩
    have hm : q.1 ∈ l.map (·.1) := List.mem_map_of_mem hq
    simp only [List.mem_cons, List.not_mem_nil, or_false]
    rintro (z | z)
    · exact d2 (z ▸ hm)
    · exact d3 (z ▸ hm)
  have P : p' ≠ L ∧ h₀.get? p' = none ∧ p' ∉ l.map (·.1) := by
    rcases n with rfl | n
    · exact ⟨a2.1, a2.2.1, d3⟩
    · refine ⟨fun q => ?_, ?_, fun q => ?_⟩
      · obtain ⟨o, _, _, z, _⟩ := C.F.ns; rw [← q, n] at z; cases z
      · cases q : h₀.get? p' with
        | none => rfl
        | some o => have := C.F.keep _ o q; rw [n] at this; cases this
      · obtain ⟨r, hr, e⟩ := List.mem_map.mp q
        obtain ⟨o, z, _⟩ := (C.N r (.tail _ (.tail _ hr))).2.2
        rw [e, n] at z; cases z
  refine ⟨F', fun q hq => ?_, ?_, C.B⟩
  · rcases List.mem_cons.mp hq with rfl | hq
    · exact ⟨a1.1, a1.2.1, c.id⟩
    · rcases List.mem_cons.mp hq with rfl | hq
      · exact ⟨P.1, P.2.1, c.il⟩
      · exact N' q hq
  · simp only [List.map_cons, List.nodup_cons, List.mem_cons, not_or]
    exact ⟨⟨c.dl, d2⟩, P.2.2, d4⟩
end
section
variable {prog : Program} {w : World} {A : Around} {E : Value → Shared → Prop} {base h₀ h : Heap} {g : Array GenState} {d : Drawn} {tk : Nat} {os : OsState}
variable {x dx l L a : Addr} {m : Str → Option Value} {f f' : List Fact} {ps : List (List UInt8)} {Q : Value → Shared → Prop} {at_ size many : Int} {u u' : Tok} {O : List UInt8}

theorem copy_c (W : Wd w base) (G : base.StaysIn h) (am : Amb A 6) (c : Ch base h x dx l ps)
    (k : ∀ y dy p h' tk', Kp [] h h' → h.get? y = none → h.get? dy = none → h.get? p = none → Ch base h' y dy p ps → Q (.ref y) ⟨h', g, d, tk', os⟩) :
    wpAny (model prog w) A (call (.ref 140) [.ref x]) Q E ⟨h, g, d, tk, os⟩ := by
  have hz := c.sz
  have hn := c.cnt
  have hx := c.ix
  have hd' := c.id
  refine' callN W G [] (by simp) (by simp) am ?ho ?hcd ?hbind ?hloc ?_ ?h1 ?h2 ?h3 ?h4
  k_clsL
  intro h₁ L C am
  repeat kbo_bools
  rename Cx _ _ _ _ _ _ => C
  refine make_c C W (am.mono (by decide)) (C.old c.il) (by omega) hz fun y dy p h₂ tk₂ C₂ kp n1 n2 n3 c₂ => ?_
  repeat kbo_bools
  rw [full_id c.ne] at c₂
  have k0 := C.out (T := [])
  exact k _ _ _ _ _ C₂.out (k0.new (by simp) n1) (k0.new (by simp) n2) (k0.new (by simp) n3) c₂

theorem add_front_c (W : Wd w base) (G : base.StaysIn h) (am : Amb A 3) (c : Ch base h x dx l ps) (ho : O.length + ps.flatten.length ≤ 1000)
    (k : ∀ l' ps' h' tk', Kp [dx, l] h h' → (l' = l ∨ h.get? l' = none) → Ch base h' x dx l' ps' → ps'.flatten = O ++ ps.flatten → Q .none ⟨h', g, d, tk', os⟩) :
    wpAny (model prog w) A (call (.ref 147) [.ref x, .bytes O.toArray u]) Q E ⟨h, g, d, tk, os⟩ := by
  obtain ⟨vs, hl, z⟩ := has_LR c.il
  have hz := c.sz
  have hn := c.cnt
  have hv := z.length
  have hx := has_hide (T := [l]) c.ix (by simpa using c.xl)
  have hd' := has_hide (T := [l]) c.id (by simpa using c.dl)
  refine' callN W G [(l, LsO vs)] (by simpa using ⟨c.bl, hl⟩) (by simp) am ?ho ?hcd ?hbind ?hloc ?_ ?h1 ?h2 ?h3 ?h4
  k_clsL
  intro h₁ L C am
  repeat kbo_bools
  refine ifD (fun cc => ?_) (fun cc => ?_)
  · repeat kbo_bools
    rename Cx _ _ _ _ _ _ => C
    have C' := C.weak (ψ := LB (O :: ps)) .head fun o q => ⟨_, q, .cons ⟨_, rfl⟩ z⟩
    refine k l (O :: ps) _ _ (C'.out.mono (by simp)) (.inl rfl) ⟨c.bx, c.bd, c.bl, C'.old hx, C'.old hd', C'.get (.head _), ?_, by simpa using ho⟩ (by simp)
    intro p hp
    rcases List.mem_cons.mp hp with rfl | hp
    · intro q; subst q; simp at cc
    · exact c.ne p hp
  · repeat kbo_bools
    rename Cx _ _ _ _ _ _ => C
    have C' := C.weak (ψ := LB ps) .head fun o q => ⟨_, q, z⟩
    have : O = [] := List.length_eq_zero_iff.mp (by omega)
    exact k l ps _ _ (C'.out.mono (by simp)) (.inl rfl) ⟨c.bx, c.bd, c.bl, C'.old hx, C'.old hd', C'.get (.head _), c.ne, c.sz⟩ (by rw [this]; rfl)

theorem add_back_c (W : Wd w base) (G : base.StaysIn h) (am : Amb A 3) (c : Ch base h x dx l ps) (ho : O.length + ps.flatten.length ≤ 1000)
    (k : ∀ l' ps' h' tk', Kp [dx, l] h h' → (l' = l ∨ h.get? l' = none) → Ch base h' x dx l' ps' → ps'.flatten = ps.flatten ++ O → Q .none ⟨h', g, d, tk', os⟩) :
    wpAny (model prog w) A (call (.ref 154) [.ref x, .bytes O.toArray u]) Q E ⟨h, g, d, tk, os⟩ := by
  obtain ⟨vs, hl, z⟩ := has_LR c.il
  have hz := c.sz
  have hn := c.cnt
  have hv := z.length
  have hx := has_hide (T := [l]) c.ix (by simpa using c.xl)
  have hd' := has_hide (T := [l]) c.id (by simpa using c.dl)
  refine' callN W G [(l, LsO vs)] (by simpa using ⟨c.bl, hl⟩) (by simp) am ?ho ?hcd ?hbind ?hloc ?_ ?h1 ?h2 ?h3 ?h4
  k_clsL
  intro h₁ L C am
  repeat kbo_bools
  refine ifD (fun cc => ?_) (fun cc => ?_)
  · repeat kbo_bools
    rename Cx _ _ _ _ _ _ => C
    have C' := C.weak (ψ := LB (ps ++ [O])) .head fun o q => ⟨_, q, z.snoc ⟨_, rfl⟩⟩
    refine k l (ps ++ [O]) _ _ (C'.out.mono (by simp)) (.inl rfl) ⟨c.bx, c.bd, c.bl, C'.old hx, C'.old hd', C'.get (.head _), ?_, by rw [List.flatten_append, List.length_append]; simp only [List.flatten_singleton]; omega⟩ (by simp)
    intro p hp
    rcases List.mem_append.mp hp with hp | hp
    · exact c.ne p hp
    · rw [List.mem_singleton.mp hp]; intro q; subst q; simp at cc
  · repeat kbo_bools
    rename Cx _ _ _ _ _ _ => C
    have C' := C.weak (ψ := LB ps) .head fun o q => ⟨_, q, z⟩
    have : O = [] := List.length_eq_zero_iff.mp (by omega)
    exact k l ps _ _ (C'.out.mono (by simp)) (.inl rfl) ⟨c.bx, c.bd, c.bl, C'.old hx, C'.old hd', C'.get (.head _), c.ne, c.sz⟩ (by rw [this]; simp)
end
theorem Ch.hid {base h h₁ : Heap} {x dx l L : Addr} {ps : List (List UInt8)} {m : Str → Option Value} {f : List Fact} (c : Ch base h x dx l ps) (C : Cx base (hideAll h [dx]) L h₁ m f) (hm : (dx, DiO l) ∈ f) : Ch base h₁ x dx l ps :=
  ⟨c.bx, c.bd, c.bl, C.old (has_hide c.ix (by simpa using c.xd)), C.get hm, C.old (has_hide c.il (by simpa using Ne.symm c.dl)), c.ne, c.sz⟩
-- the contracts, as steps
local macro_rules | `(tactic| k_places) => `(tactic| first | assumption | exact Ch.old (by assumption) (by assumption) | exact Ch.hid (by assumption) (by assumption) (by k_mem))
local macro_rules | `(tactic| kbo_bools) => `(tactic| first
  | ((with_reducible show wpAny _ _ (call (Value.ref 72) _) _ _ _); (rename Cx _ _ _ _ _ _ => cOld); refine' size_x cOld (by assumption) (Amb.mono (by assumption) (by decide)) ?c ?_; (case c => k_places); clear cOld; intro _ _ _ _ _)
  | ((with_reducible show wpAny _ _ (call (Value.ref 105) _) _ _ _); (rename Cx _ _ _ _ _ _ => cOld); refine' check_x cOld (by assumption) (Amb.mono (by assumption) (by decide)) ?c ?h0 ?h1 ?h2 ?_; (case c => k_places); (case h0 => (first | assumption | omega)); (case h1 => (first | assumption | omega)); (case h2 => (first | assumption | omega)); clear cOld; intro _ _ _))
local macro_rules | `(tactic| kbo_bools) => `(tactic| first
  | ((with_reducible show wpAny _ _ (binaryOp .Add (Value.ref _) (Value.ref _)) _ _ _); (rename Cx _ _ _ _ _ _ => cOld); refine' cat_L cOld ?X ?Y ?hz ?_; (case X => k_ownIn); (case Y => k_ownIn); (case hz => (first | assumption | k_memK)); clear cOld; intro _ _ _))
local macro_rules | `(tactic| kbo_bools) => `(tactic| first
  | ((with_reducible show wpAny _ _ (call (Value.builtin "list.extend") [Value.ref _, Value.ref _]) _ _ _); (rename Cx _ _ _ _ _ _ => cOld); refine' extC cOld ?u ?X ?hz ?_; (case X => k_ownIn); (case u => k_allIn); (case hz => (first | assumption | k_memK)); clear cOld; intro _ _ _))
local macro_rules | `(tactic| kbo_bools) => `(tactic| first
  | (with_reducible refine ne_bool ?_)
  | ((with_reducible show wpAny _ _ (call (Value.builtin "sum") [Value.ref _]) _ _ _); (rename Cx _ _ _ _ _ _ => cOld); refine' sum_L cOld ?X ?hh ?_; (case X => k_ownIn); (case hh => exact Amb.hh (by assumption)); clear cOld; intro _ _ _ _)
  | ((with_reducible show wpAny _ _ (compareOp .NotIn (Value.int _ _) (Value.ref _)) _ _ _); refine' notIn_L ?X ?_; (case X => k_ownIn)))
-- C7
/-- the parts before a place -/
def before (ps : List (List UInt8)) (i r : Nat) : List (List UInt8) := ps.take i ++ (if r = 0 then [] else [(ps.getD i []).take r])
/-- the parts behind a place -/
def behind (ps : List (List UInt8)) (i r : Nat) : List (List UInt8) := if r = 0 then ps.drop i else (ps.getD i []).drop r :: ps.drop (i + 1)
theorem Place.get {ps : List (List UInt8)} {n : Int} {i r : Nat} (p : Place ps n i r) (h : r ≠ 0) : ∃ q, ps[i]? = some q ∧ r < q.length ∧ ps.getD i [] = q := by
  have h1 : i ≠ ps.length := fun e => h (p.end_ e)
  have h2 : i < ps.length := by have := p.le; omega
  refine ⟨ps[i], List.getElem?_eq_getElem h2, p.lt _ (List.getElem?_eq_getElem h2), ?_⟩
  rw [List.getD_eq_getElem?_getD, List.getElem?_eq_getElem h2]; rfl
theorem before_flat {ps : List (List UInt8)} {n : Int} {i r : Nat} (p : Place ps n i r) : (before ps i r).flatten = ps.flatten.take n.toNat := by
  have e : n.toNat = (ps.take i).flatten.length + r := by have := p.sum; omega
  rw [e, flat_split ps i, List.take_length_add_append]
  unfold before
  rw [List.flatten_append]
  congr 1
  split
  · rename_i h; subst h; simp
  · rename_i h
    obtain ⟨q, h1, h2, h3⟩ := p.get h
    obtain ⟨hi, rfl⟩ := List.getElem?_eq_some_iff.mp h1
    rw [h3, List.drop_eq_getElem_cons hi]
    simp only [List.flatten_cons, List.flatten_nil, List.append_nil]
    rw [List.take_append_of_le_length (Nat.le_of_lt h2)]
theorem behind_flat {ps : List (List UInt8)} {n : Int} {i r : Nat} (p : Place ps n i r) : (behind ps i r).flatten = ps.flatten.drop n.toNat := by
  rw [← p.rest]
  unfold behind rest
  split
  · rename_i h; subst h; rfl
  · rename_i h
    obtain ⟨q, h1, h2, h3⟩ := p.get h
    obtain ⟨hi, rfl⟩ := List.getElem?_eq_some_iff.mp h1
    rw [h3, List.drop_eq_getElem_cons hi, List.flatten_cons, List.flatten_cons, List.drop_append_of_le_length (Nat.le_of_lt h2)]
theorem before_ne {ps : List (List UInt8)} {n : Int} {i r : Nat} (p : Place ps n i r) (ne : ∀ q ∈ ps, q ≠ []) : ∀ q ∈ before ps i r, q ≠ [] := by
  unfold before
  intro q hq
  rcases List.mem_append.mp hq with hq | hq
  · exact ne q (List.mem_of_mem_take hq)
  · split at hq
    · cases hq
    · rename_i h
      obtain ⟨s, h1, h2, h3⟩ := p.get h
      rw [h3, List.mem_singleton] at hq
      intro z
      have := congrArg List.length (hq.symm.trans z)
      rw [List.length_take, List.length_nil] at this
      omega
theorem behind_ne {ps : List (List UInt8)} {n : Int} {i r : Nat} (p : Place ps n i r) (ne : ∀ q ∈ ps, q ≠ []) : ∀ q ∈ behind ps i r, q ≠ [] := by
  unfold behind
  intro q hq
  split at hq
  · exact ne q (List.mem_of_mem_drop hq)
  · rename_i h
    obtain ⟨s, h1, h2, h3⟩ := p.get h
    rcases List.mem_cons.mp hq with hq | hq
    · rw [h3] at hq
      intro z
      have := congrArg List.length (hq.symm.trans z)
      rw [List.length_drop, List.length_nil] at this
      omega
    · exact ne q (List.mem_of_mem_drop hq)
theorem behind_set {ps : List (List UInt8)} {i r : Nat} {p : List UInt8} (e : ps[i]? = some p) (h : r ≠ 0) : (ps.drop i).set 0 (p.drop r) = behind ps i r := by
  obtain ⟨hi, rfl⟩ := List.getElem?_eq_some_iff.mp e
  unfold behind
  rw [if_neg h, List.drop_eq_getElem_cons hi, List.getD_eq_getElem?_getD, e]; rfl
theorem before_snoc {ps : List (List UInt8)} {i r : Nat} {p : List UInt8} (e : ps[i]? = some p) (h : r ≠ 0) : ps.take i ++ [p.take r] = before ps i r := by
  unfold before
  rw [if_neg h, List.getD_eq_getElem?_getD, e]; rfl
theorem before_zero {ps : List (List UInt8)} {i : Nat} : ps.take i = before ps i 0 := by unfold before; simp
theorem behind_zero {ps : List (List UInt8)} {i : Nat} : ps.drop i = behind ps i 0 := by unfold behind; simp

section
variable {prog : Program} {w : World} {A : Around} {E : Value → Shared → Prop} {base h₀ h : Heap} {g : Array GenState} {d : Drawn} {tk : Nat} {os : OsState}
variable {x dx l L a : Addr} {m : Str → Option Value} {f f' : List Fact} {ps : List (List UInt8)} {Q : Value → Shared → Prop} {at_ size many : Int} {u u' : Tok} {O : List UInt8}

theorem drop_front_c (W : Wd w base) (G : base.StaysIn h) (am : Amb A 6) (c : Ch base h x dx l ps) (h0 : 0 ≤ many) (h1 : many ≤ ps.flatten.length)
    (k : ∀ l' ps' h' tk', Kp [dx, l] h h' → (l' = l ∨ h.get? l' = none) → Ch base h' x dx l' ps' → ps'.flatten = ps.flatten.drop many.toNat → Q .none ⟨h', g, d, tk', os⟩) :
    wpAny (model prog w) A (call (.ref 161) [.ref x, .int many u]) Q E ⟨h, g, d, tk, os⟩ := by
  obtain ⟨vs, hl, z⟩ := has_LR c.il
  have hz := c.sz
  have hn := c.cnt
  have hv := z.length
  have hl1 := has_hide (T := [dx]) hl (by simpa using Ne.symm c.dl)
  have hx := has_hide (T := [dx]) c.ix (by simpa using c.xd)
  refine' callN W G [(dx, DiO l)] (by simpa using ⟨c.bd, c.id⟩) (by simp) am ?ho ?hcd ?hbind ?hloc ?_ ?h1 ?h2 ?h3 ?h4
  k_clsL
  intro h₁ L C am
  repeat kbo_bools
  rename Cx _ _ _ _ _ _ => C
  refine place_x C W (am.mono (by decide)) (c.hid C (by k_mem)) h0 h1 fun t i r t1 t2 h₂ tk₂ C pl => ?_
  repeat kbo_bools
  rename Cx _ _ _ _ _ _ => C
  rw [cut_from] at C
  refine ifD (fun cc => ?_) (fun cc => ?_)
  · obtain ⟨p, hp, hr, -⟩ := pl.get (by omega)
    obtain ⟨v, hvi, tv, rfl⟩ := z.get hp
    have hv0 : (vs.drop i)[(0 : Int).toNat]? = some (.bytes p.toArray tv) := by rw [List.getElem?_drop]; exact hvi
    have hv1 : (0 : Int) < (vs.drop i).length := by have := (List.getElem?_eq_some_iff.mp hp).1; rw [List.length_drop]; omega
    have hv2 : (vs.drop i).length ≤ 1000000 := by rw [List.length_drop]; omega
    have hp1 := part_le hp
    have hp2 : p.length ≤ 1000000 := by omega
    repeat kbo_bools
    rename Cx _ _ _ _ _ _ => C
    have C' := C.weak (ψ := LB (behind ps i r)) .head fun o q => ⟨_, q, by
      rw [← behind_set hp (by omega)]
      exact (z.drop i).set ⟨_, by rw [cut_from]⟩ 0⟩
    refine k _ _ _ _ (C'.out.mono (by simp)) (.inr (C'.fresh (.head _) ?_)) ⟨c.bx, c.bd, C'.nobase (.head _), C'.old hx, C'.get (by k_mem), C'.get (.head _), behind_ne pl c.ne, ?_⟩ (behind_flat pl)
    · intro q
      have := C'.D
      simp at this q
      grind
    · rw [behind_flat pl, List.length_drop]; omega
  · have hr : r = 0 := by omega
    subst hr
    repeat kbo_bools
    rename Cx _ _ _ _ _ _ => C
    have C' := C.weak (ψ := LB (behind ps i 0)) .head fun o q => ⟨_, q, by
      rw [← behind_zero]
      exact z.drop i⟩
    refine k _ _ _ _ (C'.out.mono (by simp)) (.inr (C'.fresh (.head _) ?_)) ⟨c.bx, c.bd, C'.nobase (.head _), C'.old hx, C'.get (by k_mem), C'.get (.head _), behind_ne pl c.ne, ?_⟩ (behind_flat pl)
    · intro q
      have := C'.D
      simp at this q
      grind
    · rw [behind_flat pl, List.length_drop]; omega

theorem drop_back_c (W : Wd w base) (G : base.StaysIn h) (am : Amb A 6) (c : Ch base h x dx l ps) (h0 : 0 ≤ many) (h1 : many ≤ ps.flatten.length)
    (k : ∀ l' ps' h' tk', Kp [dx, l] h h' → (l' = l ∨ h.get? l' = none) → Ch base h' x dx l' ps' → ps'.flatten = ps.flatten.take (ps.flatten.length - many.toNat) → Q .none ⟨h', g, d, tk', os⟩) :
    wpAny (model prog w) A (call (.ref 168) [.ref x, .int many u]) Q E ⟨h, g, d, tk, os⟩ := by
  obtain ⟨vs, hl, z⟩ := has_LR c.il
  have hz := c.sz
  have hn := c.cnt
  have hv := z.length
  have hl1 := has_hide (T := [dx]) hl (by simpa using Ne.symm c.dl)
  have hx := has_hide (T := [dx]) c.ix (by simpa using c.xd)
  refine' callN W G [(dx, DiO l)] (by simpa using ⟨c.bd, c.id⟩) (by simp) am ?ho ?hcd ?hbind ?hloc ?_ ?h1 ?h2 ?h3 ?h4
  k_clsL
  intro h₁ L C am
  repeat kbo_bools
  rename Cx _ _ _ _ _ _ => C
  refine place_x C W (am.mono (by decide)) (c.hid C (by k_mem)) (by omega) (by omega) fun t i r t1 t2 h₂ tk₂ C pl => ?_
  have e : ((ps.flatten.length : Int) - many).toNat = ps.flatten.length - many.toNat := by omega
  have bf := before_flat pl
  have bn := before_ne pl c.ne
  rw [e] at bf
  repeat kbo_bools
  rename Cx _ _ _ _ _ _ => C
  rw [cut_upto] at C
  refine ifD (fun cc => ?_) (fun cc => ?_)
  · obtain ⟨p, hp, hr, -⟩ := pl.get (by omega)
    obtain ⟨v, hvi, tv, rfl⟩ := z.get hp
    have hv2 : (vs.take i).length ≤ 1000000 := by rw [List.length_take]; omega
    have hi2 : i < ps.length := (List.getElem?_eq_some_iff.mp hp).1
    have hp1 := part_le hp
    have hp2 : p.length ≤ 1000000 := by omega
    repeat kbo_bools
    rename Cx _ _ _ _ _ _ => C
    have C' := C.weak (ψ := LB (before ps i r)) .head fun o q => ⟨_, q, by
      rw [← before_snoc hp (by omega)]
      exact (z.take i).snoc ⟨_, by rw [cut_upto]⟩⟩
    refine k _ _ _ _ (C'.out.mono (by simp)) (.inr (C'.fresh (.head _) ?_)) ⟨c.bx, c.bd, C'.nobase (.head _), C'.old hx, C'.get (by k_mem), C'.get (.head _), bn, ?_⟩ bf
    · intro q
      have := C'.D
      simp at this q
      grind
    · rw [bf, List.length_take]; omega
  · have hr : r = 0 := by omega
    subst hr
    repeat kbo_bools
    rename Cx _ _ _ _ _ _ => C
    have C' := C.weak (ψ := LB (before ps i 0)) .head fun o q => ⟨_, q, by
      rw [← before_zero]
      exact z.take i⟩
    refine k _ _ _ _ (C'.out.mono (by simp)) (.inr (C'.fresh (.head _) ?_)) ⟨c.bx, c.bd, C'.nobase (.head _), C'.old hx, C'.get (by k_mem), C'.get (.head _), bn, ?_⟩ bf
    · intro q
      have := C'.D
      simp at this q
      grind
    · rw [bf, List.length_take]; omega

theorem take_front_c (W : Wd w base) (G : base.StaysIn h) (am : Amb A 7) (c : Ch base h x dx l ps) (h0 : 0 ≤ many) (h1 : many ≤ ps.flatten.length)
    (k : ∀ l' ps' t h' tk', Kp [dx, l] h h' → (l' = l ∨ h.get? l' = none) → Ch base h' x dx l' ps' → ps'.flatten = ps.flatten.drop many.toNat → Q (.bytes (ps.flatten.take many.toNat).toArray t) ⟨h', g, d, tk', os⟩) :
    wpAny (model prog w) A (call (.ref 175) [.ref x, .int many u]) Q E ⟨h, g, d, tk, os⟩ := by
  have hx := has_hide (T := [dx, l]) c.ix (by simpa using ⟨c.xd, c.xl⟩)
  refine' callN W G [(dx, DiO l), (l, LB ps)] (by simpa using ⟨⟨c.bd, c.id⟩, c.bl, c.il⟩) (by simpa using c.dl) am ?ho ?hcd ?hbind ?hloc ?_ ?h1 ?h2 ?h3 ?h4
  k_clsL
  intro h₁ L C am
  repeat kbo_bools
  rename Cx _ _ _ _ _ _ => C
  have c1 : Ch base h₁ x dx l ps := ⟨c.bx, c.bd, c.bl, C.old hx, C.get (by k_mem), C.get (by k_mem), c.ne, c.sz⟩
  refine part_c W C.G (am.mono (by decide)) c1 (by decide) h0 (by omega) fun t h₂ tk₂ kp => ?_
  replace C := C.kp kp
  have c2 := c1.kp0 kp
  clear c1
  repeat kbo_bools
  rename Cx _ _ _ _ _ _ => C
  have c3 : Ch base _ x dx l ps := ⟨c.bx, c.bd, c.bl, C.old hx, C.get (by k_mem), C.get (by k_mem), c.ne, c.sz⟩
  refine drop_front_c W C.G (am.mono (by decide)) c3 h0 h1 fun l' ps' h₃ tk₃ kp hl c4 e => ?_
  replace C := C.mut kp hl c4
  repeat kbo_bools
  refine k l' ps' _ _ _ C.out ?_ c4 e
  rcases hl with hl | hl
  · exact .inl hl
  · refine .inr (C.fresh (.tail _ (.head _)) ?_)
    have := C.D
    intro q
    simp at q this
    rcases q with rfl | rfl
    · exact this rfl
    · obtain ⟨o, z, _⟩ := c3.il
      rw [z] at hl; cases hl
end
local macro_rules | `(tactic| k_places) => `(tactic| first | assumption | exact Ch.old (by assumption) (by assumption) | exact Ch.hid (by assumption) (by assumption) (by k_mem))
-- C8
section
variable {base h₀ h h' : Heap} {L : Addr} {m m' : Str → Option Value} {l l' : List Fact}
end
section
variable {prog : Program} {w : World} {A : Around} {E : Value → Shared → Prop} {base h₀ h : Heap} {g : Array GenState} {d : Drawn} {tk : Nat} {os : OsState}
variable {x dx l L a y dy q₁ : Addr} {m : Str → Option Value} {f f' : List Fact} {ps qs : List (List UInt8)} {Q : Value → Shared → Prop} {at_ size many : Int} {u u' : Tok} {O : List UInt8}

theorem split_c (W : Wd w base) (G : base.StaysIn h) (am : Amb A 6) (c : Ch base h x dx l ps) (h0 : 0 ≤ at_) (h1 : at_ ≤ ps.flatten.length)
    (k : ∀ l' ps' y dy p qs h' tk', Kp [dx] h h' → h.get? l' = none → Ch base h' x dx l' ps' → ps'.flatten = ps.flatten.take at_.toNat →
      h.get? y = none → h.get? dy = none → h.get? p = none → p ≠ l' → Ch base h' y dy p qs → qs.flatten = ps.flatten.drop at_.toNat → Q (.ref y) ⟨h', g, d, tk', os⟩) :
    wpAny (model prog w) A (call (.ref 189) [.ref x, .int at_ u]) Q E ⟨h, g, d, tk, os⟩ := by
  obtain ⟨vs, hl, z⟩ := has_LR c.il
  have hz := c.sz
  have hn := c.cnt
  have hv := z.length
  have hl1 := has_hide (T := [dx]) hl (by simpa using Ne.symm c.dl)
  have hx := has_hide (T := [dx]) c.ix (by simpa using c.xd)
  refine' callN W G [(dx, DiO l)] (by simpa using ⟨c.bd, c.id⟩) (by simp) am ?ho ?hcd ?hbind ?hloc ?_ ?h1 ?h2 ?h3 ?h4
  k_clsL
  intro h₁ L C am
  repeat kbo_bools
  rename Cx _ _ _ _ _ _ => C
  refine place_x C W (am.mono (by decide)) (c.hid C (by k_mem)) h0 h1 fun t i r t1 t2 h₂ tk₂ C pl => ?_
  have bf := before_flat pl
  have bn := before_ne pl c.ne
  have df := behind_flat pl
  have dn := behind_ne pl c.ne
  have dl : (behind ps i r).flatten.length ≤ 1000 := by rw [df, List.length_drop]; omega
  have dc := ne_len dn
  repeat kbo_bools
  rename Cx _ _ _ _ _ _ => C
  rw [cut_from, cut_upto] at C
  refine ifD (fun cc => ?_) (fun cc => ?_)
  · obtain ⟨p, hp, hr, -⟩ := pl.get (by omega)
    obtain ⟨v, hvi, tv, rfl⟩ := z.get hp
    have hv0 : (vs.drop i)[(0 : Int).toNat]? = some (.bytes p.toArray tv) := by rw [List.getElem?_drop]; exact hvi
    have hv1 : (0 : Int) < (vs.drop i).length := by have := (List.getElem?_eq_some_iff.mp hp).1; rw [List.length_drop]; omega
    have hv2 : (vs.drop i).length ≤ 1000000 := by rw [List.length_drop]; omega
    have hv3 : (vs.take i).length ≤ 1000000 := by rw [List.length_take]; omega
    have hi2 : i < ps.length := (List.getElem?_eq_some_iff.mp hp).1
    have hp1 := part_le hp
    have hp2 : p.length ≤ 1000000 := by omega
    repeat kbo_bools
    rename Cx _ _ _ _ _ _ => C
    replace C := C.weak (ψ := LB (before ps i r)) .head fun o q => ⟨_, q, by
      rw [← before_snoc hp (by omega)]
      exact (z.take i).snoc ⟨_, by rw [cut_upto]⟩⟩
    replace C := C.weak (ψ := LB (behind ps i r)) (.tail .head) fun o q => ⟨_, q, by
      rw [← behind_set hp (by omega)]
      exact (z.drop i).set ⟨_, by rw [cut_from]⟩ 0⟩
    refine make_c C W (am.mono (by decide)) (C.get (.tail _ (.head _))) (by omega) dl fun y dy p' h₃ tk₃ C₂ kp n1 n2 n3 c₂ => ?_
    rw [full_id dn] at c₂
    repeat kbo_bools
    have k0 := C.out
    have D := C₂.D
    simp only [List.map_cons, List.map_nil, List.nodup_cons, List.mem_cons, not_or, List.not_mem_nil, or_false] at D
    refine k _ _ _ _ _ _ _ _ C₂.out (C.fresh (.head _) ?_) ⟨c.bx, c.bd, C.nobase (.head _), C₂.old hx, C₂.get (by k_mem), C₂.get (by k_mem), bn, ?_⟩ bf (k0.new ?_ n1) (k0.new ?_ n2) (k0.new ?_ n3) ?_ c₂ df
    all_goals (try simp only [List.map_cons, List.map_nil, List.mem_cons, List.not_mem_nil, or_false])
    · grind
    · rw [bf, List.length_take]; omega
    all_goals grind
  · have hr : r = 0 := by omega
    subst hr
    repeat kbo_bools
    rename Cx _ _ _ _ _ _ => C
    replace C := C.weak (ψ := LB (before ps i 0)) .head fun o q => ⟨_, q, by
      rw [← before_zero]
      exact z.take i⟩
    replace C := C.weak (ψ := LB (behind ps i 0)) (.tail .head) fun o q => ⟨_, q, by
      rw [← behind_zero]
      exact z.drop i⟩
    refine make_c C W (am.mono (by decide)) (C.get (.tail _ (.head _))) (by omega) dl fun y dy p' h₃ tk₃ C₂ kp n1 n2 n3 c₂ => ?_
    rw [full_id dn] at c₂
    repeat kbo_bools
    have k0 := C.out
    have D := C₂.D
    simp only [List.map_cons, List.map_nil, List.nodup_cons, List.mem_cons, not_or, List.not_mem_nil, or_false] at D
    refine k _ _ _ _ _ _ _ _ C₂.out (C.fresh (.head _) ?_) ⟨c.bx, c.bd, C.nobase (.head _), C₂.old hx, C₂.get (by k_mem), C₂.get (by k_mem), bn, ?_⟩ bf (k0.new ?_ n1) (k0.new ?_ n2) (k0.new ?_ n3) ?_ c₂ df
    all_goals (try simp only [List.map_cons, List.map_nil, List.mem_cons, List.not_mem_nil, or_false])
    · grind
    · rw [bf, List.length_take]; omega
    all_goals grind
end
-- C9
section
variable {α : Type}
/-- a run of items replaced -/
def spl (F : List α) (a : Nat) (M : List α) : List α := F.take a ++ M ++ F.drop (a + M.length)
theorem spl_nil (F : List α) (a : Nat) : spl F a [] = F := by simp [spl]
theorem spl_len {F M : List α} {a : Nat} (h : a + M.length ≤ F.length) : (spl F a M).length = F.length := by
  simp only [spl, List.length_append, List.length_take, List.length_drop]; omega
theorem spl_spl {F M N : List α} {a : Nat} (h : a + M.length + N.length ≤ F.length) : spl (spl F a M) (a + M.length) N = spl F a (M ++ N) := by
  have e : (F.take a ++ M).length = a + M.length := by rw [List.length_append, List.length_take]; omega
  have e1 : (spl F a M).take (a + M.length) = F.take a ++ M := by
    unfold spl; rw [← e, List.take_left]
  have e2 : (spl F a M).drop (a + M.length + N.length) = F.drop (a + (M.length + N.length)) := by
    unfold spl; rw [← List.drop_drop, ← e, List.drop_left, List.drop_drop, e, Nat.add_assoc]
  rw [spl, e1, e2, spl, List.length_append, List.append_assoc (List.take a F)]
theorem spl_part {qs : List (List α)} {p M : List α} {i r : Nat} (e : qs[i]? = some p) (h : r + M.length ≤ p.length) : (qs.set i (spl p r M)).flatten = spl qs.flatten ((qs.take i).flatten.length + r) M := by
  obtain ⟨hi, rfl⟩ := List.getElem?_eq_some_iff.mp e
  have e0 : qs.flatten = (qs.take i).flatten ++ (qs[i] ++ (qs.drop (i + 1)).flatten) := by
    conv => lhs; rw [← List.take_append_drop i qs, List.flatten_append, List.drop_eq_getElem_cons hi, List.flatten_cons]
  rw [List.set_eq_take_append_cons_drop, if_pos hi, List.flatten_append, List.flatten_cons]
  have e1 : ∀ X R : List α, (X ++ R).drop (X.length + r + M.length) = R.drop (r + M.length) := fun X R => by rw [Nat.add_assoc, ← List.drop_drop, List.drop_left]
  rw [spl, spl, e0, List.take_length_add_append, e1, List.take_append_of_le_length (by omega), List.drop_append_of_le_length h]
  simp [List.append_assoc]
end
section
variable {prog : Program} {w : World} {A : Around} {E : Value → Shared → Prop} {base h₀ h : Heap} {g : Array GenState} {d : Drawn} {tk : Nat} {os : OsState}
variable {x dx l L a y dy q₁ : Addr} {m : Str → Option Value} {f f' : List Fact} {ps qs : List (List UInt8)} {Q : Value → Shared → Prop} {at_ size many : Int} {u u' : Tok} {O : List UInt8}

theorem join_c (W : Wd w base) (G : base.StaysIn h) (am : Amb A 6) (c : Ch base h x dx l ps) (c' : Ch base h y dy q₁ qs) (hne : x ≠ y) (hnd : dx ≠ dy) (hsz : ps.flatten.length + qs.flatten.length ≤ 1000)
    (k : ∀ l' q' h' tk', Kp [dx, dy] h h' → h.get? l' = none → h.get? q' = none → l' ≠ q' → Ch base h' x dx l' (ps ++ qs) → Ch base h' y dy q' [] → Q .none ⟨h', g, d, tk', os⟩) :
    wpAny (model prog w) A (call (.ref 182) [.ref x, .ref y]) Q E ⟨h, g, d, tk, os⟩ := by
  obtain ⟨vs, hl, z⟩ := has_LR c.il
  obtain ⟨us, hl', z'⟩ := has_LR c'.il
  have hn := c.cnt
  have hn' := c'.cnt
  have hv := z.length
  have hv' := z'.length
  have nt : ∀ {a dx b dy}, Has h (a, InO dx) → Has h (b, DiO dy) → a ≠ b := fun ⟨o, e, z⟩ ⟨o', e', _, _, _, z'⟩ => by subst z z'; exact get_ne e e' (by simp)
  have nu : ∀ {a vs b dy}, Has h (a, LsO vs) → Has h (b, DiO dy) → a ≠ b := fun ⟨o, e, _, z⟩ ⟨o', e', _, _, _, z'⟩ => by subst z z'; exact get_ne e e' (by simp)
  have hl1 := has_hide (T := [dx, dy]) hl (by simpa using ⟨nu hl c.id, nu hl c'.id⟩)
  have hl2 := has_hide (T := [dx, dy]) hl' (by simpa using ⟨nu hl' c.id, nu hl' c'.id⟩)
  have hx := has_hide (T := [dx, dy]) c.ix (by simpa using ⟨c.xd, nt c.ix c'.id⟩)
  have hy := has_hide (T := [dx, dy]) c'.ix (by simpa using ⟨nt c'.ix c.id, c'.xd⟩)
  refine' callN W G [(dx, DiO l), (dy, DiO q₁)] (by simpa using ⟨⟨c.bd, c.id⟩, c'.bd, c'.id⟩) (by simpa using hnd) am ?ho ?hcd ?hbind ?hloc ?_ ?h1 ?h2 ?h3 ?h4
  k_clsL
  intro h₁ L C am
  repeat kbo_bools
  rename Cx _ _ _ _ _ _ => C
  obtain ⟨o, e, z0⟩ := C.old hx
  obtain ⟨o', e', z0'⟩ := C.old hy
  refine wpAny_is_ref_other (s := ⟨_, g, d, _, os⟩) (Ne.symm hne) e' e (by rw [z0']; simp) ?_
  repeat kbo_bools
  rename Cx _ _ _ _ _ _ => C
  have D := C.D
  simp only [List.map_cons, List.map_nil, List.nodup_cons, List.mem_cons, not_or, List.not_mem_nil, or_false] at D
  replace C := C.weak (ψ := LB []) .head fun o q => ⟨_, q, .nil⟩
  replace C := C.weak (ψ := LB (ps ++ qs)) (.tail .head) fun o q => ⟨_, q, z.append z'⟩
  refine k _ _ _ _ (C.out.mono (by simp)) (C.fresh (.tail _ (.head _)) ?_) (C.fresh (.head _) ?_) ?_ ⟨c.bx, c.bd, C.nobase (.tail _ (.head _)), C.old hx, C.get (by k_mem), C.get (by k_mem), ?_, ?_⟩ ⟨c'.bx, c'.bd, C.nobase (.head _), C.old hy, C.get (by k_mem), C.get (by k_mem), by simp, by simp⟩
  · simp only [List.map_cons, List.map_nil, List.mem_cons, List.not_mem_nil, or_false]; grind
  · simp only [List.map_cons, List.map_nil, List.mem_cons, List.not_mem_nil, or_false]; grind
  · grind
  · intro p hp
    rcases List.mem_append.mp hp with hp | hp
    · exact c.ne p hp
    · exact c'.ne p hp
  · rw [List.flatten_append, List.length_append]; exact hsz
end
-- D1
section
variable {prog : Program} {w : World} {A : Around} {E : Value → Shared → Prop} {base h₀ h : Heap} {g : Array GenState} {d : Drawn} {tk : Nat} {os : OsState}
variable {x dx l L a y dy q₁ : Addr} {m : Str → Option Value} {f f' : List Fact} {ps qs : List (List UInt8)} {Q : Value → Shared → Prop} {at_ size many : Int} {u u' : Tok} {O : List UInt8}

/-- what holds between the turns -/
inductive PutJ (ps : List (List UInt8)) (x l : Addr) (O : List UInt8) (at_ : Int) (u' : Tok) (n : Nat) (m : Str → Option Value) (f : List Fact) : Prop
  | mk (qs : List (List UInt8)) (us : List Value) (i r kk : Nat) (t t' t'' : Tok) (h0 : f = [(l, LsO us)]) (h1 : All2 IsB qs us) (h2 : qs.length = ps.length) (h3 : qs.flatten.length = ps.flatten.length) (h4 : ∀ q ∈ qs, q ≠ []) (h5 : m "self" = some (.ref x)) (h6 : m "octets" = some (.bytes O.toArray u')) (h7 : m "taken" = some (.int (kk : Nat) t)) (h8 : m "index" = some (.int (i : Nat) t')) (h9 : m "inner" = some (.int (r : Nat) t'')) (h10 : Walk qs i r) (h11 : kk ≤ O.length) (h12 : kk = O.length ∨ (qs.take i).flatten.length + r = at_.toNat + kk) (h13 : qs.flatten = spl ps.flatten at_.toNat (O.take kk)) (h14 : n = O.length - kk)
theorem put_c (W : Wd w base) (G : base.StaysIn h) (am : Amb A 6) (c : Ch base h x dx l ps) (h0 : 0 ≤ at_) (h1 : at_ + O.length ≤ ps.flatten.length)
    (k : ∀ l' ps' h' tk', Kp [dx, l] h h' → (l' = l ∨ h.get? l' = none) → Ch base h' x dx l' ps' → ps'.flatten = spl ps.flatten at_.toNat O → Q .none ⟨h', g, d, tk', os⟩) :
    wpAny (model prog w) A (call (.ref 196) [.ref x, .int at_ u, .bytes O.toArray u']) Q E ⟨h, g, d, tk, os⟩ := by
  obtain ⟨vs, hl, z⟩ := has_LR c.il
  have hz := c.sz
  have hn := c.cnt
  have hv := z.length
  have hx := has_hide (T := [l]) c.ix (by simpa using c.xl)
  have hd' := has_hide (T := [l]) c.id (by simpa using c.dl)
  have hO : O.length ≤ 1000000 := by omega
  refine' callN W G [(l, LsO vs)] (by simpa using ⟨c.bl, hl⟩) (by simp) am ?ho ?hcd ?hbind ?hloc ?_ ?h1 ?h2 ?h3 ?h4
  k_clsL
  intro h₁ L C am
  have chC : ∀ {h₂ m f}, Cx base (hideAll h [l]) L h₂ m ((l, LsO vs) :: f) → Ch base h₂ x dx l ps := fun C => ⟨c.bx, c.bd, c.bl, C.old hx, C.old hd', LR_of (C.get (.head _)) z, c.ne, c.sz⟩
  repeat kbo_bools
  rename Cx _ _ _ _ _ _ => C
  refine check_x C W (am.mono (by decide)) (chC C) h0 (by omega) h1 fun h₂ tk₂ C => ?_
  repeat kbo_bools
  rename Cx _ _ _ _ _ _ => C
  refine place_x C W (am.mono (by decide)) (chC C) h0 (by omega) fun t i r t1 t2 h₂ tk₂ C pl => ?_
  repeat kbo_bools
  rename Cx _ _ _ _ _ _ => C
  refine whileC (PutJ ps x l O at_ u') (C.only (φ := LsO vs) (by k_mem)) (n := O.length)
    ⟨ps, vs, i, r, 0, _, t1, t2, rfl, z, rfl, rfl, c.ne, rfl, rfl, rfl, rfl, rfl, ⟨pl.lt⟩, by omega, .inr (by have := pl.sum; omega), by simp [spl_nil], rfl⟩ ?_
  rintro n m₁ f₁ h₁ tk₁ ⟨qs, us, i, r, kk, t, t', t'', rfl, zq, hql, hqf, hq, ms, mo, mt, mi, mr, wk, hk, hpos, hcol, rfl⟩ C
  repeat kbo_bools
  refine ifD (fun cc => ?_) (fun cc => ?_)
  · intro K kn kr
    have hpos : (qs.take i).flatten.length + r = at_.toNat + kk := by rcases hpos with q | q <;> omega
    have hi : i < qs.length := by
      rcases Nat.lt_or_ge i qs.length with q | q
      · exact q
      · rw [List.take_of_length_le q] at hpos
        omega
    obtain ⟨p, hp⟩ : ∃ p, qs[i]? = some p := ⟨_, List.getElem?_eq_getElem hi⟩
    obtain ⟨v, hvi, tv, rfl⟩ := zq.get hp
    have hlt := wk.lt p hp
    have hp1 := part_le hp
    have hz' : p.length ≤ 1000000 := by omega
    have hus : us.length = qs.length := zq.length
    have b1 := cut_length (xs := p) none (some (r : Int))
    have b2 := cut_length (xs := O) (some (kk : Int)) (some ((kk : Int) + min ((p.length : Int) - r) ((O.length : Int) - kk)))
    have b3 := cut_length (xs := p) (some ((r : Int) + min ((p.length : Int) - r) ((O.length : Int) - kk))) none
    have b4 : (cut p none (some (r : Int)) ++ cut O (some (kk : Int)) (some ((kk : Int) + min ((p.length : Int) - r) ((O.length : Int) - kk)))).length ≤ p.length + O.length := by rw [List.length_append]; omega
    obtain ⟨M, hM⟩ : ∃ M : Nat, min ((p.length : Int) - r) ((O.length : Int) - kk) = (M : Int) := ⟨(min ((p.length : Int) - r) ((O.length : Int) - kk)).toNat, by omega⟩
    have e1 : cut p none (some (r : Int)) ++ cut O (some (kk : Int)) (some ((kk : Int) + min ((p.length : Int) - r) ((O.length : Int) - kk))) ++ cut p (some ((r : Int) + min ((p.length : Int) - r) ((O.length : Int) - kk))) none = spl p r ((O.drop kk).take M) := by
      rw [hM, ← Int.natCast_add, ← Int.natCast_add, cut_upto, cut_run, cut_from, Nat.add_sub_cancel_left, spl, List.length_take, List.length_drop, Nat.min_eq_left (by omega)]
    have lM : ((O.drop kk).take M).length = M := by rw [List.length_take, List.length_drop]; omega
    have lS : (spl p r ((O.drop kk).take M)).length = p.length := spl_len (by rw [lM]; omega)
    have eF := spl_part hp (r := r) (M := (O.drop kk).take M) (by rw [lM]; omega)
    repeat kbo_bools
    rename Cx _ _ _ _ _ _ => C
    have ei : ((i : Nat) : Int).toNat = i := Int.toNat_natCast i
    have lF : (qs.set i (spl p r ((O.drop kk).take M))).flatten.length = qs.flatten.length := by
      rw [eF, spl_len]
      have := congrArg List.length (take_flat hp)
      have h2 : (qs.take (i + 1)).flatten.length ≤ qs.flatten.length := by rw [flat_split qs (i + 1), List.length_append]; omega
      rw [List.length_append] at this
      rw [lM]; omega
    have ne' : ∀ q ∈ qs.set i (spl p r ((O.drop kk).take M)), q ≠ [] := fun q hq' => by
      rcases List.mem_or_eq_of_mem_set hq' with h3 | h3
      · exact hq q h3
      · intro h4
        rw [h3] at h4
        rw [h4] at lS
        simp at lS; omega
    refine kn _ ⟨O.length - (kk + M), _, _, _, _, by omega, rfl, C, qs.set i (spl p r ((O.drop kk).take M)), _, i + 1, 0, kk + M, _, _, _, rfl, ?_, by rw [List.length_set]; exact hql, by rw [lF]; exact hqf, ne', by k_updF, by k_updF, (by rw [Int.natCast_add, ← hM]; rfl), rfl, rfl, Walk.next ne' _, by omega, ?_, ?_, rfl⟩
    · rw [ei]
      exact zq.set ⟨_, by rw [e1]⟩ i
    · have h2 : (qs.set i (spl p r ((O.drop kk).take M)))[i]? = some (spl p r ((O.drop kk).take M)) := List.getElem?_set_self hi
      rw [take_flat h2, List.length_append, lS, List.take_set_of_le (Nat.le_refl _)]
      omega
    · rw [eF, hpos, hcol]
      have h2 := spl_spl (F := ps.flatten) (a := at_.toNat) (M := O.take kk) (N := (O.drop kk).take M) (by rw [lM, List.length_take]; omega)
      rw [List.length_take, Nat.min_eq_left hk] at h2
      rw [h2, ← List.take_add]
  · repeat kbo_bools
    rename Cx _ _ _ _ _ _ => C
    have e : kk = O.length := by omega
    subst e
    rw [List.take_length] at hcol
    replace C := C.weak (ψ := LB qs) .head fun o q => ⟨_, q, zq⟩
    exact k l qs _ _ (C.out.mono (by simp)) (.inl rfl) ⟨c.bx, c.bd, c.bl, C.old hx, C.old hd', C.get (.head _), hq, by omega⟩ hcol
end
-- D2
/-- does a run of octets stand at a place -/
abbrev Stands (F O : List UInt8) (p : Nat) : Prop := p + O.length ≤ F.length ∧ (F.drop p).take O.length = O
theorem take_min {X : List UInt8} (n : Nat) : X.take (min n X.length) = X.take n := by
  rcases Nat.le_total n X.length with q | q
  · rw [Nat.min_eq_left q]
  · rw [Nat.min_eq_right q, List.take_length, List.take_of_length_le q]
theorem st_step {W O : List UInt8} {k n : Nat} (a : W.take k = O.take k) (b : (W.drop k).take n = (O.drop k).take n) : W.take (k + n) = O.take (k + n) := by
  rw [List.take_add, List.take_add, a, b]
theorem st_ne {W O : List UInt8} {k n : Nat} (h : k + n ≤ O.length) (b : (W.drop k).take n ≠ (O.drop k).take n) : W.take O.length ≠ O := by
  intro q
  apply b
  have e := congrArg (fun X : List UInt8 => (X.drop k).take n) q
  simp only [List.drop_take, List.take_take] at e
  rw [← e, Nat.min_eq_left (by omega)]
/-- what find gives -/
def FindR (F O : List UInt8) (a : Nat) (v : Value) : Prop :=
  (v = .none ∧ ∀ p, a ≤ p → ¬Stands F O p) ∨ ∃ p : Nat, ∃ t, v = .int p t ∧ a ≤ p ∧ Stands F O p ∧ ∀ q, a ≤ q → q < p → ¬Stands F O q
section
variable {prog : Program} {w : World} {A : Around} {E : Value → Shared → Prop} {base h₀ h : Heap} {g : Array GenState} {d : Drawn} {tk : Nat} {os : OsState}
variable {x dx l L a y dy q₁ : Addr} {m : Str → Option Value} {f f' : List Fact} {ps qs : List (List UInt8)} {Q : Value → Shared → Prop} {at_ size many : Int} {u u' : Tok} {O : List UInt8}

/-- what holds between the turns -/
inductive StandsJ (ps : List (List UInt8)) (x : Addr) (O V : List UInt8) (u' : Tok) (n : Nat) (m : Str → Option Value) (f : List Fact) : Prop
  | mk (i r kk : Nat) (t t' t'' : Tok) (h0 : f = []) (h1 : m "self" = some (.ref x)) (h2 : m "octets" = some (.bytes O.toArray u')) (h3 : m "taken" = some (.int (kk : Nat) t)) (h4 : m "index" = some (.int (i : Nat) t')) (h5 : m "inner" = some (.int (r : Nat) t'')) (h6 : Walk ps i r) (h7 : kk ≤ O.length) (h8 : kk = O.length ∨ rest ps i r = V.drop kk) (h9 : V.take kk = O.take kk) (h10 : n = O.length - kk)
theorem stands_c (W : Wd w base) (G : base.StaysIn h) (am : Amb A 6) (c : Ch base h x dx l ps) (h0 : 0 ≤ at_) (hO : O.length ≤ 1000)
    (k : ∀ h' tk', Kp [] h h' → Q (.bool (decide (Stands ps.flatten O at_.toNat))) ⟨h', g, d, tk', os⟩) :
    wpAny (model prog w) A (call (.ref 203) [.ref x, .bytes O.toArray u', .int at_ u]) Q E ⟨h, g, d, tk, os⟩ := by
  obtain ⟨vs, hl, z⟩ := has_LR c.il
  have hz := c.sz
  have hn := c.cnt
  have hv := z.length
  have hx := c.ix
  have hd' := c.id
  have kF : ¬Stands ps.flatten O at_.toNat → ∀ h' tk', Kp [] h h' → Q (.bool false) ⟨h', g, d, tk', os⟩ := fun n => by rw [decide_eq_false n] at k; exact k
  have kT : Stands ps.flatten O at_.toNat → ∀ h' tk', Kp [] h h' → Q (.bool true) ⟨h', g, d, tk', os⟩ := fun n => by rw [decide_eq_true n] at k; exact k
  clear k
  refine' callN W G [] (by simp) (by simp) am ?ho ?hcd ?hbind ?hloc ?_ ?h1 ?h2 ?h3 ?h4
  k_clsL
  intro h₁ L C am
  repeat kbo_bools
  refine ifD (fun cc => ?_) (fun cc => ?_)
  · repeat kbo_bools
    rename Cx _ _ _ _ _ _ => C
    exact kF (fun s => by have := s.1; omega) _ _ C.out
  repeat kbo_bools
  rename Cx _ _ _ _ _ _ => C
  refine place_x C W (am.mono (by decide)) (Ch.old C c) h0 (by omega) fun t i r t1 t2 h₂ tk₂ C pl => ?_
  repeat kbo_bools
  rename Cx _ _ _ _ _ _ => C
  have hle := pl.le
  have hrest := pl.rest
  have hW : O.length ≤ (ps.flatten.drop at_.toNat).length := by rw [List.length_drop]; omega
  generalize hWW : ps.flatten.drop at_.toNat = V at *
  have kF' : V.take O.length ≠ O → ∀ h' tk', Kp [] h h' → Q (.bool false) ⟨h', g, d, tk', os⟩ := fun n => kF fun s => n (by rw [← hWW]; exact s.2)
  have kT' : V.take O.length = O → ∀ h' tk', Kp [] h h' → Q (.bool true) ⟨h', g, d, tk', os⟩ := fun n => kT ⟨by omega, by rw [hWW]; exact n⟩
  refine whileC (StandsJ ps x O V u') (C.drop (by simp)) (n := O.length)
    ⟨i, r, 0, _, t1, t2, rfl, rfl, rfl, rfl, rfl, rfl, ⟨pl.lt⟩, by omega, .inr hrest, by simp, rfl⟩ ?_
  rintro n m₁ f₁ h₁ tk₁ ⟨i, r, kk, t, t', t'', rfl, ms, mo, mt, mi, mr, wk, hk, hpos, hcol, rfl⟩ C
  repeat kbo_bools
  refine ifD (fun cc => ?_) (fun cc => ?_)
  · intro K kn kr
    have hpos : rest ps i r = V.drop kk := by rcases hpos with q | q; omega; exact q
    obtain ⟨p, hp⟩ := Walk.part (ps := ps) (i := i) (r := r) (k := 1) (by decide) (by rw [hpos, List.length_drop]; omega)
    obtain ⟨v, hvi, tv, rfl⟩ := z.get hp
    have hlt := wk.lt p hp
    have hp1 := part_le hp
    have hz' : p.length ≤ 1000000 := by omega
    have hz'' : O.length ≤ 1000000 := by omega
    have hi2 : i < ps.length := (List.getElem?_eq_some_iff.mp hp).1
    have b1 := cut_length (xs := p) (some (r : Int)) (some ((r : Int) + O.length - kk))
    have b2 : (cut p (some (r : Int)) (some ((r : Int) + O.length - kk))).length ≤ 1000000 := by omega
    have e1 : cut p (some (r : Int)) (some ((r : Int) + O.length - kk)) = (p.drop r).take (O.length - kk) := by
      rw [show ((r : Int) + O.length - kk) = ((r + (O.length - kk) : Nat) : Int) by omega, cut_run, Nat.add_sub_cancel_left]
    have e2 : ∀ n : Nat, cut O (some (kk : Int)) (some ((kk : Int) + (n : Int))) = (O.drop kk).take n := fun n => by
      rw [← Int.natCast_add, cut_run, Nat.add_sub_cancel_left]
    have e3 := piece_len (p := p) (r := r) (k := O.length - kk)
    have e4 : (V.drop kk).take ((p.drop r).take (O.length - kk)).length = (p.drop r).take (O.length - kk) := by
      rw [← hpos, rest_cons hp (Nat.le_of_lt hlt), e3, List.take_append_of_le_length (by rw [List.length_drop]; omega)]
      rw [← List.length_drop (l := p), take_min]
    repeat kbo_bools
    rename Cx _ _ _ _ _ _ => C
    refine ifD (fun ne => ?_) (fun ne => ?_)
    · repeat kbo_bools
      rw [e1, e2] at ne
      refine kr _ _ (kF' (st_ne (k := kk) (n := ((p.drop r).take (O.length - kk)).length) (by omega) (by rw [e4]; exact ne)) _ _ C.out)
    · repeat kbo_bools
      rename Cx _ _ _ _ _ _ => C
      rw [e1, e2] at ne
      have ne : (p.drop r).take (O.length - kk) = (O.drop kk).take ((p.drop r).take (O.length - kk)).length := Classical.not_not.mp ne
      refine kn _ ⟨O.length - (kk + ((p.drop r).take (O.length - kk)).length), _, _, _, _, by omega, rfl, C, i + 1, 0, kk + ((p.drop r).take (O.length - kk)).length, _, _, _, rfl, by k_updF, by k_updF, (by rw [Int.natCast_add, ← e1]; rfl), rfl, rfl, Walk.next c.ne _, by omega, ?_, st_step hcol (by rw [e4]; exact ne), rfl⟩
      by_cases hh : O.length - kk ≤ p.length - r
      · exact .inl (by omega)
      · refine .inr ?_
        have e5 : ((p.drop r).take (O.length - kk)).length = (p.drop r).length := by rw [List.length_drop]; omega
        rw [e5, ← List.drop_drop, ← hpos, rest_cons hp (Nat.le_of_lt hlt), List.drop_left]
  · repeat kbo_bools
    have e : kk = O.length := by omega
    subst e
    rw [List.take_length] at hcol
    exact kT' hcol _ _ C.out
end
-- D3
/-- what difference gives -/
def DiffR (F O : List UInt8) (v : Value) : Prop :=
  (v = .none ∧ O = F) ∨ ∃ p : Nat, ∃ t, v = .int p t ∧ p ≤ F.length ∧ F[p]? ≠ O[p]? ∧ ∀ q, q < p → F[q]? = O[q]?
theorem same_upto {F O : List UInt8} {n : Nat} (h : F.take n = O.take n) : ∀ q, q < n → F[q]? = O[q]? := fun q hq => by
  have := congrArg (fun X : List UInt8 => X[q]?) h
  simpa [List.getElem?_take, hq] using this
section
variable {prog : Program} {w : World} {A : Around} {E : Value → Shared → Prop} {base h₀ h : Heap} {g : Array GenState} {d : Drawn} {tk : Nat} {os : OsState}
variable {x dx l L a y dy q₁ : Addr} {m : Str → Option Value} {f f' : List Fact} {ps qs : List (List UInt8)} {Q : Value → Shared → Prop} {at_ size many : Int} {u u' : Tok} {O : List UInt8}

/-- what holds between the turns -/
inductive FindJ (ps : List (List UInt8)) (x : Addr) (O : List UInt8) (at_ : Int) (u' : Tok) (i : Nat) (m : Str → Option Value) (f : List Fact) : Prop
  | mk (h0 : f = []) (h1 : m "self" = some (.ref x)) (h2 : m "wanted" = some (.bytes O.toArray u')) (h3 : ∀ q, at_.toNat ≤ q → q < at_.toNat + i → ¬Stands ps.flatten O q)
theorem find_c (W : Wd w base) (G : base.StaysIn h) (am : Amb A 7) (c : Ch base h x dx l ps) (h0 : 0 ≤ at_) (h1 : at_ ≤ 10000) (hO : O.length ≤ 1000)
    (k : ∀ v h' tk', Kp [] h h' → FindR ps.flatten O at_.toNat v → Q v ⟨h', g, d, tk', os⟩) :
    wpAny (model prog w) A (call (.ref 211) [.ref x, .bytes O.toArray u', .int at_ u]) Q E ⟨h, g, d, tk, os⟩ := by
  have hz := c.sz
  have hx := c.ix
  have hd' := c.id
  have hz'' : O.length ≤ 1000000 := by omega
  refine' callN W G [] (by simp) (by simp) am ?ho ?hcd ?hbind ?hloc ?_ ?h1 ?h2 ?h3 ?h4
  (case ho => k_is); (case hcd => k_is); (case hbind => exact binds_K (W.keeps G).X rfl (by k_is) rfl rfl rfl); (case hloc => exact locs rfl); (case h1 => rfl); (case h2 => rfl); (case h3 => rfl); (case h4 => decide)
  intro h₁ L C am
  repeat kbo_bools
  rename Cx _ _ _ _ _ _ => C
  refine iter_R C (C.get (List.Mem.head _)) am.hh (by omega) (by omega) (by omega) (by omega) fun I h₂ T C => ?_
  replace C := C.drop2
  refine forI T (FindJ ps x O at_ u') C ⟨rfl, rfl, rfl, fun q h1 h2 => by omega⟩ (fun i m l h' _ C => trivial) ?_ ?_ rfl rfl rfl
  · rintro i v m₁ l₁ h₁ tk₁ hi ⟨ti, rfl⟩ ⟨rfl, ms, mw, no⟩ C K kn kr
    repeat kbo_bools
    rename Cx _ _ _ _ _ _ => C
    refine stands_c W C.G (am.mono (by decide)) (Ch.old C c) (by omega) hO fun h₃ tk₃ kp => ?_
    replace C := C.kp kp
    repeat kbo_bools
    have e : (at_ + (i : Nat)).toNat = at_.toNat + i := by omega
    refine ifD (fun s => ?_) (fun s => ?_)
    · repeat kbo_bools
      rw [e] at s
      refine kr _ _ ?_
      exact k _ _ _ C.out (.inr ⟨at_.toNat + i, _, by rw [show at_ + (i : Nat) = ((at_.toNat + i : Nat) : Int) by omega], by omega, s, no⟩)
    · repeat kbo_bools
      rw [e] at s
      refine kn _ ⟨_, _, _, _, rfl, C, rfl, by k_updF, by k_updF, fun q h1 h2 => ?_⟩
      rcases Nat.lt_or_ge q (at_.toNat + i) with z | z
      · exact no q h1 z
      · rw [show q = at_.toNat + i by omega]; exact s
  · rintro h' tk' m' l' ⟨rfl, ms, mw, no⟩ C
    repeat kbo_bools
    refine k _ _ _ C.out (.inl ⟨rfl, fun p hp s => ?_⟩)
    have := s.1
    exact no p hp (by omega) s

/-- what holds between the turns -/
inductive DiffJ (ps : List (List UInt8)) (x : Addr) (O : List UInt8) (u' : Tok) (i : Nat) (m : Str → Option Value) (f : List Fact) : Prop
  | mk (h0 : f = []) (h1 : m "self" = some (.ref x)) (h2 : m "octets" = some (.bytes O.toArray u')) (n : Int) (t : Tok) (g0 : m "place" = some (.int n t)) (g1 : n = ((ps.take i).flatten.length : Int)) (g2 : ps.flatten.take (ps.take i).flatten.length = O.take (ps.take i).flatten.length)
/-- what holds between the turns -/
inductive DiffI (o p : List UInt8) (b : Int) (t t' : Tok) (e : Fact) (i : Nat) (m : Str → Option Value) (f : List Fact) : Prop
  | mk (h0 : f = [e]) (h1 : m "place" = some (.int b t)) (to : Tok) (g0 : m "other" = some (.bytes o.toArray to)) (g1 : m "part" = some (.bytes p.toArray t')) (g2 : ∀ q, q < i → o[q]? = p[q]?)
theorem diff_c (W : Wd w base) (G : base.StaysIn h) (am : Amb A 5) (c : Ch base h x dx l ps) (hO : O.length ≤ 1000)
    (k : ∀ v h' tk', Kp [] h h' → DiffR ps.flatten O v → Q v ⟨h', g, d, tk', os⟩) :
    wpAny (model prog w) A (call (.ref 218) [.ref x, .bytes O.toArray u']) Q E ⟨h, g, d, tk, os⟩ := by
  obtain ⟨vs, hl, z⟩ := has_LR c.il
  have hz := c.sz
  have hn := c.cnt
  have hv := z.length
  have hx := c.ix
  have hd' := c.id
  have hz'' : O.length ≤ 1000000 := by omega
  refine' callN W G [] (by simp) (by simp) am ?ho ?hcd ?hbind ?hloc ?_ ?h1 ?h2 ?h3 ?h4
  k_clsL
  intro h₁ L C am
  repeat kbo_bools
  rename Cx _ _ _ _ _ _ => C
  refine iter_L C (C.old hl) am.hh fun I h₂ T kp C => ?_
  refine forI T (DiffJ ps x O u') C ⟨rfl, rfl, rfl, _, _, rfl, by simp, by simp⟩ (fun i m l h' _ C => C.old hl) ?_ ?_ rfl rfl rfl
  · rintro i v m₁ l₁ h₁ tk₁ hi hv ⟨rfl, ms, mo, n, t, mp, rfl, same⟩ C K kn kr
    obtain ⟨p, hp, t', rfl⟩ := z.get' hv
    have hp1 := part_le hp
    have hz' : p.length ≤ 1000000 := by omega
    generalize hb : (ps.take i).flatten.length = b at *
    have ef : ∀ q, q < p.length → ps.flatten[b + q]? = p[q]? := fun q hq => by
      obtain ⟨hi', rfl⟩ := List.getElem?_eq_some_iff.mp hp
      rw [flat_split ps i, ← hb, List.getElem?_append_right (by omega), Nat.add_sub_cancel_left, List.drop_eq_getElem_cons hi', List.flatten_cons, List.getElem?_append_left hq]
    have el : b + p.length ≤ ps.flatten.length := by
      have := congrArg List.length (take_flat hp)
      rw [List.length_append, hb] at this
      have h2 : (ps.take (i + 1)).flatten.length ≤ ps.flatten.length := by rw [flat_split ps (i + 1), List.length_append]; omega
      omega
    have e1 : cut O (some (b : Int)) (some ((b : Int) + p.length)) = (O.drop b).take p.length := by rw [← Int.natCast_add, cut_run, Nat.add_sub_cancel_left]
    have eo : ∀ q, q < p.length → ((O.drop b).take p.length)[q]? = O[b + q]? := fun q hq => by
      rw [List.getElem?_take_of_lt hq, List.getElem?_drop]
    have l1 : ((O.drop b).take p.length).length = min p.length (O.length - b) := by rw [List.length_take, List.length_drop]
    have b1 : (cut O (some (b : Int)) (some ((b : Int) + p.length))).length ≤ 1000000 := by rw [e1]; omega
    repeat kbo_bools
    refine ifD (fun ne => ?_) (fun ne => ?_)
    · rw [e1] at ne
      repeat kbo_bools
      rename Cx _ _ _ _ _ _ => C
      refine iter_R C (C.get (List.Mem.head _)) am.hh (by decide) (by decide) (by omega) (by omega) fun I' h₂ T' C => ?_
      replace C := C.drop2
      rw [e1] at C T'
      have e0 : (((((O.drop b).take p.length).length : Nat) : Int) - 0).toNat = ((O.drop b).take p.length).length := by omega
      rw [e0] at T' C
      generalize ho : (O.drop b).take p.length = o at *
      refine forI T' (DiffI o p b t t' _) C ⟨rfl, by k_updF, _, rfl, by k_updF, fun q hq => by omega⟩ (fun i m l h' _ C => trivial) ?_ ?_ rfl rfl rfl
      · rintro j v m₂ l₂ h₂ tk₂ hj ⟨tj, rfl⟩ ⟨rfl, mp, to, mo, mq, eqs⟩ C K' kn' kr'
        repeat kbo_bools
        have g1 : o[j]? = some (o.getD j 0) := by rw [List.getD_eq_getElem?_getD, List.getElem?_eq_getElem (by omega)]; rfl
        have g2 : p[j]? = some (p.getD j 0) := by rw [List.getD_eq_getElem?_getD, List.getElem?_eq_getElem (by omega)]; rfl
        have ej : ((0 : Int) + (j : Nat)).toNat = j := by omega
        refine ifD (fun cc => ?_) (fun cc => ?_)
        · repeat kbo_bools
          rename Cx _ _ _ _ _ _ => C
          rw [ej] at cc
          refine kr' _ _ ?_
          refine kr _ _ ?_
          refine k _ _ _ C.out (.inr ⟨b + j, _, by rw [show (b : Int) + (0 + (j : Nat)) = ((b + j : Nat) : Int) by omega], by omega, ?_, fun q hq => ?_⟩)
          · rw [ef j (by omega), ← eo j (by omega), g1, g2]
            intro q
            exact cc (by rw [Option.some.inj q])
          · rcases Nat.lt_or_ge q b with z | z
            · exact same_upto same q z
            · obtain ⟨q', rfl⟩ : ∃ q', q = b + q' := ⟨q - b, by omega⟩
              rw [ef q' (by omega), ← eo q' (by omega)]; exact (eqs q' (by omega)).symm
        · repeat kbo_bools
          rename Cx _ _ _ _ _ _ => C
          rw [ej] at cc
          refine kn' _ ⟨_, _, _, _, rfl, C, rfl, by k_updF, _, by k_updF, by k_updF, fun q hq => ?_⟩
          rcases Nat.lt_or_ge q j with z | z
          · exact eqs q z
          · rw [show q = j by omega, g1, g2]
            have cc := Classical.not_not.mp cc
            have : (o.getD j 0) = (p.getD j 0) := UInt8.toNat_inj.mp (by omega)
            rw [this]
      · rintro h' tk' m' l' ⟨rfl, mp, to, mo, mq, eqs⟩ C
        have b2 : o.length ≤ 1000000 := by omega
        repeat kbo_bools
        rename Cx _ _ _ _ _ _ => C
        have lt : o.length < p.length := by
          rcases Nat.lt_or_ge o.length p.length with z | z
          · exact z
          · refine absurd (List.ext_getElem? fun q => ?_) ne
            rcases Nat.lt_or_ge q o.length with y | y
            · exact eqs q y
            · rw [List.getElem?_eq_none y, List.getElem?_eq_none (by omega)]
        refine kr _ _ ?_
        refine k _ _ _ C.out (.inr ⟨b + o.length, _, by rw [Int.natCast_add], by omega, ?_, fun q hq => ?_⟩)
        · rw [ef _ lt, List.getElem?_eq_getElem lt, List.getElem?_eq_none (by omega)]; simp
        · rcases Nat.lt_or_ge q b with z | z
          · exact same_upto same q z
          · obtain ⟨q', rfl⟩ : ∃ q', q = b + q' := ⟨q - b, by omega⟩
            rw [ef q' (by omega), ← eo q' (by omega)]; exact (eqs q' (by omega)).symm
    · rw [e1] at ne
      have ne : (O.drop b).take p.length = p := Classical.not_not.mp ne
      repeat kbo_bools
      rename Cx _ _ _ _ _ _ => C
      refine kn _ ⟨_, _, _, _, rfl, C, rfl, by k_updF, by k_updF, _, _, rfl, by rw [take_flat hp, List.length_append, hb]; simp, ?_⟩
      rw [take_flat hp, List.length_append, hb, List.take_add, List.take_add, same]
      congr 1
      rw [ne]
      refine List.ext_getElem? fun q => ?_
      rcases Nat.lt_or_ge q p.length with hq | hq
      · rw [List.getElem?_take_of_lt hq, List.getElem?_drop]; exact ef q hq
      · rw [List.getElem?_eq_none (by rw [List.length_take]; omega), List.getElem?_eq_none hq]
  · rintro h' tk' m' l' ⟨rfl, ms, mo, n, t, mp, rfl, same⟩ C
    rw [z.length, List.take_length] at mp same
    have e0 : ps.flatten = O.take ps.flatten.length := by rw [← same, List.take_length]
    have e2 := congrArg List.length e0
    rw [List.length_take] at e2
    repeat kbo_bools
    refine ifD (fun cc => ?_) (fun cc => ?_)
    · repeat kbo_bools
      refine k _ _ _ C.out (.inl ⟨rfl, ?_⟩)
      rw [List.take_of_length_le (by omega)] at e0; exact e0.symm
    · repeat kbo_bools
      refine k _ _ _ C.out (.inr ⟨_, _, rfl, Nat.le_refl _, ?_, same_upto same⟩)
      rw [List.getElem?_eq_none (Nat.le_refl _), List.getElem?_eq_getElem (by omega)]
      simp
end
-- D4
section
variable {prog : Program} {w : World} {A : Around} {E : Value → Shared → Prop} {base h₀ h : Heap} {g : Array GenState} {d : Drawn} {tk : Nat} {os : OsState}
variable {x dx l L a y dy q₁ : Addr} {m : Str → Option Value} {f f' : List Fact} {ps qs : List (List UInt8)} {Q : Value → Shared → Prop} {at_ size many : Int} {u u' : Tok} {O : List UInt8}

/-- what holds between the turns -/
inductive PackJ (ps : List (List UInt8)) (M : Nat) (u : Tok) (i : Nat) (m : Str → Option Value) (f : List Fact) : Prop
  | mk (a : Addr) (qs : List (List UInt8)) (us : List Value) (gt : List UInt8) (t : Tok) (h0 : f = [(a, LsO us)]) (h1 : All2 IsB qs us) (h2 : m "most" = some (.int (M : Int) u)) (h3 : m "found" = some (.ref a)) (h4 : m "gathered" = some (.bytes gt.toArray t)) (h5 : ∀ q ∈ qs, q.length = M) (h6 : gt.length < M) (h7 : qs.flatten ++ gt = (ps.take i).flatten)
/-- what holds between the turns -/
inductive PackW (G : List UInt8) (M : Nat) (u : Tok) (a : Addr) (p : Fact) (n : Nat) (m : Str → Option Value) (f : List Fact) : Prop
  | mk (qs : List (List UInt8)) (us : List Value) (gt : List UInt8) (t : Tok) (h0 : f = [p, (a, LsO us)]) (h1 : All2 IsB qs us) (h2 : m "most" = some (.int (M : Int) u)) (h3 : m "found" = some (.ref a)) (h4 : m "gathered" = some (.bytes gt.toArray t)) (h5 : ∀ q ∈ qs, q.length = M) (h6 : qs.flatten ++ gt = G) (h7 : n = gt.length)
theorem packed_c (W : Wd w base) (G : base.StaysIn h) (am : Amb A 6) (c : Ch base h x dx l ps) (hm : 1 ≤ many) (hz9 : ps.flatten.length ≤ 900)
    (k : ∀ y dy p qs h' tk', Kp [] h h' → h.get? y = none → h.get? dy = none → h.get? p = none → Ch base h' y dy p qs → qs.flatten = ps.flatten → (∀ q ∈ qs.dropLast, (q.length : Int) = many) → (∀ q ∈ qs, (q.length : Int) ≤ many) → Q (.ref y) ⟨h', g, d, tk', os⟩) :
    wpAny (model prog w) A (call (.ref 225) [.ref x, .int many u]) Q E ⟨h, g, d, tk, os⟩ := by
  obtain ⟨vs, hl, z⟩ := has_LR c.il
  have hz := c.sz
  have hn := c.cnt
  have hv := z.length
  have hx := c.ix
  have hd' := c.id
  refine' callN W G [] (by simp) (by simp) am ?ho ?hcd ?hbind ?hloc ?_ ?h1 ?h2 ?h3 ?h4
  k_clsL
  intro h₁ L C am
  repeat kbo_bools
  rename Cx _ _ _ _ _ _ => C
  obtain ⟨M, rfl⟩ : ∃ M : Nat, many = (M : Int) := ⟨many.toNat, by omega⟩
  refine iter_L C (C.old hl) am.hh fun I h₂ T kp C => ?_
  replace C := C.drop2
  refine forI T (PackJ ps M u) C ⟨_, [], [], [], _, rfl, .nil, rfl, rfl, rfl, by simp, by simp; omega, by simp⟩ (fun i m l h' _ C => C.old hl) ?_ ?_ rfl rfl rfl
  · rintro i v m₁ l₁ h₁ tk₁ hi hv' ⟨a, qs, us, gt, t, rfl, zq, mm, mf, mg, hq, hg, hcol⟩ C K kn kr
    obtain ⟨p, hp, t', rfl⟩ := z.get' hv'
    have hp1 := part_le hp
    have hgp : gt.length + p.length ≤ 1000000 := by
      have := congrArg List.length hcol
      have h2 : (ps.take i).flatten.length ≤ ps.flatten.length := by rw [flat_split ps i, List.length_append]; omega
      rw [List.length_append] at this; omega
    have hF : (ps.take (i + 1)).flatten.length ≤ ps.flatten.length := by rw [flat_split ps (i + 1), List.length_append]; omega
    repeat kbo_bools
    rename Cx _ _ _ _ _ _ => C
    refine whileC (PackW (ps.take (i + 1)).flatten M u a (I, LiO l (i + 1))) C (n := (gt ++ p).length)
      ⟨qs, us, gt ++ p, _, rfl, zq, by k_updF, by k_updF, rfl, hq, by rw [take_flat hp, ← hcol, List.append_assoc], rfl⟩ ?_
    clear C hgp hcol mm mf mg hg zq hq
    rintro n m₁ f₁ h₁ tk₁ ⟨qs, us, gt, t, rfl, zq, mm, mf, mg, hq, hcol, rfl⟩ C
    have e4 := congrArg List.length hcol
    rw [List.length_append] at e4
    have hgz : gt.length ≤ 1000000 := by omega
    have hu : us.length ≤ 1000000 := by
      rw [zq.length]
      have := ne_len (qs := qs) fun q hq' e => by have := hq q hq'; rw [e] at this; simp at this; omega
      omega
    repeat kbo_bools
    refine ifD (fun cc => ?_) (fun cc => ?_)
    · intro K kn kr
      repeat kbo_bools
      rename Cx _ _ _ _ _ _ => C
      rw [cut_upto] at C
      refine kn _ ⟨(gt.drop M).length, _, _, _, _, by rw [List.length_drop]; omega, rfl, C, qs ++ [gt.take M], _, gt.drop M, _, rfl, zq.snoc ⟨_, rfl⟩, by k_updF, by k_updF, (by rw [← cut_from]; rfl), ?_, ?_, rfl⟩
      · intro q hq'
        rcases List.mem_append.mp hq' with h3 | h3
        · exact hq q h3
        · rw [List.mem_singleton.mp h3, List.length_take]; omega
      · rw [List.flatten_append, List.flatten_singleton, List.append_assoc, List.take_append_drop]; exact hcol
    · repeat kbo_bools
      exact kn _ ⟨_, _, _, _, rfl, C, a, qs, us, gt, t, rfl, zq, mm, mf, mg, hq, by omega, hcol⟩
  · rintro h' tk' m' l' ⟨a, qs, us, gt, t, rfl, zq, mm, mf, mg, hq, hg, hcol⟩ C
    rw [hv, List.take_length] at hcol
    have e4 := congrArg List.length hcol
    rw [List.length_append] at e4
    have hne : ∀ q ∈ qs, q ≠ [] := fun q hq' e => by have := hq q hq'; rw [e] at this; simp at this; omega
    have hnl := ne_len hne
    have hu : us.length ≤ 1000000 := by rw [zq.length]; omega
    repeat kbo_bools
    rename Cx _ _ _ _ _ _ => C
    have e5 : (qs ++ [gt]).flatten = ps.flatten := by rw [List.flatten_append, List.flatten_singleton]; exact hcol
    refine make_c (ps := qs ++ [gt]) C W (am.mono (by decide)) (LR_of (C.get (.head _)) (zq.snoc ⟨_, rfl⟩)) (by rw [List.length_append]; simp; omega) (by rw [e5]; exact hz) fun y dy p h₂ tk₂ C₂ kp n1 n2 n3 c₂ => ?_
    repeat kbo_bools
    have k0 := C.out (T := [])
    refine k _ _ _ _ _ _ C₂.out (k0.new (by simp) n1) (k0.new (by simp) n2) (k0.new (by simp) n3) c₂ (by rw [full_flat]; exact e5) ?_ ?_
    · rw [full_snoc, full_id hne]
      split
      · intro q hq'
        rw [List.append_nil] at hq'
        rw [hq q (List.dropLast_subset _ hq')]
      · intro q hq'
        rw [List.dropLast_concat] at hq'
        rw [hq q hq']
    · rw [full_snoc, full_id hne]
      intro q hq'
      rcases List.mem_append.mp hq' with h3 | h3
      · rw [hq q h3]; omega
      · split at h3
        · cases h3
        · rw [List.mem_singleton.mp h3]; omega
end
-- D5
/-- a chain: itself, its dict, its list, its parts -/
abbrev CH := Addr × Addr × Addr × List (List UInt8)
def CH.flat (c : CH) : List UInt8 := c.2.2.2.flatten
/-- a chain's entries -/
def ent (c : CH) : List Fact := [(c.2.2.1, LB c.2.2.2), (c.1, InO c.2.1), (c.2.1, DiO c.2.2.1)]
def ents (cs : List CH) : List Fact := cs.flatMap ent
def refs (cs : List CH) : List Value := cs.map fun c => .ref c.1
/-- octets cut by sizes -/
noncomputable def segs : List UInt8 → List Int → List (List UInt8)
  | _, [] => []
  | F, n :: r => F.take n.toNat :: segs (F.drop n.toNat) r
theorem sum_take {ns : List Int} {i : Nat} {n : Int} (e : ns[i]? = some n) : (ns.take (i + 1)).sum = (ns.take i).sum + n := by
  rw [List.take_add_one, e]; simp
theorem sum_pos {ns : List Int} (h : ∀ n ∈ ns, 0 ≤ n) : 0 ≤ ns.sum := by
  induction ns with
  | nil => simp
  | cons n r ih => rw [List.sum_cons]; have := h n (.head _); have := ih fun m hm => h m (.tail _ hm); omega
theorem sum_le {ns : List Int} (h : ∀ n ∈ ns, 0 ≤ n) (i : Nat) : 0 ≤ (ns.take i).sum ∧ (ns.take i).sum ≤ ns.sum := by
  have a := sum_pos (ns := ns.take i) fun n hn => h n (List.mem_of_mem_take hn)
  have b := sum_pos (ns := ns.drop i) fun n hn => h n (List.mem_of_mem_drop hn)
  have c : ns.sum = (ns.take i).sum + (ns.drop i).sum := by rw [← List.sum_append, List.take_append_drop]
  omega
theorem segs_get : ∀ {F : List UInt8} {ns : List Int}, (∀ n ∈ ns, 0 ≤ n) → ∀ {i : Nat} {n : Int}, ns[i]? = some n → (segs F ns)[i]? = some ((F.drop (ns.take i).sum.toNat).take n.toNat)
  | F, m :: r, h, 0, n, e => by simp at e; subst e; simp [segs]
  | F, m :: r, h, i + 1, n, e => by
    have := segs_get (F := F.drop m.toNat) (ns := r) (fun k hk => h k (.tail _ hk)) (i := i) (n := n) (by simpa using e)
    have h1 := h m (.head _)
    have h2 := (sum_le (ns := r) (fun k hk => h k (.tail _ hk)) i).1
    simp only [segs, List.getElem?_cons_succ, List.take_succ_cons, List.sum_cons]
    rw [this, List.drop_drop, Int.toNat_add h1 h2]
theorem segs_len : ∀ {F : List UInt8} {ns : List Int}, (segs F ns).length = ns.length
  | _, [] => rfl
  | F, n :: r => by simp [segs, segs_len (F := F.drop n.toNat) (ns := r)]
theorem segs_flat : ∀ {F : List UInt8} {ns : List Int}, (∀ n ∈ ns, 0 ≤ n) → ns.sum = F.length → (segs F ns).flatten = F
  | F, [], _, e => by simp at e; have : F = [] := List.length_eq_zero_iff.mp (by omega); subst this; rfl
  | F, n :: r, h, e => by
    have h1 := h n (.head _)
    have h2 := sum_pos (ns := r) fun k hk => h k (.tail _ hk)
    rw [List.sum_cons] at e
    rw [segs, List.flatten_cons, segs_flat (fun k hk => h k (.tail _ hk)) (by rw [List.length_drop]; omega), List.take_append_drop]
theorem Cx.perm {base h₀ h : Heap} {L : Addr} {m : Str → Option Value} {l l' : List Fact} (C : Cx base h₀ L h m l) (p : l'.Perm l) : Cx base h₀ L h m l' :=
  C.sub (fun _ q => p.subset q) ((p.map Prod.fst).nodup_iff.mpr C.D)
theorem take_succ_eq {α : Type} {l : List α} {i : Nat} {a : α} (e : l[i]? = some a) : l.take (i + 1) = l.take i ++ [a] := by rw [List.take_add_one, e]; rfl
section
variable {prog : Program} {w : World} {A : Around} {E : Value → Shared → Prop} {base h₀ h : Heap} {g : Array GenState} {d : Drawn} {tk : Nat} {os : OsState}
variable {x dx l L a y dy q₁ s : Addr} {m : Str → Option Value} {f f' : List Fact} {ps qs : List (List UInt8)} {Q : Value → Shared → Prop} {at_ size many : Int} {u u' : Tok} {O : List UInt8} {ns : List Int}

/-- what holds between the turns -/
inductive CutJ (ns : List Int) (x s : Addr) (i : Nat) (m : Str → Option Value) (f : List Fact) : Prop
  | mk (h0 : f = []) (h1 : m "self" = some (.ref x)) (h2 : m "sizes" = some (.ref s)) (t : Tok) (g0 : m "total" = some (.int (ns.take i).sum t))
/-- what holds between the turns -/
inductive CutK (ps : List (List UInt8)) (ns : List Int) (x : Addr) (i : Nat) (m : Str → Option Value) (f : List Fact) : Prop
  | mk (a : Addr) (cs : List CH) (h0 : f = (a, LsO (refs cs)) :: ents cs) (h1 : m "self" = some (.ref x)) (h2 : m "found" = some (.ref a)) (t : Tok) (g0 : m "at" = some (.int (ns.take i).sum t)) (g1 : ∀ c ∈ cs, (∀ q ∈ c.2.2.2, q ≠ []) ∧ c.flat.length ≤ 1000) (g2 : cs.map CH.flat = (segs ps.flatten ns).take i)
theorem cut_up_c (W : Wd w base) (G : base.StaysIn h) (am : Amb A 6) (c : Ch base h x dx l ps) (hs : Has h (s, LI ns)) (hlen : ns.length ≤ 1000) (hp : ∀ n ∈ ns, 0 ≤ n) (hsum : ns.sum = ps.flatten.length)
    (k : ∀ a cs h' tk', Kp [] h h' → (∀ p ∈ (a, LsO (refs cs)) :: ents cs, h.get? p.1 = none ∧ Has h' p) → (((a, LsO (refs cs)) :: ents cs).map (·.1)).Nodup → (∀ c ∈ cs, (∀ q ∈ c.2.2.2, q ≠ []) ∧ c.flat.length ≤ 1000) → cs.map CH.flat = segs ps.flatten ns → Q (.ref a) ⟨h', g, d, tk', os⟩) :
    wpAny (model prog w) A (call (.ref 232) [.ref x, .ref s]) Q E ⟨h, g, d, tk, os⟩ := by
  have hz := c.sz
  have hx := c.ix
  have hd' := c.id
  obtain ⟨vs, hl, z⟩ := has_LR hs
  have hv := z.length
  refine' callN W G [] (by simp) (by simp) am ?ho ?hcd ?hbind ?hloc ?_ ?h1 ?h2 ?h3 ?h4
  k_clsL
  intro h₁ L C am
  repeat kbo_bools
  rename Cx _ _ _ _ _ _ => C
  refine iter_L C (C.old hl) am.hh fun I h₂ T kp C => ?_
  refine forI T (CutJ ns x s) C ⟨rfl, rfl, rfl, _, rfl⟩ (fun i m l h' _ C => C.old hl) ?_ ?_ rfl rfl rfl
  · rintro i v m₁ l₁ h₁ tk₁ hi hv' ⟨rfl, ms, mz, t, mt⟩ C K kn kr
    obtain ⟨n, hn, t', rfl⟩ := z.get' hv'
    have hn0 := hp n (List.mem_of_getElem? hn)
    repeat kbo_bools
    rename Cx _ _ _ _ _ _ => C
    exact kn _ ⟨_, _, _, _, rfl, C, rfl, by k_updF, by k_updF, _, by rw [sum_take hn]; rfl⟩
  rintro h' tk' m' l' ⟨rfl, ms, mz, t, mt⟩ C
  rw [hv, List.take_length] at mt
  repeat kbo_bools
  rename Cx _ _ _ _ _ _ => C
  refine iter_L C (C.old hl) am.hh fun I h₂ T kp C => ?_
  replace C := C.drop2
  refine forI T (CutK ps ns x) C ⟨_, [], rfl, by k_updF, by k_updF, _, rfl, by simp, by simp⟩ (fun i m l h' _ C => C.old hl) ?_ ?_ rfl rfl rfl
  · rintro i v m₁ l₁ h₁ tk₁ hi hv' ⟨a, cs, rfl, ms, mf, t, ma, good, eq⟩ C K kn kr
    obtain ⟨n, hn, t', rfl⟩ := z.get' hv'
    have hn0 := hp n (List.mem_of_getElem? hn)
    have b1 := sum_le hp i
    have b2 := sum_le hp (i + 1)
    rw [sum_take hn] at b2
    have lcs : cs.length ≤ 1000 := by have := congrArg List.length eq; rw [List.length_map, List.length_take, segs_len] at this; omega
    have lrs : (refs cs).length ≤ 1000000 := by unfold refs; rw [List.length_map]; omega
    repeat kbo_bools
    rename Cx _ _ _ _ _ _ => C
    refine pieces_c W C.G (am.mono (by decide)) (Ch.old C c) b1.1 hn0 (by omega) fun p qs h₃ tk₃ kp hn' hb' hq' fl ne => ?_
    replace C := C.add (C.kp kp) rfl hn' hq'
    repeat kbo_bools
    have fz : qs.flatten.length ≤ 1000 := by rw [fl, List.length_take, List.length_drop]; omega
    have fc := ne_len ne
    refine make_c C W (am.mono (by decide)) (C.get (.head _)) (by omega) fz fun y dy p' h₄ tk₄ C kp n1 n2 n3 c₂ => ?_
    rw [full_id ne] at C
    repeat kbo_bools
    rename Cx _ _ _ _ _ _ => C
    replace C := C.drop (l' := [_, _, _] ++ ([_, _] ++ ents cs)) (.cons_cons _ (.cons_cons _ (.cons_cons _ (.cons _ (.refl _)))))
    replace C := C.perm (l' := ([_, _] ++ ents cs) ++ [_, _, _]) List.perm_append_comm
    refine kn _ ⟨_, _, _, _, rfl, C, a, cs ++ [(y, dy, p', qs)], ?_, by k_updF, by k_updF, _, by rw [sum_take hn]; rfl, ?_, ?_⟩
    · simp [refs, ents, ent]
    · intro c hc
      rcases List.mem_append.mp hc with hc | hc
      · exact good c hc
      · rw [List.mem_singleton.mp hc]; exact ⟨ne, fz⟩
    · rw [List.map_append, eq, take_succ_eq (segs_get hp hn)]
      show _ ++ [qs.flatten] = _
      rw [fl]
  · rintro h' tk' m' l' ⟨a, cs, rfl, ms, mf, t, ma, good, eq⟩ C
    rw [hv, ← segs_len (F := ps.flatten), List.take_length] at eq
    repeat kbo_bools
    exact k a cs _ _ C.out (fun p hp => ⟨C.fresh (T := []) (φ := p.2) hp (by simp), (C.N p hp).2.2⟩) C.D good eq

/-- chains that stand -/
def Chs (base h : Heap) (cs : List CH) : Prop := ∀ c ∈ cs, Ch base h c.1 c.2.1 c.2.2.1 c.2.2.2
theorem joined_c (W : Wd w base) (G : base.StaysIn h) (am : Amb A 6) {cs : List CH} (cc : Chs base h cs) (ha : Has h (a, LsO (refs cs))) (hlen : cs.length ≤ 1000) (hz : ((cs.map CH.flat).flatten).length ≤ 1000)
    (k : ∀ y dy p qs h' tk', Kp [] h h' → h.get? y = none → h.get? dy = none → h.get? p = none → Ch base h' y dy p qs → qs.flatten = (cs.map CH.flat).flatten → Q (.ref y) ⟨h', g, d, tk', os⟩) :
    wpAny (model prog w) A (call (.ref 246) [.ref a]) Q E ⟨h, g, d, tk, os⟩ := by
  refine' callN W G [] (by simp) (by simp) am ?ho ?hcd ?hbind ?hloc ?_ ?h1 ?h2 ?h3 ?h4
  k_clsL
  intro h₁ L C am
  repeat kbo_bools
  rename Cx _ _ _ _ _ _ => C
  refine iter_L C (C.old ha) am.hh fun I h₂ T kp C => ?_
  have lr : (refs cs).length = cs.length := List.length_map _
  refine forI T (fun i m l => ∃ b us, l = [(b, LsO us)] ∧ m "parts" = some (.ref b) ∧ All2 IsB ((cs.take i).flatMap fun c => c.2.2.2) us) C ⟨_, [], rfl, rfl, by simpa using .nil⟩ (fun i m l h' _ C => C.old ha) ?_ ?_ rfl rfl rfl
  · rintro i v m₁ l₁ h₁ tk₁ hi hv' ⟨b, us, rfl, mp, zu⟩ C K kn kr
    obtain ⟨c, hc, rfl⟩ : ∃ c, cs[i]? = some c ∧ v = .ref c.1 := by
      unfold refs at hv'
      rw [List.getElem?_map] at hv'
      obtain ⟨c, e, q⟩ := Option.map_eq_some_iff.mp hv'
      exact ⟨c, e, q.symm⟩
    have cc1 := cc c (List.mem_of_getElem? hc)
    obtain ⟨vs, hl, z⟩ := has_LR cc1.il
    have hx := cc1.ix
    have hd' := cc1.id
    have hb : (us ++ vs).length ≤ 1000000 := by
      have e1 : ((cs.take (i + 1)).flatMap fun c => c.2.2.2).flatten.length ≤ 1000 := by
        have e2 : ((cs.take (i + 1)).flatMap fun c => c.2.2.2).flatten = ((cs.take (i + 1)).map CH.flat).flatten := by
          generalize cs.take (i + 1) = X
          induction X with
          | nil => rfl
          | cons c r ih => simp only [List.flatMap_cons, List.flatten_append, List.map_cons, List.flatten_cons, ih]; rfl
        rw [e2]
        refine Nat.le_trans ?_ hz
        conv => rhs; rw [← List.take_append_drop (i + 1) cs]
        rw [List.map_append, List.flatten_append, List.length_append]; omega
      have e3 : (us ++ vs).length = ((cs.take (i + 1)).flatMap fun c => c.2.2.2).length := by
        rw [take_succ_eq hc, List.flatMap_append, List.length_append, List.length_append, zu.length, z.length]; simp
      rw [e3]
      refine Nat.le_trans (ne_len fun q hq => ?_) (Nat.le_trans e1 (by decide))
      obtain ⟨c', hc', hq'⟩ := List.mem_flatMap.mp hq
      exact (cc c' (List.mem_of_mem_take hc')).ne q hq'
    rw [List.length_append] at hb
    repeat kbo_bools
    rename Cx _ _ _ _ _ _ => C
    refine kn _ ⟨_, _, _, _, rfl, C, b, us ++ vs, rfl, by k_updF, ?_⟩
    rw [take_succ_eq hc, List.flatMap_append]
    exact zu.append (by simpa using z)
  · rintro h' tk' m' l' ⟨b, us, rfl, mp, zu⟩ C
    rw [lr, List.take_length] at zu
    have e2 : ∀ X : List CH, (X.flatMap fun c => c.2.2.2).flatten = (X.map CH.flat).flatten := fun X => by
      induction X with
      | nil => rfl
      | cons c r ih => simp only [List.flatMap_cons, List.flatten_append, List.map_cons, List.flatten_cons, ih]; rfl
    have ne : ∀ q ∈ (cs.flatMap fun c => c.2.2.2), q ≠ [] := fun q hq => by
      obtain ⟨c', hc', hq'⟩ := List.mem_flatMap.mp hq
      exact (cc c' hc').ne q hq'
    have fc := ne_len ne
    rw [e2] at fc
    repeat kbo_bools
    rename Cx _ _ _ _ _ _ => C
    refine make_c C W (am.mono (by decide)) (LR_of (C.get (.head _)) zu) (by omega) (by rw [e2]; exact hz) fun y dy p h₄ tk₄ C₂ kp n1 n2 n3 c₂ => ?_
    repeat kbo_bools
    have k0 := C.out (T := [])
    exact k _ _ _ _ _ _ C₂.out (k0.new (by simp) n1) (k0.new (by simp) n2) (k0.new (by simp) n3) c₂ (by rw [full_flat, e2])
end
-- D6
theorem ifBF {b c : Bool} {X Y : Prop} (h : b = c) (y : Y) : if (b != c) = true then X else Y := by subst h; simpa using y
theorem sizes_sum (ps : List (List UInt8)) : (ps.map fun p => (p.length : Int)).sum = (ps.flatten.length : Int) := by
  induction ps with
  | nil => rfl
  | cons p r ih => rw [List.map_cons, List.sum_cons, ih, List.flatten_cons, List.length_append, Int.natCast_add]
section
variable {prog : Program} {w : World} {A : Around} {E : Value → Shared → Prop} {base h₀ h : Heap} {g : Array GenState} {d : Drawn} {tk : Nat} {os : OsState}
variable {x dx l L a y dy q₁ : Addr} {m : Str → Option Value} {f f' : List Fact} {ps qs : List (List UInt8)} {Q : Value → Shared → Prop} {at_ size many : Int} {u u' u'' : Tok} {O F : List UInt8}

theorem is_c (W : Wd w base) (G : base.StaysIn h) (am : Amb A 5) (c : Ch base h x dx l ps) (e : ps.flatten = F)
    (k : ∀ h' tk', Kp [] h h' → Q (.bool true) ⟨h', g, d, tk', os⟩) :
    wpAny (model prog w) A (call (.ref 291) [.ref x, .bytes F.toArray u]) Q E ⟨h, g, d, tk, os⟩ := by
  subst e
  have hz := c.sz
  have hn := c.cnt
  have hx := c.ix
  have hd' := c.id
  have hz' : ps.flatten.length ≤ 1000000 := by omega
  refine' callN W G [] (by simp) (by simp) am ?ho ?hcd ?hbind ?hloc ?_ ?h1 ?h2 ?h3 ?h4
  k_clsL
  intro h₁ L C am
  repeat kbo_bools
  rename Cx _ _ _ _ _ _ => C
  refine octets_c W C.G (am.mono (by decide)) (c.old C) fun t h₂ tk₂ kp => ?_
  replace C := C.kp kp
  repeat kbo_bools
  refine ifF (by simp) ?_
  repeat kbo_bools
  rename Cx _ _ _ _ _ _ => C
  refine empty_c W C.G (am.mono (by decide)) (c.old C) fun h₂ tk₂ kp => ?_
  replace C := C.kp kp
  repeat kbo_bools
  refine ifBF (by simp) ?_
  repeat kbo_bools
  rename Cx _ _ _ _ _ _ => C
  refine sizes_c W C.G (am.mono (by decide)) (c.old C) fun a h₂ tk₂ kp hn' hq => ?_
  replace C := C.add (C.kp kp) rfl hn' hq
  repeat kbo_bools
  refine ifT (sizes_sum ps) ?_
  repeat kbo_bools
  refine ifT (by
    intro q
    obtain ⟨p, hp, e⟩ := List.mem_map.mp q
    exact c.ne p hp (List.length_eq_zero_iff.mp (by omega))) ?_
  repeat kbo_bools
  rename Cx _ _ _ _ _ _ => C
  refine count_c W C.G (am.mono (by decide)) (c.old C) fun t h₂ tk₂ kp => ?_
  replace C := C.kp kp
  repeat kbo_bools
  obtain ⟨us, hu, zu⟩ := has_LR (C.get (.head _))
  have lu := zu.length
  rw [List.length_map] at lu
  refine len_L hu (by omega) ?_
  repeat kbo_bools
  rw [decide_eq_true (by omega)]
  exact k _ _ C.out

/-- what holds between the turns -/
inductive FoundJ (F O : List UInt8) (at_ : Int) (u u' : Tok) (i : Nat) (m : Str → Option Value) (f : List Fact) : Prop
  | mk (h0 : f = []) (h1 : m "whole" = some (.bytes F.toArray u)) (h2 : m "wanted" = some (.bytes O.toArray u')) (h3 : ∀ q, at_.toNat ≤ q → q < at_.toNat + i → ¬Stands F O q)
theorem found_c (W : Wd w base) (G : base.StaysIn h) (am : Amb A 3) (hF : F.length ≤ 1000) (hO : O.length ≤ 1000) (h0 : 0 ≤ at_) (h1 : at_ ≤ 10000)
    (k : ∀ v h' tk', Kp [] h h' → FindR F O at_.toNat v → Q v ⟨h', g, d, tk', os⟩) :
    wpAny (model prog w) A (call (.ref 298) [.bytes F.toArray u, .bytes O.toArray u', .int at_ u'']) Q E ⟨h, g, d, tk, os⟩ := by
  have hF' : F.length ≤ 1000000 := by omega
  have hO' : O.length ≤ 1000000 := by omega
  refine' callN W G [] (by simp) (by simp) am ?ho ?hcd ?hbind ?hloc ?_ ?h1 ?h2 ?h3 ?h4
  k_clsL
  intro h₁ L C am
  repeat kbo_bools
  rename Cx _ _ _ _ _ _ => C
  refine iter_R C (C.get (List.Mem.head _)) am.hh (by omega) (by omega) (by omega) (by omega) fun I h₂ T C => ?_
  replace C := C.drop2
  refine forI T (FoundJ F O at_ u u') C ⟨rfl, rfl, rfl, fun q h1 h2 => by omega⟩ (fun i m l h' _ C => trivial) ?_ ?_ rfl rfl rfl
  · rintro i v m₁ l₁ h₁ tk₁ hi ⟨ti, rfl⟩ ⟨rfl, ms, mw, no⟩ C K kn kr
    repeat kbo_bools
    have e1 : at_ + (i : Nat) = ((at_.toNat + i : Nat) : Int) := by omega
    have e2 : cut F (some (at_ + (i : Nat))) (some (at_ + (i : Nat) + O.length)) = (F.drop (at_.toNat + i)).take O.length := by
      rw [e1, ← Int.natCast_add, cut_run, Nat.add_sub_cancel_left]
    rename Cx _ _ _ _ _ _ => C
    refine ifD (fun s => ?_) (fun s => ?_)
    · repeat kbo_bools
      rw [e2] at s
      refine kr _ _ ?_
      exact k _ _ _ C.out (.inr ⟨at_.toNat + i, _, by rw [e1], by omega, ⟨by omega, s⟩, no⟩)
    · repeat kbo_bools
      rw [e2] at s
      refine kn _ ⟨_, _, _, _, rfl, C, rfl, by k_updF, by k_updF, fun q h1 h2 => ?_⟩
      rcases Nat.lt_or_ge q (at_.toNat + i) with z | z
      · exact no q h1 z
      · rw [show q = at_.toNat + i by omega]; exact fun t => s t.2
  · rintro h' tk' m' l' ⟨rfl, ms, mw, no⟩ C
    repeat kbo_bools
    refine k _ _ _ C.out (.inl ⟨rfl, fun p hp s => ?_⟩)
    have := s.1
    exact no p hp (by omega) s
end
-- D7
theorem At.self {a : Addr} {φ : Obj → Prop} : ∀ {l : List Fact}, (a, φ) ∈ l → At a φ φ l l
  | _, .head _ => .head
  | _, .tail _ h => .tail (At.self h)
section
variable {prog : Program} {w : World} {A : Around} {E : Value → Shared → Prop} {base h₀ h : Heap} {g : Array GenState} {d : Drawn} {tk : Nat} {os : OsState}
variable {x dx l L a b y dy q₁ : Addr} {m : Str → Option Value} {f f' : List Fact} {ps qs : List (List UInt8)} {Q : Value → Shared → Prop} {at_ size many : Int} {u u' u'' : Tok} {O F : List UInt8} {vs : List Value} {ns : List Int}

theorem take_x {top : Int} (C : Cx base h₀ L h m f) (W : Wd w base) (am : Amb A 4) (hm : (a, Src) ∈ f) (h1 : 0 < top) (h2 : top < 1000000)
    (k : ∀ v t h' tk', 0 ≤ v → v < top → Cx base h₀ L h' m f → Q (.int v t) ⟨h', g, d, tk', os⟩) :
    wpAny (model prog w) A (call (.ref 260) [.ref a, .int top u]) Q E ⟨h, g, d, tk, os⟩ :=
  take_c W C.G am (C.get hm) (C.nobase hm) h1 h2 fun v t h' tk' v0 v1 kp hx => k v t h' tk' v0 v1 (C.at (At.self hm) kp hx)
end
local macro_rules | `(tactic| kbo_bools) => `(tactic| first
  | ((with_reducible show wpAny _ _ (binaryOp .Pow (Value.int 10 _) (Value.int 18 _)) _ _ _); refine pow_int_small (by decide) (by decide) (by decide) ?_)
  | ((with_reducible show wpAny _ _ (call (Value.ref 260) _) _ _ _); (rename Cx _ _ _ _ _ _ => cOld); refine' take_x cOld (by assumption) (Amb.mono (by assumption) (by decide)) ?hm ?h1 ?h2 ?_; (case hm => k_mem); (case h1 => k_memK); (case h2 => k_memK); clear cOld; intro _ _ _ _ _ _ _))
local macro_rules | `(tactic| kbo_bools) => `(tactic| first
  | ((with_reducible show wpAny _ _ (eval (PySem.Expr.Name _ _) _) _ _ _); first
    | (refine' nF (by assumption) ?hc ?hm ?_; (case hc => rfl); (case hm => k_mem))
    | (refine' nC (by assumption) ?hc ?hm ?_; (case hc => rfl); (case hm => k_mem))))
-- D8
--3 the steps of MAC3 too
section
variable {prog : Program} {w : World} {A : Around} {E : Value → Shared → Prop} {base h₀ h : Heap} {g : Array GenState} {d : Drawn} {tk : Nat} {os : OsState}
variable {x dx l L a b y dy q₁ : Addr} {m : Str → Option Value} {f f' : List Fact} {ps qs : List (List UInt8)} {Q : Value → Shared → Prop} {at_ size many : Int} {u u' u'' : Tok} {O F : List UInt8} {vs : List Value} {ns : List Int}
theorem pool_end {B M : Int} {t t' : Tok} (C : Cx base (hideAll h []) L h₀ m ((b, LsO [.int B t, .int M t']) :: f)) (h0 : 0 ≤ B) (h1 : 0 ≤ M) (h2 : M < 2147483648) : Kp [] h h₀ ∧ h.get? b = none ∧ Has h₀ (b, Src) :=
  ⟨C.out (T := []), C.fresh (T := []) (.head _) (by simp), let ⟨o, e, q⟩ := C.get (.head _); ⟨o, e, _, _, h0, h1, h2, _, q, .cons ⟨_, rfl⟩ (.cons ⟨_, rfl⟩ .nil)⟩⟩
theorem mulbit {B : Int} {c : Bool} (h : 0 ≤ B) : 0 ≤ B * (if c then 1 else 0) := by cases c <;> simp [h]
/-- a list, its other fields untold -/
def IlO (vs : List Value) (o : Obj) : Prop := o.cls = .type "list" ∧ ∃ n, o.data = .seq vs.toArray n
theorem has_il {vs : List Value} (x : Has h (a, IlO vs)) : h.IsList a vs.toArray := x
theorem len_I {Q : Value → Shared → Prop} (x : Has h (a, IlO vs)) (hz : vs.length ≤ 1000000) (q : Q (.int vs.length (tk + 1)) ⟨h, g, d, tk + 1 + 1, os⟩) :
    wpAny (model prog w) A (call (.builtin "len") [.ref a]) Q E ⟨h, g, d, tk, os⟩ :=
  call_len_list (s := ⟨h, g, d, tk, os⟩) (has_il x) (by rw [List.size_toArray]; omega) (by rw [List.size_toArray]; exact q)
theorem item_I {value slice : PySem.Expr} {k : Int} {u : Tok} {v : Value} {Q : Value → Shared → Prop} (x : Has h (a, IlO vs)) (h0 : 0 ≤ k) (h1 : k < 1000000) (hx : vs[k.toNat]? = some v) (q : Q v ⟨h, g, d, tk, os⟩)
    (hs : subscripted slice false (.ref a) (.int k u) = operate [.ref a, .int k u] (getItem (.ref a) (.int k u)) := by with_unfolding_all rfl) :
    wpAny (model prog w) A (subscriptTail value slice (.ref a) (.int k u)) Q E ⟨h, g, d, tk, os⟩ :=
  tail_any (has_il x).typeIs slot_list_getitem.lookup (wpAny_getItem_list (has_il x) h0 (by omega) (by simpa using hx) q) hs
theorem pool_c (W : Wd w base) (G : base.StaysIn h) (am : Amb A 3) (hs : Has h (a, IlO vs)) (hi : All2 IsI ns vs) (hl : vs.length ≤ 63) (h0 : 0 ≤ many) (h1 : many ≤ 10)
    (k : ∀ b h' tk', Kp [] h h' → h.get? b = none → Has h' (b, Src) → Q (.ref b) ⟨h', g, d, tk', os⟩) :
    wpAny (model prog w) A (call (.ref 253) [.ref a, .int many u]) Q E ⟨h, g, d, tk, os⟩ := by
  refine' callN W G [] (by simp) (by simp) am ?ho ?hcd ?hbind ?hloc ?_ ?h1 ?h2 ?h3 ?h4
  k_clsL
  intro h₁ L C am
  repeat kbo_bools
  rename Cx _ _ _ _ _ _ => C
  refine len_I (C.old hs) (by omega) ?_
  repeat kbo_bools
  have fm : ∀ x y : Int, 0 < y → 0 ≤ x.fmod y ∧ x.fmod y < y := fun x y hy => ⟨Int.fmod_nonneg_of_pos x hy, Int.fmod_lt_of_pos x hy⟩
  have f1 := fun x => fm x 2147483647 (by decide)
  have fin : ∀ {b B M t t' h' L m f tk'}, Cx base (hideAll h []) L h' m ((b, LsO [.int (B * (if B ≥ 1000000000000000000 then 1 else 0)) t, .int (Int.fmod M 2147483647) t']) :: f) → 0 ≤ B → Q (.ref b) ⟨h', g, d, tk', os⟩ := by
    intro b B M t t' h' L m f tk' C hB
    obtain ⟨a1, a2, a3⟩ := pool_end C (by split <;> omega) (f1 _).1 (by have := (f1 M).2; omega)
    exact k _ _ _ a1 a2 a3
  refine ifD (fun cc => ?_) (fun cc => ?_)
  · obtain ⟨v, hv⟩ : ∃ v, vs[many.toNat]? = some v := ⟨_, List.getElem?_eq_getElem (by omega)⟩
    obtain ⟨n, hn, t, rfl⟩ := hi.get' hv
    repeat kbo_bools
    rename Cx _ _ _ _ _ _ => C
    refine item_I (C.old hs) (by omega) (by omega) hv ?_
    repeat kbo_bools
    rename Cx _ _ _ _ _ _ => C
    obtain ⟨a1, a2, a3⟩ := pool_end C (mulbit (by omega)) (f1 _).1 (by have := (f1 ((Int.fmod (max n (-1 - n)) 2147483629 + 7919 * many * many + 31 * many + 17) * 48271)).2; omega)
    exact k _ _ _ a1 a2 a3
  · repeat kbo_bools
    rename Cx _ _ _ _ _ _ => C
    obtain ⟨a1, a2, a3⟩ := pool_end C (mulbit (by decide)) (f1 _).1 (by have := (f1 ((Int.fmod (max 0 (-1 - 0)) 2147483629 + 7919 * many * many + 31 * many + 17) * 48271)).2; omega)
    exact k _ _ _ a1 a2 a3

theorem one_c (W : Wd w base) (G : base.StaysIn h) (am : Amb A 5) (ha : Has h (a, Src)) (hb : base.get? a = none) (hl : Has h (b, LsO vs)) (ne : b ≠ a) (h0 : 0 < vs.length) (h1 : vs.length ≤ 1000)
    (k : ∀ v h' tk', v ∈ vs → Kp [a] h h' → Has h' (a, Src) → Q v ⟨h', g, d, tk', os⟩) :
    wpAny (model prog w) A (call (.ref 267) [.ref a, .ref b]) Q E ⟨h, g, d, tk, os⟩ := by
  have hl1 := has_hide (T := [a]) hl (by simpa using ne)
  refine' callN W G [(a, Src)] (by simpa using ⟨hb, ha⟩) (by simp) am ?ho ?hcd ?hbind ?hloc ?_ ?h1 ?h2 ?h3 ?h4
  k_clsL
  intro h₁ L C am
  repeat kbo_bools
  rename_i v t h₂ tk₂ v0 v1 C
  have hv : vs[v.toNat]? = some (vs[v.toNat]'(by omega)) := List.getElem?_eq_getElem (by omega)
  repeat kbo_bools
  rename Cx _ _ _ _ _ _ => C
  exact k _ _ _ (List.getElem_mem _) C.out (C.get (.head _))

theorem one_x (C : Cx base h₀ L h m f) (W : Wd w base) (am : Amb A 5) (hm : (a, Src) ∈ f) (hl : Has h (b, LsO vs)) (ne : b ≠ a) (h0 : 0 < vs.length) (h1 : vs.length ≤ 1000)
    (k : ∀ v h' tk', v ∈ vs → Cx base h₀ L h' m f → Q v ⟨h', g, d, tk', os⟩) :
    wpAny (model prog w) A (call (.ref 267) [.ref a, .ref b]) Q E ⟨h, g, d, tk, os⟩ :=
  one_c W C.G am (C.get hm) (C.nobase hm) hl ne h0 h1 fun v h' tk' hv kp hx => k v h' tk' hv (C.at (At.self hm) kp hx)
theorem ne_head {a b : Addr} {φ ψ : Obj → Prop} (C : Cx base h₀ L h m ((b, φ) :: f)) (hm : (a, ψ) ∈ f) : b ≠ a := fun q => by
  have := C.D
  simp only [List.map_cons, List.nodup_cons] at this
  exact this.1 (q ▸ List.mem_map_of_mem (f := Prod.fst) hm)

theorem loct_c (W : Wd w base) (G : base.StaysIn h) (am : Amb A 6) (ha : Has h (a, Src)) (hb : base.get? a = none) (h0 : 0 ≤ many) (h1 : many ≤ 10)
    (k : ∀ (F : List UInt8) t h' tk', (F.length : Int) = many → Kp [a] h h' → Has h' (a, Src) → Q (.bytes F.toArray t) ⟨h', g, d, tk', os⟩) :
    wpAny (model prog w) A (call (.ref 272) [.ref a, .int many u]) Q E ⟨h, g, d, tk, os⟩ := by
  refine' callC W G [(a, Src)] (by simpa using ⟨hb, ha⟩) (by simp) am ?ho ?hcd ?hbind ?hloc ?hnd ?_ ?h1 ?h2 ?h3
  (case ho => k_is); (case hcd => k_is); (case hbind => exact rfl); (case hloc => exact rfl); (case hnd => decide); (case h1 => rfl); (case h2 => rfl); (case h3 => rfl)
  intro h₁ L tk₁ C am
  replace C : Cx base (hideAll h [a]) L h₁ _ [(L + 1, CeO (some (.ref a))), (a, Src)] := C
  repeat kbo_bools
  rename Cx _ _ _ _ _ _ => C
  refine iter_R C (C.get (List.Mem.head _)) am.hh (by decide) (by decide) (by omega) (by omega) fun I h₂ T C => ?_
  replace C := C.drop2
  have e0 : (many - 0).toNat = many.toNat := by omega
  rw [e0] at T C
  refine compL T (fun i ys l => l = [(L + 1, CeO (some (.ref a))), (a, Src)] ∧ ∃ ns : List Int, ns.length = i ∧ i ≤ many.toNat ∧ (∀ n ∈ ns, 0 ≤ n ∧ n < 256) ∧ All2 IsI ns ys) C ⟨rfl, [], rfl, by omega, by simp, .nil⟩ ?_ (fun i ys D F Lc m' l h' _ C => trivial) ?_ ?_ (by decide) rfl rfl
  · rintro i ys l ⟨rfl, ns, hn, hi, hr, z⟩
    rw [z.length]; omega
  · rintro i v ys l₁ Lc h₁ tk₁ m₁ D hi ⟨ti, rfl⟩ ⟨rfl, ns, hn, hi', hr, z⟩ hm C
    refine ifs0 ?_
    repeat kbo_bools
    rename Cx _ _ _ _ _ _ => C
    refine one_x C W (am.mono (by decide)) (by k_mem) (C.get (.head _)) (ne_head C (by k_mem)) (by simp) (by simp) fun v h₃ tk₃ hv C => ?_
    obtain ⟨n, t, rfl, n0, n1⟩ : ∃ n t, v = .int n t ∧ 0 ≤ n ∧ n < 256 := by
      simp only [List.mem_cons, List.not_mem_nil, or_false] at hv
      rcases hv with rfl | rfl | rfl | rfl | rfl | rfl <;> exact ⟨_, _, rfl, by decide, by decide⟩
    exact ⟨_, _, _, _, rfl, C.drop1, rfl, ns ++ [n], by simp [hn], by omega, by
      intro m hm
      rcases List.mem_append.mp hm with hm | hm
      · exact hr m hm
      · rw [List.mem_singleton.mp hm]; exact ⟨n0, n1⟩, z.snoc ⟨_, rfl⟩⟩
  · rintro h' tk' D ys l' ⟨rfl, ns, hn, hi', hr, z⟩ C
    repeat kbo_bools
    refine new_ints C (LR_of (C.get (.head _)) z) hr (by omega) am.hh fun t h₃ tk₃ C => ?_
    repeat kbo_bools
    exact k _ _ _ _ (by rw [List.length_map, hn]; omega) C.out (C.get (by k_mem))

theorem loct_x (C : Cx base h₀ L h m f) (W : Wd w base) (am : Amb A 6) (hm : (a, Src) ∈ f) (h0 : 0 ≤ many) (h1 : many ≤ 10)
    (k : ∀ (F : List UInt8) t h' tk', (F.length : Int) = many → Cx base h₀ L h' m f → Q (.bytes F.toArray t) ⟨h', g, d, tk', os⟩) :
    wpAny (model prog w) A (call (.ref 272) [.ref a, .int many u]) Q E ⟨h, g, d, tk, os⟩ :=
  loct_c W C.G am (C.get hm) (C.nobase hm) h0 h1 fun F t h' tk' hF kp hx => k F t h' tk' hF (C.at (At.self hm) kp hx)

theorem lparts_c (W : Wd w base) (G : base.StaysIn h) (am : Amb A 7) (ha : Has h (a, Src)) (hb : base.get? a = none)
    (k : ∀ b (ps : List (List UInt8)) h' tk', ps.length ≤ 4 → ps.flatten.length ≤ 12 → Kp [a] h h' → Has h' (a, Src) → h.get? b = none → Has h' (b, LB ps) → Q (.ref b) ⟨h', g, d, tk', os⟩) :
    wpAny (model prog w) A (call (.ref 277) [.ref a]) Q E ⟨h, g, d, tk, os⟩ := by
  refine' callC W G [(a, Src)] (by simpa using ⟨hb, ha⟩) (by simp) am ?ho ?hcd ?hbind ?hloc ?hnd ?_ ?h1 ?h2 ?h3
  (case ho => k_is); (case hcd => k_is); (case hbind => exact rfl); (case hloc => exact rfl); (case hnd => decide); (case h1 => rfl); (case h2 => rfl); (case h3 => rfl)
  intro h₁ L tk₁ C am
  replace C : Cx base (hideAll h [a]) L h₁ _ [(L + 1, CeO (some (.ref a))), (a, Src)] := C
  have aT := C.D
  repeat kbo_bools
  rename_i v0 v1 _ _ _
  rename Cx _ _ _ _ _ _ => C
  refine iter_R C (C.get (List.Mem.head _)) am.hh (by decide) (by decide) (by omega) (by omega) fun I h₂ T C => ?_
  replace C := C.drop2
  refine compL T (fun i ys l => l = [(L + 1, CeO (some (.ref a))), (a, Src)] ∧ ∃ ps : List (List UInt8), ps.length = i ∧ i ≤ 4 ∧ ps.flatten.length ≤ 3 * i ∧ All2 IsB ps ys) C ⟨rfl, [], rfl, by omega, by simp, .nil⟩ ?_ (fun i ys D F Lc m' l h' _ C => trivial) ?_ ?_ (by decide) rfl rfl
  · rintro i ys l ⟨rfl, ns, hn, hi, hr, z⟩
    rw [z.length]; omega
  · rintro i v ys l₁ Lc h₁ tk₁ m₁ D hi ⟨ti, rfl⟩ ⟨rfl, ps, hn, hi', hr, z⟩ hm C
    refine ifs0 ?_
    repeat kbo_bools
    rename Cx _ _ _ _ _ _ => C
    refine loct_x C W (am.mono (by decide)) (by k_mem) (by omega) (by omega) fun F t h₃ tk₃ hF C => ?_
    exact ⟨_, _, _, _, rfl, C, rfl, ps ++ [F], by simp [hn], by omega, by rw [List.flatten_append, List.length_append, List.flatten_singleton]; omega, z.snoc ⟨_, rfl⟩⟩
  · rintro h' tk' D ys l' ⟨rfl, ps, hn, hi', hr, z⟩ C
    repeat kbo_bools
    have D' := C.D
    exact k _ ps _ _ (by omega) (by omega) C.out (C.get (by k_mem)) (C.fresh (.head _) (by simp at D' ⊢; grind)) (LR_of (C.get (.head _)) z)
end
-- D9
--3 the steps of MAC3 too
theorem Cx.upd {base h₀ h h' : Heap} {L : Addr} {m : Str → Option Value} {l l' : List Fact} (C : Cx base h₀ L h m l) {T : List Addr} (k : Kp T h h') (hT : ∀ t ∈ T, t ∈ l.map (·.1))
    (hl : ∀ p ∈ l', (p ∈ l ∧ p.1 ∉ T) ∨ (p.1 ∈ l.map (·.1) ∧ Has h' p) ∨ (h.get? p.1 = none ∧ Has h' p)) (D : (l'.map (·.1)).Nodup) : Cx base h₀ L h' m l' := by
  have T0 : ∀ y ∈ T, h₀.get? y = none ∧ y ≠ L := fun y hy => by
    obtain ⟨p, hp, rfl⟩ := List.mem_map.mp (hT y hy)
    exact ⟨(C.N p hp).2.1, (C.N p hp).1⟩
  refine ⟨⟨ns_kp C.F.ns k (fun q => (T0 L q).2 rfl), fun b o e => k b o (fun q => by rw [(T0 b q).1] at e; cases e) (C.F.keep b o e), C.F.above⟩, fun p hp => ?_, D, C.B⟩
  rcases hl p hp with ⟨a, b⟩ | ⟨a, b⟩ | ⟨a, b⟩
  · have := C.N p a
    exact ⟨this.1, this.2.1, k.has b this.2.2⟩
  · obtain ⟨r, hr, e⟩ := List.mem_map.mp a
    have := C.N r hr
    exact ⟨e ▸ this.1, e ▸ this.2.1, b⟩
  · refine ⟨fun q => ?_, ?_, b⟩
    · obtain ⟨o, _, _, z, _⟩ := C.F.ns; rw [← q, a] at z; cases z
    · cases q : h₀.get? p.1 with
      | none => rfl
      | some o => have := C.F.keep _ o q; rw [a] at this; cases this
theorem Cx.fr2 {base h₀ h : Heap} {L : Addr} {m : Str → Option Value} {l : List Fact} {a b : Addr} {φ : Obj → Prop} (C : Cx base h₀ L h m l) (hm : (a, φ) ∈ l) (n : h.get? b = none) : a ≠ b := fun q => by
  obtain ⟨o, z, _⟩ := C.get hm
  rw [show (a, φ).1 = b from q, n] at z; cases z
section
variable {prog : Program} {w : World} {A : Around} {E : Value → Shared → Prop} {base h₀ h : Heap} {g : Array GenState} {d : Drawn} {tk : Nat} {os : OsState}
variable {x dx l L a b y dy q₁ : Addr} {m : Str → Option Value} {f f' : List Fact} {ps qs : List (List UInt8)} {Q : Value → Shared → Prop} {at_ size many : Int} {u u' u'' : Tok} {O F : List UInt8} {vs : List Value} {ns : List Int}

theorem changed_c (W : Wd w base) (G : base.StaysIn h) (am : Amb A 8) (c : Ch base h x dx l ps) (e : ps.flatten = F) (hF : F.length ≤ 900) (ha : Has h (a, Src)) (hb : base.get? a = none) (na : a ≠ l)
    (k : ∀ l' ps' (F' : List UInt8) t h' tk', Kp [dx, l, a] h h' → Has h' (a, Src) → (l' = l ∨ h.get? l' = none) → Ch base h' x dx l' ps' → ps'.flatten = F' → F'.length ≤ F.length + 6 → Q (.bytes F'.toArray t) ⟨h', g, d, tk', os⟩) :
    wpAny (model prog w) A (call (.ref 329) [.ref a, .ref x, .bytes F.toArray u]) Q E ⟨h, g, d, tk, os⟩ := by
  have ad : a ≠ dx := by
    obtain ⟨o, e, _, _, _, _, _, vs, ⟨n, rfl⟩, _⟩ := ha
    obtain ⟨o', e', _, _, _, rfl⟩ := c.id
    exact get_ne e e' (by simp)
  have ax : x ≠ a := by
    obtain ⟨o, e, _, _, _, _, _, vs, ⟨n, rfl⟩, _⟩ := ha
    obtain ⟨o', e', rfl⟩ := c.ix
    exact get_ne e' e (by simp)
  have hx := has_hide (T := [dx, l, a]) c.ix (by simpa using ⟨c.xd, c.xl, ax⟩)
  refine' callN W G [(dx, DiO l), (l, LB ps), (a, Src)] (by simpa using ⟨⟨c.bd, c.id⟩, ⟨c.bl, c.il⟩, hb, ha⟩) (by simpa using ⟨⟨c.dl, Ne.symm ad⟩, Ne.symm na⟩) am ?ho ?hcd ?hbind ?hloc ?_ ?h1 ?h2 ?h3 ?h4
  k_clsL
  intro h₁ L C am
  have chC : ∀ {h₂ m f}, Cx base (hideAll h [dx, l, a]) L h₂ m ((dx, DiO l) :: (l, LB ps) :: f) → Ch base h₂ x dx l ps := fun C => ⟨c.bx, c.bd, c.bl, C.old hx, C.get (.head _), C.get (.tail _ (.head _)), c.ne, c.sz⟩
  have fin : ∀ {l' ps' hh h₂ m F' t tk'}, Cx base (hideAll h [dx, l, a]) L h₂ m ((dx, DiO l') :: (l', LB ps') :: [(a, Src)]) → Ch base hh x dx l' ps' → ps'.flatten = F' → F'.length ≤ F.length + 6 → Q (.bytes F'.toArray t) ⟨h₂, g, d, tk', os⟩ := by
    intro l' ps' hh h₂ m F' t tk' C c4 e' hl'
    refine k l' ps' F' _ _ _ C.out (C.get (by k_mem)) ?_ ⟨c.bx, c.bd, c4.bl, C.old hx, C.get (.head _), C.get (.tail _ (.head _)), c4.ne, c4.sz⟩ e' hl'
    by_cases q : l' = l
    · exact .inl q
    · refine .inr (C.fresh (.tail _ (.head _)) ?_)
      have := C.D
      simp only [List.map_cons, List.map_nil, List.nodup_cons, List.mem_cons, not_or, List.not_mem_nil, or_false] at this ⊢
      grind
  have hF' : F.length ≤ 1000000 := by omega
  repeat kbo_bools
  rename_i v t h₂ tk₂ v0 v1 _
  rename Cx _ _ _ _ _ _ => C
  refine loct_x C W (am.mono (by decide)) (by k_mem) (by omega) (by omega) fun M t h₂ tk₂ hM C => ?_
  have hM' : M.length ≤ 1000000 := by omega
  repeat kbo_bools
  rename_i n _ _ _ n0 n1 _ C
  replace C := C.drop (l' := [(dx, DiO l), (l, LB ps), (a, Src)]) (by first | exact .refl _ | exact .cons _ (.refl _))
  have hl := congrArg List.length e
  refine ifD (fun _ => ?_) (fun _ => ?_)
  · repeat kbo_bools
    rename Cx _ _ _ _ _ _ => C
    refine add_front_c W C.G (am.mono (by decide)) (chC C) (by omega) fun l' ps' h₃ tk₃ kp hl' c4 e4 => ?_
    replace C := C.mut kp hl' c4
    repeat kbo_bools
    rw [e] at e4
    exact fin C c4 e4 (by rw [List.length_append]; omega)
  repeat kbo_bools
  refine ifD (fun _ => ?_) (fun _ => ?_)
  · repeat kbo_bools
    rename Cx _ _ _ _ _ _ => C
    refine add_back_c W C.G (am.mono (by decide)) (chC C) (by omega) fun l' ps' h₃ tk₃ kp hl' c4 e4 => ?_
    replace C := C.mut kp hl' c4
    repeat kbo_bools
    rw [e] at e4
    exact fin C c4 e4 (by rw [List.length_append]; omega)
  repeat kbo_bools
  have en : n = ((n.toNat : Nat) : Int) := by omega
  refine ifD (fun _ => ?_) (fun _ => ?_)
  · repeat kbo_bools
    rename Cx _ _ _ _ _ _ => C
    refine drop_front_c W C.G (am.mono (by decide)) (chC C) n0 (by omega) fun l' ps' h₃ tk₃ kp hl' c4 e4 => ?_
    replace C := C.mut kp hl' c4
    repeat kbo_bools
    rename Cx _ _ _ _ _ _ => C
    rw [e] at e4
    refine fin C c4 (e4.trans ?_) (Nat.le_trans (cut_length _ _) (by omega))
    rw [en, cut_from, ← en]
  repeat kbo_bools
  refine ifD (fun _ => ?_) (fun _ => ?_)
  · repeat kbo_bools
    rename Cx _ _ _ _ _ _ => C
    refine drop_back_c W C.G (am.mono (by decide)) (chC C) n0 (by omega) fun l' ps' h₃ tk₃ kp hl' c4 e4 => ?_
    replace C := C.mut kp hl' c4
    repeat kbo_bools
    rename Cx _ _ _ _ _ _ => C
    rw [e] at e4
    refine fin C c4 (e4.trans ?_) (Nat.le_trans (cut_length _ _) (by omega))
    rw [show (F.length : Int) - n = ((F.length - n.toNat : Nat) : Int) by omega, cut_upto]
  repeat kbo_bools
  refine ifD (fun _ => ?_) (fun _ => ?_)
  · repeat kbo_bools
    rename Cx _ _ _ _ _ _ => C
    have em : cut M none (some ((F.length : Int) - n)) = M.take (F.length - n.toNat) := by
      rw [show (F.length : Int) - n = ((F.length - n.toNat : Nat) : Int) by omega, cut_upto]
    have lm : (M.take (F.length - n.toNat)).length = min (F.length - n.toNat) M.length := by rw [List.length_take]
    refine put_c W C.G (am.mono (by decide)) (chC C) n0 (by rw [em]; omega) fun l' ps' h₃ tk₃ kp hl' c4 e4 => ?_
    replace C := C.mut kp hl' c4
    have b1 := cut_length (xs := M) none (some ((F.length : Int) - n))
    have b2 := cut_length (xs := F) none (some n)
    have b3 := cut_length (xs := F) (some (n + (cut M none (some ((F.length : Int) - n))).length)) none
    have b4 : (cut F none (some n) ++ cut M none (some ((F.length : Int) - n))).length ≤ F.length + M.length := by rw [List.length_append]; omega
    have hm2 : (cut M none (some ((F.length : Int) - n))).length ≤ 1000000 := by omega
    repeat kbo_bools
    rename Cx _ _ _ _ _ _ => C
    rw [e] at e4
    have eq : spl F n.toNat (cut M none (some ((F.length : Int) - n))) = cut F none (some n) ++ cut M none (some ((F.length : Int) - n)) ++ cut F (some (n + (cut M none (some ((F.length : Int) - n))).length)) none := by
      rw [en, cut_upto, ← Int.natCast_add, cut_from, ← en, spl]
    refine fin C c4 (e4.trans eq) ?_
    rw [← eq, spl_len (by rw [em]; omega)]
    omega
  repeat kbo_bools
  rename Cx _ _ _ _ _ _ => C
  refine make_c (ps := [M, [], M]) C W (am.mono (by decide)) (LR_of (C.get (.head _)) (.cons ⟨_, rfl⟩ (.cons ⟨_, rfl⟩ (.cons ⟨_, rfl⟩ .nil)))) (by simp) (by simp; omega) fun y dy p h₃ tk₃ C kp n1 n2 n3 c₂ => ?_
  repeat kbo_bools
  rename Cx _ _ _ _ _ _ => C
  have D := C.D
  simp only [List.map_cons, List.map_nil, List.nodup_cons, List.mem_cons, not_or, List.not_mem_nil, or_false] at D
  have lm3 : ([M, [], M] : List (List UInt8)).flatten.length = M.length + M.length := by simp
  have lj : ps.flatten.length + (full [M, [], M]).flatten.length ≤ 1000 := by rw [full_flat]; omega
  refine join_c (l := l) (q₁ := p) W C.G (am.mono (by decide)) ⟨c.bx, c.bd, c.bl, C.old hx, C.get (by k_mem), C.get (by k_mem), c.ne, c.sz⟩ ⟨C.nobase (.tail _ (.head _)), C.nobase (.tail _ (.tail _ (.head _))), C.nobase (.head _), C.get (by k_mem), C.get (by k_mem), C.get (by k_mem), c₂.ne, c₂.sz⟩
    (fun q => by obtain ⟨o, z, _⟩ := hx; have := (C.N (y, InO dy) (by k_mem)).2.1; rw [← q] at this; have z' : (hideAll h (List.map (fun x => x.fst) [(dx, DiO l), (l, LB ps), (a, Src)])).get? x = some o := z; rw [this] at z'; cases z') (by grind) lj fun l' q' h₄ tk₄ kp' m1 m2 m3 c5 c6 => ?_
  have A1 := C.fr2 (a := dx) (φ := DiO l) (by k_mem) m1
  have A2 := C.fr2 (a := a) (φ := Src) (by k_mem) m1
  have A3 := C.fr2 (a := y) (φ := InO dy) (by k_mem) m1
  have A4 := C.fr2 (a := dy) (φ := DiO p) (by k_mem) m1
  have B1 := C.fr2 (a := dx) (φ := DiO l) (by k_mem) m2
  have B2 := C.fr2 (a := a) (φ := Src) (by k_mem) m2
  have B3 := C.fr2 (a := y) (φ := InO dy) (by k_mem) m2
  have B4 := C.fr2 (a := dy) (φ := DiO p) (by k_mem) m2
  replace C := C.upd kp' (l' := [(dx, DiO l'), (l', LB (ps ++ full [M, [], M])), (a, Src), (y, InO dy), (dy, DiO q'), (q', LB [])]) (by simp) (by
    intro r hr
    simp only [List.mem_cons, List.not_mem_nil, or_false] at hr
    rcases hr with rfl | rfl | rfl | rfl | rfl | rfl
    · exact .inr (.inl ⟨by simp, c5.id⟩)
    · exact .inr (.inr ⟨m1, c5.il⟩)
    · exact .inl ⟨by k_mem, by simp; grind⟩
    · exact .inl ⟨by k_mem, by simp; grind⟩
    · exact .inr (.inl ⟨by simp, c6.id⟩)
    · exact .inr (.inr ⟨m2, c6.il⟩)) (by simp only [List.map_cons, List.map_nil, List.nodup_cons, List.mem_cons, not_or, List.not_mem_nil, or_false]; grind)
  repeat kbo_bools
  rename Cx _ _ _ _ _ _ => C
  refine empty_c W C.G (am.mono (by decide)) (x := y) (dx := dy) (l := q') (ps := []) ⟨c6.bx, c6.bd, c6.bl, C.get (by k_mem), C.get (by k_mem), C.get (by k_mem), by simp, by simp⟩ fun h₅ tk₅ kp => ?_
  replace C := C.kp kp
  repeat kbo_bools
  refine ifT (by simp) ?_
  have lfm : (F ++ M).length ≤ F.length + M.length := by rw [List.length_append]; omega
  repeat kbo_bools
  rename Cx _ _ _ _ _ _ => C
  refine fin (C.drop (.cons_cons _ (.cons_cons _ (.cons_cons _ (by simp))))) c5 ?_ (by rw [List.length_append]; omega)
  rw [List.flatten_append, full_flat, e]; simp
end
-- F1
--3 the steps of MAC3 too
section
variable {prog : Program} {w : World} {A : Around} {E : Value → Shared → Prop} {base h₀ h : Heap} {g : Array GenState} {d : Drawn} {tk : Nat} {os : OsState}
variable {x dx l L a b y dy q₁ : Addr} {m : Str → Option Value} {f f' : List Fact} {ps qs : List (List UInt8)} {Q : Value → Shared → Prop} {at_ size many : Int} {u u' u'' : Tok} {O F : List UInt8} {vs : List Value} {ns : List Int}

theorem src_ne {a dx l : Addr} (ha : Has h (a, Src)) (id : Has h (dx, DiO l)) : a ≠ dx := by
  obtain ⟨o, e, _, _, _, _, _, vs, ⟨n, rfl⟩, _⟩ := ha
  obtain ⟨o', e', _, _, _, rfl⟩ := id
  exact get_ne e e' (by simp)
theorem src_ne' {a x dx : Addr} (ha : Has h (a, Src)) (ix : Has h (x, InO dx)) : x ≠ a := by
  obtain ⟨o, e, _, _, _, _, _, vs, ⟨n, rfl⟩, _⟩ := ha
  obtain ⟨o', e', rfl⟩ := ix
  exact get_ne e' e (by simp)

theorem split_right_c (W : Wd w base) (G : base.StaysIn h) (am : Amb A 8) (c : Ch base h x dx l ps) (e : ps.flatten = F) (hF : F.length ≤ 900) (ha : Has h (a, Src)) (hb : base.get? a = none) (na : a ≠ l)
    (k : ∀ r y dy p ps' (F' : List UInt8) t h' tk', Kp [dx, l, a] h h' → Has h' (r, LsO [.bool true, .ref y, .bytes F'.toArray t]) → h.get? r = none → (y = x ∨ h.get? y = none) → (dy = dx ∨ h.get? dy = none) → h.get? p = none → r ≠ p →
      Ch base h' y dy p ps' → ps'.flatten = F' → F'.length ≤ 900 → Q (.ref r) ⟨h', g, d, tk', os⟩) :
    wpAny (model prog w) A (call (.ref 322) [.ref a, .ref x, .bytes F.toArray u]) Q E ⟨h, g, d, tk, os⟩ := by
  have ad := src_ne ha c.id
  have ax := src_ne' ha c.ix
  have hx := has_hide (T := [dx, l, a]) c.ix (by simpa using ⟨c.xd, c.xl, ax⟩)
  refine' callN W G [(dx, DiO l), (l, LB ps), (a, Src)] (by simpa using ⟨⟨c.bd, c.id⟩, ⟨c.bl, c.il⟩, hb, ha⟩) (by simpa using ⟨⟨c.dl, Ne.symm ad⟩, Ne.symm na⟩) am ?ho ?hcd ?hbind ?hloc ?_ ?h1 ?h2 ?h3 ?h4
  k_clsL
  intro h₁ L C am
  have hF' : F.length ≤ 1000000 := by omega
  have hFl := congrArg List.length e
  repeat kbo_bools
  rename_i n _ _ _ n0 n1 _ C
  refine split_c W C.G (am.mono (by decide)) ⟨c.bx, c.bd, c.bl, C.old hx, C.get (by k_mem), C.get (by k_mem), c.ne, c.sz⟩ n0 (by omega) fun l' ps' y dy p qs h₂ tk₂ kp m1 c3 e3 n1 n2 n3 np c4 e4 => ?_
  have A1 := C.fr2 (a := dx) (φ := DiO l) (by k_mem) m1
  have A2 := C.fr2 (a := a) (φ := Src) (by k_mem) m1
  have B1 := C.fr2 (a := dx) (φ := DiO l) (by k_mem) n2
  have B2 := C.fr2 (a := a) (φ := Src) (by k_mem) n2
  have D1 := C.fr2 (a := dx) (φ := DiO l) (by k_mem) n3
  have D2 := C.fr2 (a := a) (φ := Src) (by k_mem) n3
  have E1 := C.fr2 (a := dx) (φ := DiO l) (by k_mem) n1
  have E2 := C.fr2 (a := a) (φ := Src) (by k_mem) n1
  have G1 := C.fr2 (a := l) (φ := LB ps) (by k_mem) m1
  have G2 := C.fr2 (a := l) (φ := LB ps) (by k_mem) n1
  have G3 := C.fr2 (a := l) (φ := LB ps) (by k_mem) n2
  have G4 := C.fr2 (a := l) (φ := LB ps) (by k_mem) n3
  have G5 := c.dl
  have back : ∀ b, b ≠ dx → b ≠ l → b ≠ a → (hideAll h [dx, l, a]).get? b = none → h.get? b = none := fun b x1 x2 x3 z => by
    cases q : h.get? b with
    | none => rfl
    | some o => have := hideAll_get (h := h) [dx, l, a] q (by simp; exact ⟨x1, x2, x3⟩); rw [z] at this; cases this
  have yl : y ≠ l' := by obtain ⟨o, z, rfl⟩ := c4.ix; obtain ⟨o', z', _, ⟨_, rfl⟩, _⟩ := c3.il; exact get_ne z z' (by simp)
  have dl' : dy ≠ l' := by obtain ⟨o, z, _, _, _, rfl⟩ := c4.id; obtain ⟨o', z', _, ⟨_, rfl⟩, _⟩ := c3.il; exact get_ne z z' (by simp)
  have yd := c4.xd
  have ypp := c4.xl
  have dp := c4.dl
  have nl : x ≠ l' := c3.xl
  have xy : x ≠ y := fun q => by have hx2 := C.old hx; obtain ⟨o, z, _⟩ := hx2; rw [show (x, InO dx).1 = y from q, n1] at z; cases z
  replace C := C.upd kp (l' := [(dx, DiO l'), (l', LB ps'), (a, Src), (y, InO dy), (dy, DiO p), (p, LB qs), (l, LB ps)]) (by simp) (by
    intro r hr
    simp only [List.mem_cons, List.not_mem_nil, or_false] at hr
    rcases hr with rfl | rfl | rfl | rfl | rfl | rfl | rfl
    · exact .inr (.inl ⟨by simp, c3.id⟩)
    · exact .inr (.inr ⟨m1, c3.il⟩)
    · exact .inl ⟨by k_mem, by simpa using ad⟩
    · exact .inr (.inr ⟨n1, c4.ix⟩)
    · exact .inr (.inr ⟨n2, c4.id⟩)
    · exact .inr (.inr ⟨n3, c4.il⟩)
    · exact .inl ⟨by k_mem, by simpa using Ne.symm c.dl⟩) (by simp only [List.map_cons, List.map_nil, List.nodup_cons, List.mem_cons, not_or, List.not_mem_nil, or_false]; grind)
  have en : n = ((n.toNat : Nat) : Int) := by omega
  have eF : cut F none (some n) = ps'.flatten := by rw [e3, e, en, cut_upto, ← en]
  have eB : cut F (some n) none = qs.flatten := by rw [e4, e, en, cut_from, ← en]
  repeat kbo_bools
  rename Cx _ _ _ _ _ _ => C
  refine is_c (l := l') (ps := ps') W C.G (am.mono (by decide)) ⟨c.bx, c.bd, c3.bl, C.old hx, C.get (by k_mem), C.get (by k_mem), c3.ne, c3.sz⟩ eF.symm fun h₃ tk₃ kp3 => ?_
  replace C := C.kp kp3
  repeat kbo_bools
  rename Cx _ _ _ _ _ _ => C
  refine is_c (l := p) (ps := qs) W C.G (am.mono (by decide)) ⟨c4.bx, c4.bd, c4.bl, C.get (by k_mem), C.get (by k_mem), C.get (by k_mem), c4.ne, c4.sz⟩ eB.symm fun h₃ tk₃ kp3 => ?_
  replace C := C.kp kp3
  repeat kbo_bools
  refine ifD (fun _ => ?_) (fun _ => ?_)
  · repeat kbo_bools
    rename Cx _ _ _ _ _ _ => C
    have D := C.D
    simp only [List.map_cons, List.map_nil, List.nodup_cons, List.mem_cons, not_or, List.not_mem_nil, or_false] at D
    refine k _ y dy p qs _ _ _ _ C.out (C.get (.head _)) (back _ ?_ ?_ ?_ (C.N _ (.head _)).2.1) (.inr (back _ ?_ ?_ ?_ (C.N (y, InO dy) (by k_mem)).2.1)) (.inr (back _ ?_ ?_ ?_ (C.N (dy, DiO p) (by k_mem)).2.1)) (back _ ?_ ?_ ?_ (C.N (p, LB qs) (by k_mem)).2.1) ?_ ⟨c4.bx, c4.bd, c4.bl, C.get (by k_mem), C.get (by k_mem), C.get (by k_mem), c4.ne, c4.sz⟩ eB.symm (Nat.le_trans (cut_length _ _) hF)
    all_goals grind
  · repeat kbo_bools
    rename Cx _ _ _ _ _ _ => C
    have lj : ps'.flatten.length + qs.flatten.length ≤ 1000 := by rw [e3, e4, List.length_take, List.length_drop]; omega
    have ec : ps'.flatten ++ qs.flatten = F := by rw [e3, e4, e, List.take_append_drop]
    have c3' : Ch base _ x dx l' ps' := ⟨c.bx, c.bd, c3.bl, C.old hx, C.get (by k_mem), C.get (by k_mem), c3.ne, c3.sz⟩
    refine join_c (l := l') (q₁ := p) W C.G (am.mono (by decide)) c3' ⟨c4.bx, c4.bd, c4.bl, C.get (by k_mem), C.get (by k_mem), C.get (by k_mem), c4.ne, c4.sz⟩ xy (by grind) lj fun l₂ q' h₄ tk₄ kp' m1 m2 m3 c5 c6 => ?_
    have A1 := C.fr2 (a := dx) (φ := DiO l') (by k_mem) m1
    have A2 := C.fr2 (a := a) (φ := Src) (by k_mem) m1
    have A3 := C.fr2 (a := y) (φ := InO dy) (by k_mem) m1
    have A4 := C.fr2 (a := dy) (φ := DiO p) (by k_mem) m1
    have A5 := C.fr2 (a := l) (φ := LB ps) (by k_mem) m1
    have B1 := C.fr2 (a := dx) (φ := DiO l') (by k_mem) m2
    have B2 := C.fr2 (a := a) (φ := Src) (by k_mem) m2
    have B3 := C.fr2 (a := y) (φ := InO dy) (by k_mem) m2
    have B4 := C.fr2 (a := dy) (φ := DiO p) (by k_mem) m2
    have B5 := C.fr2 (a := l) (φ := LB ps) (by k_mem) m2
    have D := C.D
    simp only [List.map_cons, List.map_nil, List.nodup_cons, List.mem_cons, not_or, List.not_mem_nil, or_false] at D
    replace C := C.upd kp' (l' := [(dx, DiO l₂), (l₂, LB (ps' ++ qs)), (a, Src), (y, InO dy), (dy, DiO q'), (q', LB []), (l, LB ps)]) (by simp) (by
      intro r hr
      simp only [List.mem_cons, List.not_mem_nil, or_false] at hr
      rcases hr with rfl | rfl | rfl | rfl | rfl | rfl | rfl
      · exact .inr (.inl ⟨by simp, c5.id⟩)
      · exact .inr (.inr ⟨m1, c5.il⟩)
      · exact .inl ⟨by k_mem, by simp; grind⟩
      · exact .inl ⟨by k_mem, by simp; grind⟩
      · exact .inr (.inl ⟨by simp, c6.id⟩)
      · exact .inr (.inr ⟨m2, c6.il⟩)
      · exact .inl ⟨by k_mem, by simp; grind⟩) (by simp only [List.map_cons, List.map_nil, List.nodup_cons, List.mem_cons, not_or, List.not_mem_nil, or_false]; grind)
    repeat kbo_bools
    rename Cx _ _ _ _ _ _ => C
    refine is_c (l := q') (ps := []) (F := []) W C.G (am.mono (by decide)) ⟨c6.bx, c6.bd, c6.bl, C.get (by k_mem), C.get (by k_mem), C.get (by k_mem), by simp, by simp⟩ rfl fun h₅ tk₅ kp3 => ?_
    replace C := C.kp kp3
    repeat kbo_bools
    rename Cx _ _ _ _ _ _ => C
    have D := C.D
    simp only [List.map_cons, List.map_nil, List.nodup_cons, List.mem_cons, not_or, List.not_mem_nil, or_false] at D
    refine k _ x dx l₂ (ps' ++ qs) F _ _ _ C.out (C.get (.head _)) (back _ ?_ ?_ ?_ (C.N _ (.head _)).2.1) (.inl rfl) (.inl rfl) (back _ ?_ ?_ ?_ (C.N (l₂, LB (ps' ++ qs)) (by k_mem)).2.1) ?_ ⟨c5.bx, c5.bd, c5.bl, C.old hx, C.get (by k_mem), C.get (by k_mem), c5.ne, c5.sz⟩ (by rw [List.flatten_append]; exact ec) hF
    all_goals grind
end
-- F2
def is44 (K : Frag) : Bool := match K.lookup 44 with
  | some ⟨.type "type", _, .cls cd, sl⟩ => (match sl.toList with
    | [_, _, _, _, some (.builtin n), _] => n == "Exception.__new__" && !cd.hasDel && cd.mro == [.ref 44, .ref 31, .type "Exception", .type "BaseException", .type "object"]
    | _ => false)
  | _ => false
theorem is44_k (w : World) : is44 (hd.heap_39 w.params) = true := by kernel_rfl
abbrev bm44 : List Value := [.ref 31, .type "Exception", .type "BaseException", .type "object"]
theorem cls44 (w : World) : ∃ nm q N bs hdct sn sub ab col dd k0 k1 k2 k3 k5, (hd.heap_39 w.params).lookup 44 = some (excClassObj nm q 44 N bs bm44 hdct sn sub ab col dd k0 k1 k2 k3 k5 "Exception.__new__") := by
  have q := is44_k w
  unfold is44 at q
  split at q
  · rename_i dd cd sl ho
    split at q
    · rename_i k0 k1 k2 k3 n k5 hs
      simp only [Bool.and_eq_true, beq_iff_eq, Bool.not_eq_true'] at q
      obtain ⟨⟨rfl, hdel⟩, hm⟩ := q
      obtain ⟨nm, bs, mro, ns, qn, hd', sn, sub, ab, col, del⟩ := cd
      dsimp only at hm hdel
      subst hm hdel
      have hsl : sl = #[k0, k1, k2, k3, some (.builtin "Exception.__new__"), k5] := by
        obtain ⟨l⟩ := sl
        simp only at hs
        rw [hs]
      subst hsl
      exact ⟨nm, qn, ns, bs, hd', sn, sub, ab, col, dd, k0, k1, k2, k3, k5, ho⟩
    · cases q
  · cases q
theorem e_init (w : World) : findIn (hd.heap_39 w.params) (.ref 44) "__init__" = some (some (.ref 28)) := by k_is
theorem e_sa (w : World) : findIn (hd.heap_39 w.params) (.ref 44) "__setattr__" = some (some (.builtin "object.__setattr__")) := by k_is
theorem e_msg (w : World) : findIn (hd.heap_39 w.params) (.ref 44) "message" = some none := by k_is
theorem e_hd (w : World) : hasDictIn (hd.heap_39 w.params) 44 = true := by k_is
theorem e_fn (w : World) : typeIn (hd.heap_39 w.params) (.ref 28) = some (.type "function") := by k_is

section
open Builtin Builtin.ObjectAttr
variable {prog : Program} {w : World} {A : Around} {E : Value → Shared → Prop} {h : Heap} {g : Array GenState} {d : Drawn} {tk : Nat} {os : OsState}
/-- an exception's own name, bound the first time -/
theorem exc_store {e : Addr} {vs : Array Value} {v : Value} {Q : Unit → Shared → Prop} (W : Wd w h) (he : h.get? e = some { cls := .ref 44, data := .fields vs })
    (q : ∀ h' tk' dx, Kp [e] h h' → h'.get? e = some { cls := .ref 44, dict := some dx, data := .fields vs } → Q () ⟨h', g, d, tk', os⟩) :
    wpAny (model prog w) A (setAttr (.ref e) "message" v) Q E ⟨h, g, d, tk, os⟩ := by
  have X := W.X
  have I : InstAt h e { cls := .ref 44, data := .fields vs } 44 none := ⟨he, rfl, rfl, trivial⟩
  refine set_plain (s := ⟨h, g, d, tk, os⟩) X I (e_sa w) ?_
  obtain ⟨nm, qn, N, bs, hdct, sn, sub, ab, col, dd, k0, k1, k2, k3, k5, hC⟩ := cls44 w
  have hC' := X _ _ hC
  have SF := PySem.F.store_Exception
  have sub : Looks (model prog w) h (isInstance (.ref e) (.type "object")) true := I.type.andThen (looks_mroIn X (by
    unfold mroIn clsIn; rw [hC]; rfl))
  refine codeAny_call_builtin SF.slot.plain SF.entry (@check_slot (model prog w) _ _ ⟨h, g, d, tk + 1, os⟩ "object.__setattr__" "object" "__setattr__" (.ref e) [.str "message" tk, v] [] _ SF.kind SF.split sub (SF.args (.ref e) (.str "message" tk) v) ?_)
  have hm : Looks (model prog w) h (mroOf (.ref 44)) (.ref 44 :: bm44) := (looks_clsIn X (by unfold clsIn; rw [hC])).andThen .now
  rw [osa_eq, refuse_eq]
  refine wpAny_bind (wpAny_bind (I.type.here (wpAny_bind (hm.here ?_))))
  rw [refuseLoop_ref, refuseLoop_ref, SF.passes]
  refine wpAny_pure (wpAny_bind (I.type.here (wpAny_bind ((looks_findIn X (e_msg w)).here (wpAny_bind (wpAny_pure ?_))))))
  obtain ⟨cd, hc, hdd⟩ := any_some (e_hd w)
  refine wpAny_bind (wpAny_pure (wpAny_bind (wpAny_bind (wpAny_loadPart he (wpAny_bind ((looks_clsIn X hc).here ?_))))))
  rw [hdd]
  have he₁ : (h.push { cls := .type "dict", data := .dict #[] }).get? e = some { cls := .ref 44, data := .fields vs } := Heap.get?_push_of_some _ he
  have hxs : e ≠ h.objs.size := Nat.ne_of_lt (Heap.lt_size he)
  refine wpAny_bind (wpAny_alloc' ?_)
  refine wpAny_bind (wpAny_update' he₁ ?_)
  refine wpAny_pure ?_
  have hgd : ((h.push { cls := .type "dict", data := .dict #[] }).update e fun o => { cls := o.cls, dict := some h.objs.size, data := o.data, slots := o.slots }).get? h.objs.size
      = some { cls := .type "dict", data := .dict #[] } :=
    (Heap.get?_update_ne _ _ _ _ hxs.symm).trans (Heap.get?_push_at rfl rfl)
  have hnd : ((h.push { cls := .type "dict", data := .dict #[] }).update e fun o => { cls := o.cls, dict := some h.objs.size, data := o.data, slots := o.slots }).Ns h.objs.size (fun _ => none) :=
    ⟨_, #[], _, hgd, rfl, fun e he => absurd he (by simp), fun _ => rfl⟩
  show wpAny _ _ (storeInDict h.objs.size (.str "message" tk) "message" v) _ _ _
  unfold storeInDict newKeyGuard
  refine wpAny_bind (wpAny_pure (wpAny_bind (wpAny_nsSet1 (Heap.Ns1.of_empty hnd) fun h' hn' hs => ?_)))
  obtain ⟨oD, esD, epD, hoD, hdD, hcD⟩ := hn'.count (Within.cons "message" v Within.nil)
  refine wpAny_bind (wpAny_lookBehind hoD (by rw [hdD]; exact pastItsLine_dict (Nat.le_trans hcD (by rw [List.length_cons, List.length_nil, sizeLine_eq]; omega))) ?_)
  refine wpAny_pure ?_
  refine q h' _ h.objs.size (fun b ob hbx hb => ?_) ?_
  · exact (hs.2 b (Nat.ne_of_lt (Heap.lt_size hb))).trans ((Heap.get?_update_ne _ _ _ _ (by simpa using hbx)).trans (Heap.get?_push_of_some _ hb))
  · exact (hs.2 e hxs).trans (Heap.get?_update_self _ he₁ rfl)
end
-- F3
open Builtin in
section
variable {prog : Program} {w : World} {A : Around} {E : Value → Shared → Prop} {h : Heap} {g : Array GenState} {d : Drawn} {t : Nat} {os : OsState}
variable {nm q : Str} {N : Addr} {bs : List Value} {hdct : Bool} {sn : List Str} {sub : List Value} {ab : Bool} {col : Option Bool} {dd : Option Addr} {k0 k1 k2 k3 k5 : Option Value}
theorem c44 {T : String} (h : bm44.contains (.type T) = b) : (Value.ref 44 :: bm44).contains (.type T) = b := by rw [List.contains_cons, h]; rfl
theorem check44 {M : Model} {rest : List Value} {Q : Unit → Shared → Prop} (hC : h.get? 44 = some (excClassObj nm q 44 N bs bm44 hdct sn sub ab col dd k0 k1 k2 k3 k5 "Exception.__new__"))
    (hq : Q () ⟨h, g, d, t, os⟩) : wpAny M A (checkBuiltinCall "Exception.__new__" ⟨.ref 44 :: rest, []⟩) Q E ⟨h, g, d, t, os⟩ := by
  have F := PySem.F.excBase_Exception
  have hcont : (Value.ref 44 :: bm44).contains (.type "Exception") = true := c44 (by decide +kernel)
  have hstar := F.noStar
  simp only [checkBuiltinCall, F.newKind, F.newSplit, F.newRow]
  repeat (first | refine wpAny_loadPart_at hC ?_ | (refine wpAny_isSubtype_exc hC ?_; rw [hcont]) | refine wpAny_staticBase_exc hC ?_ | refine wpAny_madeBy_exc hC ?_ | simp only [bne_self_eq_false, Bool.false_eq_true, if_false] | wp_step)
  exact hq
theorem new44 {rest : List Value} {R : Result → Shared → Prop} (hC : h.get? 44 = some (excClassObj nm q 44 N bs bm44 hdct sn sub ab col dd k0 k1 k2 k3 k5 "Exception.__new__"))
    (hq : R (.ok (.ret (.ref (h.objs.size + 1)))) ⟨(h.push { cls := .type "tuple", data := .seq rest.toArray }).push
      { cls := .ref 44, data := .fields #[.ref h.objs.size, .none, .none, .none, .bool false, .none] }, g, d, t, os⟩) (hrest : rest.length ≤ sizeLine) :
    codeAny (model prog w) A (.builtin "Exception.__new__" ⟨.ref 44 :: rest, []⟩) R ⟨h, g, d, t, os⟩ := by
  have F := PySem.F.excBase_Exception
  have hends := F.ends
  have hcB : (Value.ref 44 :: bm44).contains (.type "Exception") = true := c44 (by decide +kernel)
  have hcA : (Value.ref 44 :: bm44).contains (.type "AttributeError") = false := c44 (by decide +kernel)
  have hcN : (Value.ref 44 :: bm44).contains (.type "NameError") = false := c44 (by decide +kernel)
  refine codeAny_builtinAt F.entry ?_
  unfold Builtin.«BaseException.__new__»
  refine PySem.wpAt_bind ?_
  show PySem.wpAt _ _ _ (stack >>= _) _ _ _
  refine PySem.wpAt_bind (PySem.wpAt_stack fun p below => PySem.wpAt_of_wpAny ?_)
  wp_walk
  refine PySem.wpAt_of_wpAny ?_
  rw [F.owner]
  repeat (first | with_reducible refine wpAny_madeHere_exc F.canon hC ?_ | with_reducible refine wpAny_loadPart_at hC ?_ | (with_reducible refine wpAny_isSubtype_exc hC ?_; first | rw [hcB] | rw [hcA] | rw [hcN]) | wp_step)
  show R _ _
  rw [Heap.size_push]
  exact hq
theorem init44 {rest : List Value} {Q : PySem.Fin → Shared → Prop} (W : Wd w h)
    (hC : h.get? 44 = some (excClassObj nm q 44 N bs bm44 hdct sn sub ab col dd k0 k1 k2 k3 k5 "Exception.__new__"))
    (hq : ∀ h' e, Heap.MadeExcOf h h' e (.ref 44) rest →
      wpAny (model prog w) A (call (.ref 28) (.ref e :: rest)) (fun r s' => r = .none ∧ Q (.done (.ret (.ref e))) s') E ⟨h', g, d, t, os⟩) (hrest : rest.length ≤ sizeLine) :
    wpAny (model prog w) A (Builtin.«type.__call__» ⟨.ref 44 :: rest, []⟩) Q E ⟨h, g, d, t, os⟩ := by
  have F := PySem.F.excBase_Exception
  repeat (first | with_reducible refine wpAny_loadPart_at hC ?_ | with_reducible refine wpAny_madeBy_exc hC ?_ | wp_step)
  refine codeAny_call_builtin_code (Code.quiet_builtin _ F.quiet) (check44 hC ?_)
  refine new44 hC ?_ hrest
  show wpAny _ _ _ _ _ _
  have kp : ∀ b o, h.get? b = some o → ((h.push { cls := .type "tuple", data := .seq rest.toArray }).push { cls := .ref 44, data := .fields #[.ref h.objs.size, .none, .none, .none, .bool false, .none] }).get? b = some o := fun b o hb => Heap.get?_push_of_some _ (Heap.get?_push_of_some _ hb)
  have hC₁ := kp _ _ hC
  have X₁ := W.X.keeps kp
  have hget : ((h.push { cls := .type "tuple", data := .seq rest.toArray }).push
      { cls := .ref 44, data := .fields #[.ref h.objs.size, .none, .none, .none, .bool false, .none] }).get? (h.objs.size + 1) = some
      { cls := .ref 44, data := .fields #[.ref h.objs.size, .none, .none, .none, .bool false, .none] } := by heap_get
  have hcC : (Value.ref 44 :: bm44).contains (.ref 44) = true := by simp
  unfold isInstance
  repeat (first | with_reducible refine wpAny_loadPart_at hget ?_ | (with_reducible refine wpAny_isSubtype_exc hC₁ ?_; rw [hcC]) | wp_step)
  show wpAny _ _ (typeLookup (.ref 44) _) _ _ _
  refine (looks_findIn X₁ (e_init w)).here ?_
  refine wpAny_holding (wpAny_bind ((bind_fn X₁ _ (e_fn w)).here ?_))
  refine (wpAny_bind (wpAny_mono (hq _ (h.objs.size + 1) ⟨kp, Heap.get?_none_of_le (Nat.le_succ _), h.objs.size, hget, Heap.get?_none_of_le (Nat.le_refl _), ?_⟩) (fun r s' hr => ?_) fun _ _ x => x))
  · exact Heap.get?_push_of_some _ (Heap.get?_push_at rfl rfl)
  · obtain ⟨rfl, hQ⟩ := hr
    wp_walk
    exact hQ
theorem call44 {rest : List Value} {Q : Value → Shared → Prop} (W : Wd w h) (hrest : rest.length ≤ sizeLine)
    (hq : ∀ h' e, Heap.MadeExcOf h h' e (.ref 44) rest →
      wpAny (model prog w) (A.under (.builtin "type.__call__" ⟨.ref 44 :: rest, []⟩)) (call (.ref 28) (.ref e :: rest)) (fun r s' => r = .none ∧ Q (.ref e) s') E ⟨h', g, d, t, os⟩) :
    wpAny (model prog w) A (call (.ref 44) rest) Q E ⟨h, g, d, t, os⟩ := by
  obtain ⟨nm, qn, N, bs, hdct, sn, sub, ab, col, dd, k0, k1, k2, k3, k5, hK⟩ := cls44 w
  have hC := W.X _ _ hK
  have f1 := tc_lookup
  have f2 := tc_bind (.ref 44)
  have hT : (⟨h, g, d, t, os⟩ : Shared).TypeIs (.ref 44) "type" := ⟨_, hC, rfl⟩
  refine wpAny_call (codeAny_of_tree ?_)
  show wpAny _ _ (callAny (.ref 44) _) _ _ _
  repeat (any_goals (first | assumption | with_reducible refine wpAny_loadPart_at hC ?_ | wp_step))
  refine ⟨rfl, ?_⟩
  refine codeAny_call_builtin_at (Code.quiet_builtin _ (by decide +kernel)) entry_typeCall (wpAny_check_type_call_sub hC (init44 W hC (fun h' e hm => ?_) hrest))
  exact hq h' e hm
end
-- F4
def frs (l : List Env) : List Addr := l.filterMap (·.frame)
abbrev excVs (t : Addr) : Array Value := #[.ref t, .none, .none, .none, .bool false, .none]
section
variable {prog : Program} {w : World} {A : Around} {E : Value → Shared → Prop} {base h₀ h : Heap} {g : Array GenState} {d : Drawn} {tk : Nat} {os : OsState}
variable {x dx l L a b y dy q₁ : Addr} {m : Str → Option Value} {f f' : List Fact} {ps qs : List (List UInt8)} {Q : Value → Shared → Prop} {at_ size many : Int} {u u' u'' : Tok} {O F : List UInt8} {vs : List Value} {ns : List Int}

/-- StackError's own beginning -/
theorem init28_c {e : Addr} {v : Value} {ws : Array Value} (W : Wd w base) (G : base.StaysIn h) (am : Amb A 2) (be : base.get? e = none) (he : h.get? e = some { cls := .ref 44, data := .fields ws })
    (k : ∀ h' tk' dx, Kp [e] h h' → h'.get? e = some { cls := .ref 44, dict := some dx, data := .fields ws } → Q .none ⟨h', g, d, tk', os⟩) :
    wpAny (model prog w) A (call (.ref 28) [.ref e, v]) Q E ⟨h, g, d, tk, os⟩ := by
  refine' callN W G [(e, fun o => o = { cls := .ref 44, data := .fields ws })] (by simpa using ⟨be, _, he, rfl⟩) (by simp) am ?ho ?hcd ?hbind ?hloc ?_ ?h1 ?h2 ?h3 ?h4
  k_clsL
  intro h₁ L C am
  repeat kbo_bools
  rename Cx _ _ _ _ _ _ => C
  have he1 : h₁.get? e = some { cls := .ref 44, data := .fields ws } := by
    obtain ⟨o, z, rfl⟩ := C.get (.head _); exact z
  refine exc_store (C.W W) he1 fun h' tk' dx kp he' => ?_
  repeat kbo_bools
  have C' := C.at (ψ := fun o => o = { cls := .ref 44, dict := some dx, data := .fields ws }) .head kp ⟨_, he', rfl⟩
  exact k _ _ dx C'.out he'

/-- an exception made, in no frame's trace as yet -/
def NewE (h : Heap) (g : Array GenState) (d : Drawn) (os : OsState) (v : Value) (s' : Shared) : Prop :=
  ∃ e h' tk' dx t, v = .ref e ∧ s' = ⟨h', g, d, tk', os⟩ ∧ Kp [] h h' ∧ h.get? e = none ∧ h'.get? e = some { cls := .ref 44, dict := some dx, data := .fields (excVs t) }
theorem size_error {v : Value} (W : Wd w base) (G : base.StaysIn h) (am : Amb A 3)
    (k : ∀ e s', NewE h g d os (.ref e) s' → Q (.ref e) s') : wpAny (model prog w) A (call (.ref 44) [v]) Q E ⟨h, g, d, tk, os⟩ := by
  refine call44 (W.keeps G) (by simp [sizeLine_eq]) fun h' e hm => ?_
  obtain ⟨t, he, _, _⟩ := hm.there
  have be : base.get? e = none := by
    cases q : base.get? e with
    | none => rfl
    | some o => have := G e o q; rw [hm.new] at this; cases this
  refine init28_c W (fun b o z => hm.keeps b o (G b o z)) (amb_under am _ _) be he fun h'' tk' dx kp he' => ⟨rfl, k e _ ⟨e, h'', tk', dx, t, rfl, rfl, fun b o _ z => kp b o ?_ (hm.keeps b o z), hm.new, he'⟩⟩
  intro q
  rw [List.mem_singleton.mp q, hm.new] at z; cases z

theorem raise_stmt {env : Env} {exc : PySem.Expr} {pos : Pos} {Q : Flow → Shared → Prop} {s : Shared} (hh : A.handled = none)
    (h : wpAny (model prog w) A (eval exc env) (fun v s₁ => ∃ e dx t, v = .ref e ∧ Wd w s₁.heap ∧ s₁.heap.get? e = some { cls := .ref 44, dict := some dx, data := .fields (excVs t) } ∧ E (.ref e) s₁) E s) :
    wpAny (model prog w) A (exec (.Raise (some exc) none pos) env) Q E s := by
  have hcB : (Value.ref 44 :: bm44).contains (.type "BaseException") = true := c44 (by decide +kernel)
  rw [arm_exec_Raise]
  refine wpAny_bind (wpAny_standAt ?_)
  show wpAny _ _ (raiseStmt env (some _) none) _ _ _
  unfold raiseStmt
  refine wpAny_bind (wpAny_bind (wpAny_mono h (fun v s₁ h₁ => wpAny_bind (wpAny_standAt (wpAny_pure ?_))) fun _ _ x => x))
  obtain ⟨e, dx, t, rfl, W, he, hE⟩ := h₁
  obtain ⟨nm, qn, N, bs, hdct, sn, sub, ab, col, dd, k0, k1, k2, k3, k5, hK⟩ := cls44 w
  have hC := W.X _ _ hK
  obtain ⟨hp, g, d, tk, os⟩ := s₁
  repeat (first | with_reducible refine wpAny_loadPart_at he ?_ | with_reducible refine wpAny_loadPart_at hC ?_ | (with_reducible refine wpAny_isSubtype_exc hC ?_; rw [hcB]) | wp_step)
  exact wpAny_raiseNew_none hh hE
end
-- F5
/-- a SizeError that flies past the frames l -/
def Fly (h : Heap) (g : Array GenState) (d : Drawn) (os : OsState) (l : List Env) (v : Value) (s' : Shared) : Prop :=
  ∃ e h' tk' a0, v = .ref e ∧ s' = ⟨h', g, d, tk', os⟩ ∧ Heap.FlyingW (hideAll h (frs l)) l e (.ref 44) a0 h' ∧ h.UpToSlots h'
/-- how a def is left by a SizeError -/
def Out (base h : Heap) (g : Array GenState) (d : Drawn) (os : OsState) (L : Addr) (l : List Env) (v : Value) (s' : Shared) : Prop :=
  ∃ h₂ m f, Cx base (hideAll h []) L h₂ m f ∧ (Fly h₂ g d os l v s' ∨ NewE h₂ g d os v s')
section
variable {prog : Program} {w : World} {A : Around} {E : Value → Shared → Prop} {base h₀ h : Heap} {g : Array GenState} {d : Drawn} {tk : Nat} {os : OsState}
variable {x dx L a b y dy q₁ : Addr} {m : Str → Option Value} {f f' : List Fact} {ps qs : List (List UInt8)} {Q : Value → Shared → Prop} {at_ size many : Int} {u u' u'' : Tok} {O F : List UInt8} {vs : List Value} {ns : List Int} {l : List Env}

theorem fly_base {env : Env} {h₂ : Heap} (hf : env.frame = some L) (C : Cx base (hideAll h []) L h₂ m f) : (hideAll h (frs l)).StaysIn (hideAll h₂ (frs (env :: l))) := fun b o e => by
  have e1 := of_hideAll _ e
  have nb : b ∉ frs l := fun q => by rw [hideAll_none _ q] at e; cases e
  have ab : h.objs.size ≤ L := C.F.above
  refine hideAll_get _ (C.F.keep b o e1) fun q => ?_
  unfold frs at q nb
  rw [List.filterMap_cons, hf] at q
  rcases List.mem_cons.mp q with q | q
  · subst q; exact Nat.lt_irrefl _ (Nat.lt_of_lt_of_le (Heap.lt_size e1) ab)
  · exact nb q
theorem frames_cx {env : Env} {h₂ : Heap} (hk : env.scope.kind ≠ .module) (hf : env.frame = some L) (G : base.StaysIn h) (FF : h.FunFrames base l) (C : Cx base (hideAll h []) L h₂ m f) : h₂.FunFrames base (env :: l) := by
  have ab : h.objs.size ≤ L := C.F.above
  refine Heap.FunFrames.cons hk hf C.F.ns ?_ (FF.of_keeps fun b o e _ => ⟨o, C.F.keep b o e, rfl⟩)
  cases q : base.get? L with
  | none => rfl
  | some o => exact absurd (Heap.lt_size (G _ _ q)) (Nat.not_lt.mpr ab)
theorem hide_frames {l : List Env} (FF : h.FunFrames base l) : h.FunFrames (hideAll h (frs l)) l :=
  funFrames_hide FF fun env he a ha => List.mem_filterMap.mpr ⟨env, he, ha⟩

theorem leave_out {env : Env} {v : Value} {s' : Shared} {R : Result → Shared → Prop} (hk : env.scope.kind ≠ .module) (hf : env.frame = some L) (hfr : A.frames = some l) (G : base.StaysIn h) (FF : h.FunFrames base l)
    (o : Out base h g d os L (env :: l) v s') (k : ∀ v s'', Fly h g d os l v s'' → R (.error v) s'') :
    wpAny (model prog w) (A.deeper env) (leaving env v) (fun _ s'' => R (.error v) s'') (fun e' s'' => R (.error e') s'') s' := by
  obtain ⟨h₂, m, f, C, fl⟩ := o
  have up : h.UpToSlots h₂ := .of_keeps fun b o e => C.F.keep b o e
  have fb := fly_base (l := l) hf C
  have FF2 := frames_cx hk hf G FF C
  rcases fl with ⟨e, h', tk', a0, rfl, rfl, fly, up2⟩ | ⟨e, h', tk', dx, t, rfl, rfl, kp, ne, he⟩
  · exact wpAny_leaves_onW (Around.frames_deeper hfr) hf (flyingW_base fb fly) fun h'' f2 up3 => k _ _ ⟨e, h'', _, a0, rfl, rfl, f2, (up.trans up2).trans up3⟩
  · have FF3 : h'.FunFrames (hideAll h₂ (frs (env :: l))) (env :: l) := (hide_frames FF2).of_keeps fun b o e _ => ⟨o, kp b o (by simp) e, rfl⟩
    have FF4 := funFrames_base fb FF3
    have he0 : (hideAll h (frs l)).get? e = none := by
      cases q : (hideAll h (frs l)).get? e with
      | none => rfl
      | some o => have := C.F.keep e o (of_hideAll _ q); rw [ne] at this; cases this
    refine wpAny_leaving_firstW (a0 := .ref t) (Around.frames_deeper hfr) FF4 hf he (fun b o z => kp b o (by simp) (C.F.keep b o (of_hideAll _ z))) he0 rfl rfl rfl fun h'' lw => ?_
    obtain ⟨s1, s2, s3, s4⟩ := lw
    obtain ⟨_, _, s2⟩ := s2
    exact k _ _ ⟨e, h'', tk', .ref t, rfl, rfl, ⟨s1, he0, s2, s3⟩, (up.trans (.of_keeps fun b o z => kp b o (by simp) z)).trans s4⟩

/-- a call of a def that raises -/
theorem callR {name qual : Str} {params : Arguments} {body : List Stmt} {scope : Scope} {dV kV doc pm cdv ct oc : Value} {an od : Option Addr} {osl : Array (Option Value)} {fa : Addr} {args : List Value} {binds : List (Str × Value)}
    (W : Wd w base) (G : base.StaysIn h) (hfr : A.frames = some l) (FF : h.FunFrames base l) {n : Nat} (am : Amb A (n + 1))
    (ho : (hd.heap_39 w.params).lookup fa = some ⟨oc, od, .func (fnOf name qual params body scope dV kV doc pm an cdv ct), osl⟩) (hcd : codeIn (hd.heap_39 w.params) cdv qual = true)
    (hbind : BindsTo ⟨h, g, d, tk, os⟩ (fnOf name qual params body scope dV kV doc pm an cdv ct) ⟨args, []⟩ binds) (hloc : ∀ y ∈ binds, scope.names.lookup y.1 = some .local)
    (k : ∀ h₁ L, Cx base (hideAll h []) L h₁ (fun y => binds.reverse.lookup y) [] → Amb (A.deeper (envX qual scope L fa cdv [])) n → (A.deeper (envX qual scope L fa cdv [])).frames = some (envX qual scope L fa cdv [] :: l) →
      (∀ h₂ m f, Cx base (hideAll h []) L h₂ m f → h₂.FunFrames base (envX qual scope L fa cdv [] :: l)) →
      wpAny (model prog w) (A.deeper (envX qual scope L fa cdv [])) (execs body (envX qual scope L fa cdv []))
        (fun _ _ => False) (fun v s' => Out base h g d os L (envX qual scope L fa cdv [] :: l) v s') ⟨h₁, g, d, tk + binds.length, os⟩)
    (kE : ∀ v s', Fly h g d os l v s' → E v s')
    (hco : scope.isCoroutine = false) (hgen : scope.isGenerator = false) (hk : scope.kind = .function)
    (hcell : ∀ x ∈ scope.names, x.2 ≠ .cell) : wpAny (model prog w) A (call (.ref fa) args) Q E ⟨h, g, d, tk, os⟩ := by
  have hnm : ∀ L, (envX qual scope L fa cdv []).scope.kind ≠ .module := fun L => by show scope.kind ≠ _; rw [hk]; decide
  refine wpAny_call (enter W G [] (by simp) (by simp) (by have := am.d; omega) ho hcd hbind hloc (fun h₁ L C => ?_) hco hgen hk hcell)
  refine wpAny_mono (k h₁ L C (am.deeper _) (Around.frames_deeper hfr) fun h₂ m f C => frames_cx (hnm L) rfl G FF C) (fun _ _ x => x.elim) fun v s' o => ?_
  exact leave_out (R := fun r s' => match r with | .ok (.ret v) => Q v s' | .ok _ => False | .error e => E e s') (hnm L) rfl hfr G FF o fun v s'' fl => kE v s'' fl
end
-- F6
section
--3 the steps of MAC3 too
local macro_rules | `(tactic| kbo_bools) => `(tactic| (with_reducible refine PySem.wpAny_Constant_str ?_))
section
variable {prog : Program} {w : World} {A : Around} {E : Value → Shared → Prop} {base h₀ h : Heap} {g : Array GenState} {d : Drawn} {tk : Nat} {os : OsState}
variable {x dx l L a b y dy q₁ : Addr} {m : Str → Option Value} {f f' : List Fact} {ps qs : List (List UInt8)} {Q : Value → Shared → Prop} {at_ size many : Int} {u u' u'' : Tok} {O F : List UInt8} {vs : List Value} {ns : List Int} {ls : List Env}

theorem out_new {h₂ : Heap} {e : Addr} {s' : Shared} (C : Cx base (hideAll h []) L h₂ m f) (W : Wd w base) (ne : NewE h₂ g d os (.ref e) s') :
    ∃ e' dx t, Value.ref e = .ref e' ∧ Wd w s'.heap ∧ s'.heap.get? e' = some { cls := .ref 44, dict := some dx, data := .fields (excVs t) } ∧ Out base h g d os L ls (.ref e') s' := by
  obtain ⟨e1, h', tk', dx, t, q, rfl, kp, hn, he⟩ := ne
  cases q
  exact ⟨e, dx, t, rfl, W.keeps (fun b o z => kp b o (by simp) (C.G b o z)), he, h₂, m, f, C, .inr ⟨e, h', tk', dx, t, rfl, rfl, kp, hn, he⟩⟩

theorem check_r (W : Wd w base) (G : base.StaysIn h) (hfr : A.frames = some ls) (FF : h.FunFrames base ls) (am : Amb A 5) (c : Ch base h x dx l ps) (bad : ¬(0 ≤ at_ ∧ 0 ≤ size ∧ at_ + size ≤ ps.flatten.length))
    (kE : ∀ v s', Fly h g d os ls v s' → E v s') :
    wpAny (model prog w) A (call (.ref 105) [.ref x, .int at_ u, .int size u']) Q E ⟨h, g, d, tk, os⟩ := by
  have hx := c.ix
  have hd' := c.id
  refine' callR W G hfr FF am ?ho ?hcd ?hbind ?hloc ?_ kE ?h1 ?h2 ?h3 ?h4
  k_clsL
  intro h₁ L C am hfr' FF'
  repeat kbo_bools
  refine ifD (fun c1 => ?_) (fun c1 => ?_)
  · repeat kbo_bools
    refine raise_stmt am.hh ?_
    repeat kbo_bools
    rename Cx _ _ _ _ _ _ => C
    exact size_error W C.G (am.mono (by decide)) fun e s' ne => out_new C W ne
  repeat kbo_bools
  refine ifD (fun c2 => ?_) (fun c2 => ?_)
  · repeat kbo_bools
    refine raise_stmt am.hh ?_
    repeat kbo_bools
    rename Cx _ _ _ _ _ _ => C
    exact size_error W C.G (am.mono (by decide)) fun e s' ne => out_new C W ne
  · repeat kbo_bools
    refine raise_stmt am.hh ?_
    repeat kbo_bools
    rename Cx _ _ _ _ _ _ => C
    exact size_error W C.G (am.mono (by decide)) fun e s' ne => out_new C W ne

theorem octet_r (W : Wd w base) (G : base.StaysIn h) (hfr : A.frames = some ls) (FF : h.FunFrames base ls) (am : Amb A 6) (c : Ch base h x dx l ps) (bad : ¬(0 ≤ at_ ∧ at_ + 1 ≤ ps.flatten.length))
    (kE : ∀ v s', Fly h g d os ls v s' → E v s') :
    wpAny (model prog w) A (call (.ref 119) [.ref x, .int at_ u]) Q E ⟨h, g, d, tk, os⟩ := by
  have hx := c.ix
  have hd' := c.id
  refine' callR W G hfr FF am ?ho ?hcd ?hbind ?hloc ?_ kE ?h1 ?h2 ?h3 ?h4
  k_clsL
  intro h₁ L C am hfr' FF'
  repeat kbo_bools
  rename Cx _ _ _ _ _ _ => C
  refine check_r W C.G hfr' (FF' _ _ _ C) (am.mono (by decide)) (Ch.old C c) (by omega) fun v s' fl => ⟨_, _, _, C, .inl fl⟩

theorem pieces_r (W : Wd w base) (G : base.StaysIn h) (hfr : A.frames = some ls) (FF : h.FunFrames base ls) (am : Amb A 6) (c : Ch base h x dx l ps) (bad : ¬(0 ≤ at_ ∧ 0 ≤ size ∧ at_ + size ≤ ps.flatten.length))
    (kE : ∀ v s', Fly h g d os ls v s' → E v s') :
    wpAny (model prog w) A (call (.ref 126) [.ref x, .int at_ u, .int size u']) Q E ⟨h, g, d, tk, os⟩ := by
  have hx := c.ix
  have hd' := c.id
  refine' callR W G hfr FF am ?ho ?hcd ?hbind ?hloc ?_ kE ?h1 ?h2 ?h3 ?h4
  k_clsL
  intro h₁ L C am hfr' FF'
  repeat kbo_bools
  rename Cx _ _ _ _ _ _ => C
  refine check_r W C.G hfr' (FF' _ _ _ C) (am.mono (by decide)) (Ch.old C c) (by omega) fun v s' fl => ⟨_, _, _, C, .inl fl⟩

theorem part_r (W : Wd w base) (G : base.StaysIn h) (hfr : A.frames = some ls) (FF : h.FunFrames base ls) (am : Amb A 7) (c : Ch base h x dx l ps) (bad : ¬(0 ≤ at_ ∧ 0 ≤ size ∧ at_ + size ≤ ps.flatten.length))
    (kE : ∀ v s', Fly h g d os ls v s' → E v s') :
    wpAny (model prog w) A (call (.ref 133) [.ref x, .int at_ u, .int size u']) Q E ⟨h, g, d, tk, os⟩ := by
  have hx := c.ix
  have hd' := c.id
  refine' callR W G hfr FF am ?ho ?hcd ?hbind ?hloc ?_ kE ?h1 ?h2 ?h3 ?h4
  k_clsL
  intro h₁ L C am hfr' FF'
  repeat kbo_bools
  rename Cx _ _ _ _ _ _ => C
  refine pieces_r W C.G hfr' (FF' _ _ _ C) (am.mono (by decide)) (Ch.old C c) (by omega) fun v s' fl => ⟨_, _, _, C, .inl fl⟩

theorem drop_front_r (W : Wd w base) (G : base.StaysIn h) (hfr : A.frames = some ls) (FF : h.FunFrames base ls) (am : Amb A 6) (c : Ch base h x dx l ps) (bad : ¬(0 ≤ many ∧ many ≤ ps.flatten.length))
    (kE : ∀ v s', Fly h g d os ls v s' → E v s') :
    wpAny (model prog w) A (call (.ref 161) [.ref x, .int many u]) Q E ⟨h, g, d, tk, os⟩ := by
  have hx := c.ix
  have hd' := c.id
  refine' callR W G hfr FF am ?ho ?hcd ?hbind ?hloc ?_ kE ?h1 ?h2 ?h3 ?h4
  k_clsL
  intro h₁ L C am hfr' FF'
  repeat kbo_bools
  rename Cx _ _ _ _ _ _ => C
  refine check_r W C.G hfr' (FF' _ _ _ C) (am.mono (by decide)) (Ch.old C c) (by omega) fun v s' fl => ⟨_, _, _, C, .inl fl⟩

theorem drop_back_r (W : Wd w base) (G : base.StaysIn h) (hfr : A.frames = some ls) (FF : h.FunFrames base ls) (am : Amb A 6) (c : Ch base h x dx l ps) (bad : ¬(0 ≤ many ∧ many ≤ ps.flatten.length))
    (kE : ∀ v s', Fly h g d os ls v s' → E v s') :
    wpAny (model prog w) A (call (.ref 168) [.ref x, .int many u]) Q E ⟨h, g, d, tk, os⟩ := by
  have hx := c.ix
  have hd' := c.id
  refine' callR W G hfr FF am ?ho ?hcd ?hbind ?hloc ?_ kE ?h1 ?h2 ?h3 ?h4
  k_clsL
  intro h₁ L C am hfr' FF'
  repeat kbo_bools
  rename Cx _ _ _ _ _ _ => C
  refine check_r W C.G hfr' (FF' _ _ _ C) (am.mono (by decide)) (Ch.old C c) (by omega) fun v s' fl => ⟨_, _, _, C, .inl fl⟩

theorem split_r (W : Wd w base) (G : base.StaysIn h) (hfr : A.frames = some ls) (FF : h.FunFrames base ls) (am : Amb A 6) (c : Ch base h x dx l ps) (bad : ¬(0 ≤ at_ ∧ at_ ≤ ps.flatten.length))
    (kE : ∀ v s', Fly h g d os ls v s' → E v s') :
    wpAny (model prog w) A (call (.ref 189) [.ref x, .int at_ u]) Q E ⟨h, g, d, tk, os⟩ := by
  have hx := c.ix
  have hd' := c.id
  refine' callR W G hfr FF am ?ho ?hcd ?hbind ?hloc ?_ kE ?h1 ?h2 ?h3 ?h4
  k_clsL
  intro h₁ L C am hfr' FF'
  repeat kbo_bools
  rename Cx _ _ _ _ _ _ => C
  refine check_r W C.G hfr' (FF' _ _ _ C) (am.mono (by decide)) (Ch.old C c) (by omega) fun v s' fl => ⟨_, _, _, C, .inl fl⟩

theorem put_r (W : Wd w base) (G : base.StaysIn h) (hfr : A.frames = some ls) (FF : h.FunFrames base ls) (am : Amb A 6) (c : Ch base h x dx l ps) (bad : ¬(0 ≤ at_ ∧ at_ + O.length ≤ ps.flatten.length)) (hO : O.length ≤ 1000000)
    (kE : ∀ v s', Fly h g d os ls v s' → E v s') :
    wpAny (model prog w) A (call (.ref 196) [.ref x, .int at_ u, .bytes O.toArray u']) Q E ⟨h, g, d, tk, os⟩ := by
  have hx := c.ix
  have hd' := c.id
  refine' callR W G hfr FF am ?ho ?hcd ?hbind ?hloc ?_ kE ?h1 ?h2 ?h3 ?h4
  k_clsL
  intro h₁ L C am hfr' FF'
  repeat kbo_bools
  rename Cx _ _ _ _ _ _ => C
  refine check_r W C.G hfr' (FF' _ _ _ C) (am.mono (by decide)) (Ch.old C c) (by omega) fun v s' fl => ⟨_, _, _, C, .inl fl⟩
end
end
-- F7
section
--3 the steps of MAC3 too
local macro_rules | `(tactic| kbo_bools) => `(tactic| (with_reducible refine PySem.wpAny_Constant_str ?_))
section
variable {prog : Program} {w : World} {A : Around} {E : Value → Shared → Prop} {base h₀ h : Heap} {g : Array GenState} {d : Drawn} {tk : Nat} {os : OsState}
variable {x dx l L a b y dy q₁ s : Addr} {m : Str → Option Value} {f f' : List Fact} {ps qs : List (List UInt8)} {Q : Value → Shared → Prop} {at_ size many : Int} {u u' u'' : Tok} {O F : List UInt8} {vs : List Value} {ns : List Int} {ls : List Env}

theorem find_r {v : Value} (W : Wd w base) (G : base.StaysIn h) (hfr : A.frames = some ls) (FF : h.FunFrames base ls) (am : Amb A 6) (bad : at_ < 0)
    (kE : ∀ v s', Fly h g d os ls v s' → E v s') :
    wpAny (model prog w) A (call (.ref 211) [.ref x, v, .int at_ u]) Q E ⟨h, g, d, tk, os⟩ := by
  refine' callR W G hfr FF am ?ho ?hcd ?hbind ?hloc ?_ kE ?h1 ?h2 ?h3 ?h4
  (case ho => k_is); (case hcd => k_is); (case hbind => exact binds_K (W.keeps G).X rfl (by k_is) rfl rfl rfl); (case hloc => exact locs rfl); (case h1 => rfl); (case h2 => rfl); (case h3 => rfl); (case h4 => decide)
  intro h₁ L C am hfr' FF'
  repeat kbo_bools
  refine raise_stmt am.hh ?_
  repeat kbo_bools
  rename Cx _ _ _ _ _ _ => C
  exact size_error W C.G (am.mono (by decide)) fun e s' ne => out_new C W ne

theorem packed_r (W : Wd w base) (G : base.StaysIn h) (hfr : A.frames = some ls) (FF : h.FunFrames base ls) (am : Amb A 6) (bad : many < 1)
    (kE : ∀ v s', Fly h g d os ls v s' → E v s') :
    wpAny (model prog w) A (call (.ref 225) [.ref x, .int many u]) Q E ⟨h, g, d, tk, os⟩ := by
  refine' callR W G hfr FF am ?ho ?hcd ?hbind ?hloc ?_ kE ?h1 ?h2 ?h3 ?h4
  k_clsL
  intro h₁ L C am hfr' FF'
  repeat kbo_bools
  refine raise_stmt am.hh ?_
  repeat kbo_bools
  rename Cx _ _ _ _ _ _ => C
  exact size_error W C.G (am.mono (by decide)) fun e s' ne => out_new C W ne

theorem cut_up_r (W : Wd w base) (G : base.StaysIn h) (hfr : A.frames = some ls) (FF : h.FunFrames base ls) (am : Amb A 6) (c : Ch base h x dx l ps) (hs : Has h (s, LI ns)) (hp : ∀ n ∈ ns, 0 ≤ n) (hsum : ns.sum ≠ ps.flatten.length)
    (kE : ∀ v s', Fly h g d os ls v s' → E v s') :
    wpAny (model prog w) A (call (.ref 232) [.ref x, .ref s]) Q E ⟨h, g, d, tk, os⟩ := by
  have hx := c.ix
  have hd' := c.id
  obtain ⟨vs, hl, z⟩ := has_LR hs
  have hv := z.length
  refine' callR W G hfr FF am ?ho ?hcd ?hbind ?hloc ?_ kE ?h1 ?h2 ?h3 ?h4
  k_clsL
  intro h₁ L C am hfr' FF'
  repeat kbo_bools
  rename Cx _ _ _ _ _ _ => C
  refine iter_L C (C.old hl) am.hh fun I h₂ T kp C => ?_
  refine forI T (CutJ ns x s) C ⟨rfl, rfl, rfl, _, rfl⟩ (fun i m l h' _ C => C.old hl) ?_ ?_ rfl rfl rfl
  · rintro i v m₁ l₁ h₁ tk₁ hi hv' ⟨rfl, ms, mz, t, mt⟩ C K kn kr
    obtain ⟨n, hn, t', rfl⟩ := z.get' hv'
    have hn0 := hp n (List.mem_of_getElem? hn)
    repeat kbo_bools
    rename Cx _ _ _ _ _ _ => C
    exact kn _ ⟨_, _, _, _, rfl, C, rfl, by k_updF, by k_updF, _, by rw [sum_take hn]; rfl⟩
  rintro h' tk' m' l' ⟨rfl, ms, mz, t, mt⟩ C
  rw [hv, List.take_length] at mt
  repeat kbo_bools
  refine raise_stmt am.hh ?_
  repeat kbo_bools
  rename Cx _ _ _ _ _ _ => C
  exact size_error W C.G (am.mono (by decide)) fun e s' ne => out_new C W ne
end
end
-- F8
/-- a lambda -/
def FnO (qual : Str) (params : Arguments) (body : PySem.Expr) (scope : Scope) (clos : List (Str × Addr)) (c' : Addr) (o : Obj) : Prop :=
  ∃ pm ctv, o = kla_obj "<lambda>" qual params body scope clos pm c' ctv
/-- a code object -/
def CdO (qual : Str) (o : Obj) : Prop := ∃ vs t, o.data = .fields vs ∧ vs[1]? = some (.str qual t)
theorem has_code {h : Heap} {c : Addr} {qual : Str} (x : Has h (c, CdO qual)) : h.CodeRec (.ref c) qual := by
  obtain ⟨o, e, vs, t, a, b⟩ := x
  exact ⟨c, o, vs, t, rfl, e, a, b⟩
section
variable {prog : Program} {w : World} {A : Around} {E : Value → Shared → Prop} {base h₀ h : Heap} {g : Array GenState} {d : Drawn} {tk : Nat} {os : OsState}
variable {x dx l L a b y dy q₁ s f c' : Addr} {m : Str → Option Value} {fs : List Fact} {ps qs : List (List UInt8)} {Q : Value → Shared → Prop} {at_ size many : Int} {u u' u'' : Tok} {O F : List UInt8} {vs : List Value} {ns : List Int} {ls : List Env}

theorem nFo {env : Env} {x : Str} {pos : Pos} {v : Value} {c : Addr} {Q : Value → Shared → Prop} (C : Cx base h₀ env.locals h m fs) (hc : env.cells.lookup x = some c) (hm : Has h₀ (c, CeO (some v))) (q : Q v ⟨h, g, d, tk, os⟩)
    (hk : env.scope.kind = .function := by rfl) (hx : env.kindOf x = some .free := by rfl) (hd : (x == ("__debug__" : Str)) = false := by decide) (hn : (x == ("__classdict__" : Str)) = false := by decide) :
    wpAny (model prog w) A (eval (.Name x pos) env) Q E ⟨h, g, d, tk, os⟩ := wpAny_Name (wpAny_loadName_free hk hx hc (has_cell (C.old hm)) q hn) hd

/-- a call of a lambda that raises -/
theorem lamR {qual : Str} {params : Arguments} {body : PySem.Expr} {scope : Scope} {clos : List (Str × Addr)} (W : Wd w base) (G : base.StaysIn h) (hfr : A.frames = some ls) (FF : h.FunFrames base ls) {n : Nat} (am : Amb A (n + 1))
    (ho : Has h (f, FnO qual params body scope clos c')) (hcd : Has h (c', CdO qual))
    (hbind : ∀ pm ctv, bindArgs (kla_fn "<lambda>" qual params body scope clos pm (.ref c') ctv) ⟨[], []⟩ = pure [])
    (k : ∀ h₁ L tk₁, Cx base (hideAll h []) L h₁ (fun y => ([] : List (Str × Value)).reverse.lookup y) [] → Amb (A.deeper (envX qual scope L f (.ref c') clos)) n → (A.deeper (envX qual scope L f (.ref c') clos)).frames = some (envX qual scope L f (.ref c') clos :: ls) →
      (∀ h₂ m fs, Cx base (hideAll h []) L h₂ m fs → h₂.FunFrames base (envX qual scope L f (.ref c') clos :: ls)) →
      wpAny (model prog w) (A.deeper (envX qual scope L f (.ref c') clos)) (eval body (envX qual scope L f (.ref c') clos))
        (fun _ _ => False) (fun v s' => Out base h g d os L (envX qual scope L f (.ref c') clos :: ls) v s') ⟨h₁, g, d, tk₁, os⟩)
    (kE : ∀ v s', Fly h g d os ls v s' → E v s')
    (hco : scope.isCoroutine = false) (hgen : scope.isGenerator = false) (hk : scope.kind = .function)
    (hcell : ∀ x ∈ scope.names, x.2 ≠ .cell) : wpAny (model prog w) A (call (.ref f) []) Q E ⟨h, g, d, tk, os⟩ := by
  obtain ⟨o, he, pm, ctv, rfl⟩ := ho
  have hnm : ∀ L, (envX qual scope L f (.ref c') clos).scope.kind ≠ .module := fun L => by show scope.kind ≠ _; rw [hk]; decide
  refine wpAny_call (kla_callFunE (by have := am.d; omega) he rfl hco hgen rfl (has_code hcd) ?_)
  rw [hbind]
  refine wpAny_pure (wpAny_newFunctionEnv hcell (by intro y hy; simp at hy) (fun h₁ hns hsb => ⟨((W.nolimit).keeps G).fresh _ hsb, ?_⟩) hk)
  show codeAny _ _ (.expr body (envX qual scope h.objs.size f (.ref c') clos)) _ _
  have hk₁ : ∀ b o, h.get? b = some o → h₁.get? b = some o := fun b o e => hsb.extBut b o (Nat.ne_of_lt (Heap.lt_size e)) (Heap.get?_push_of_some _ e)
  have C : Cx base (hideAll h []) h.objs.size h₁ (fun y => ([] : List (Str × Value)).reverse.lookup y) [] := ⟨⟨hns, fun b o e => hk₁ b o e, Nat.le_refl _⟩, by simp, by simp, G⟩
  refine kla_codeExpr (wpAny_mono (k h₁ h.objs.size _ C (am.deeper _) (Around.frames_deeper hfr) fun h₂ m fs C => frames_cx (hnm _) rfl G FF C) (fun _ _ x => x.elim) fun v s' o => ?_)
  exact leave_out (R := fun r s' => match r with | .ok (.ret v) => Q v s' | .ok _ => False | .error e => E e s') (hnm _) rfl hfr G FF o fun v s'' fl => kE v s'' fl
end
-- F9
--3 the steps of MAC3 too
section
variable {prog : Program} {w : World} {A : Around} {E : Value → Shared → Prop} {base h₀ h : Heap} {g : Array GenState} {d : Drawn} {tk : Nat} {os : OsState}
variable {x dx l L a b y dy q₁ s f c' : Addr} {m : Str → Option Value} {fs : List Fact} {ps qs : List (List UInt8)} {Q : Value → Shared → Prop} {at_ size many : Int} {u u' u'' : Tok} {O F : List UInt8} {vs : List Value} {ns : List Int} {ls : List Env}

/-- a call that flies -/
def Flies (prog : Program) (w : World) (base h : Heap) (g : Array GenState) (d : Drawn) (os : OsState) (n : Nat) (f : Addr) : Prop :=
  ∀ A' h₁ tk₁ ls' (Q' E' : Value → Shared → Prop), Amb A' n → A'.frames = some ls' → Kp [] h h₁ → base.StaysIn h₁ → h₁.FunFrames base ls' → (∀ v s', Fly h₁ g d os ls' v s' → E' v s') → wpAny (model prog w) A' (call (.ref f) []) Q' E' ⟨h₁, g, d, tk₁, os⟩

theorem stays_hide (G : base.StaysIn h) (FF : h.FunFrames base ls) : base.StaysIn (hideAll h (frs ls)) := fun b o e => hideAll_get _ (G b o e) fun q => by
  rw [(FF.mem q).1] at e; cases e

theorem refit {env : Env} {h₁ h' : Heap} {e : Addr} {cls a0 : Value} (hf : env.frame = some L) (C : Cx base (hideAll h []) L h₁ m fs) (G : base.StaysIn h) (FF : h.FunFrames base ls) (fly : Heap.FlyingW (hideAll h₁ (frs (env :: ls))) (env :: ls) e cls a0 h') (up : h₁.UpToSlots h') :
    Cx base (hideAll h (frs ls)) L h' m [] :=
  ⟨⟨up.ns C.F.ns, fun b o z => fly.1 b o (fly_base (l := ls) hf C b o z), by rw [hideAll_size]; exact C.F.above⟩, by simp, by simp, stays_hide G FF⟩

theorem refused_c {n : Nat} (W : Wd w base) (G : base.StaysIn h) (hfr : A.frames = some ls) (FF : h.FunFrames base ls) (am : Amb A (n + 1)) (fn : FnAt f h) (fl : Flies prog w base h g d os n f)
    (k : ∀ h' tk', Kp (frs ls) h h' → h.UpToSlots h' → Q (.bool true) ⟨h', g, d, tk', os⟩) :
    wpAny (model prog w) A (call (.ref 284) [.ref f]) Q E ⟨h, g, d, tk, os⟩ := by
  refine' callN W G [] (by simp) (by simp) am ?ho ?hcd ?hbind ?hloc ?_ ?h1 ?h2 ?h3 ?h4
  k_clsL
  intro h₁ L C am
  repeat kbo_bools
  refine wpAny_Try_except ?_
  repeat kbo_bools
  have fn1 : FnAt f h₁ := let ⟨oc, od, fd, sl, e⟩ := fn; ⟨oc, od, fd, sl, C.F.keep _ _ e⟩
  refine callWith_F0 fn1 ?_
  refine fl _ _ _ _ _ _ am (Around.frames_deeper hfr) C.out C.G (frames_cx (by intro q; cases q) rfl G FF C) ?_
  rintro v s' ⟨e, h', tk', a0, rfl, rfl, fly, up⟩
  refine wpAny_looks_onW (Around.frames_deeper hfr) rfl fly fun h₄ held₄ up4 => ?_
  refine wpAny_landsW held₄ fun h₅ fly5 up5 => ?_
  have up5 := (up.trans up4).trans up5
  have C5 := refit rfl C G FF fly5 up5
  refine wpAny_handleBy_cons (codeAny_handlers_test ?_) (by intro q; cases q)
  have Cold := C
  clear C
  repeat kbo_bools
  obtain ⟨nm, qn, N, bs, hdct, sn, sub, ab, col, dd, k0, k1, k2, k3, k5, hK⟩ := cls44 w
  have hC := (C5.W W).X _ _ hK
  obtain ⟨ob, hob, hobc⟩ := fly5.there
  refine wpAny_excMatches_sub_self hC hob hobc (by decide +kernel) (codeAny_handlers_suite ?_)
  refine lands_againW fly5 fun h₆ fly6 up6 => ?_
  have up6 := up5.trans up6
  have C6 := refit rfl Cold G FF fly6 up6
  repeat kbo_bools
  exact k _ _ C6.out ((Heap.UpToSlots.of_keeps fun b o z => Cold.F.keep b o z).trans up6)
end
-- G1
--3 the steps of MAC3 too
/-- what is known of the built-in module -/
def Bm (base : Heap) : Prop := ∃ mg bm ob, base.Ns mainGlobals mg ∧ mg "__builtins__" = some (.ref bm) ∧ bm ≠ builtinsNs ∧ bm ≠ mainGlobals ∧ base.get? bm = some ob ∧ ob.cls = .type "module" ∧ ob.dict = some builtinsNs ∧ ob.data = .plain
/-- a def's table of inner code -/
def TabO (cs : List Addr) (o : Obj) : Prop := ∃ ps, o = tabObj ps ∧ TriplesOk ps.toList ∧ ∀ pos cv, codeAmong pos ps.toList = some cv → ∃ c' ∈ cs, cv = .ref c'
theorem tab_nil : TabO [] (tabObj #[]) := ⟨#[], rfl, trivial, fun pos cv h => by simp [codeAmong] at h⟩
theorem among_snoc {pos : Pos} {a b : Int} {c cv : Value} (l : List Value) (h : TriplesOk l) : codeAmong pos (l ++ [rawInt a, rawInt b, c]) = some cv → codeAmong pos l = some cv ∨ cv = c := by
  fun_induction TriplesOk l with
  | case1 =>
    intro e
    simp only [List.nil_append, codeAmong, rawInt] at e
    split at e
    · exact .inr (Option.some.inj e).symm
    · cases e
  | case2 a t b u x rest ih =>
    intro e
    simp only [List.cons_append, codeAmong] at e ⊢
    split at e
    · rename_i q; rw [if_pos q]; exact .inl e
    · rename_i q; rw [if_neg q]; exact ih h e
  | case3 => exact h.elim
section
variable {prog : Program} {w : World} {A : Around} {E : Value → Shared → Prop} {base h₀ h : Heap} {g : Array GenState} {d : Drawn} {tk : Nat} {os : OsState}
variable {L a c P : Addr} {m : Str → Option Value} {R : List Fact} {Q : Value → Shared → Prop} {cs : List Addr} {cn : Str} {cs' : Scope} {ccd : Value} {cl clos : List (Str × Addr)} {params : Arguments} {body : PySem.Expr} {scope : Scope} {pos : Pos} {qual : Str}

theorem lamC (hq : (envX cn cs' L a ccd cl).qual ++ "<lambda>" = qual) (C : Cx base h₀ L h m ((P, TabO cs) :: R)) (B : Bm base) (hd : CodeHd base c P) (hcd : ccd = .ref c) (hcl : closureFor scope (envX cn cs' L a ccd cl) = pure clos) (hdef : defaultsOf params (envX cn cs' L a ccd cl) = ([], []))
    (k : ∀ f c' nw h' tk', c' ∈ nw ++ cs → Cx base h₀ L h' m ((f, FnO qual params body scope clos c') :: (P, TabO (nw ++ cs)) :: (nw.map (fun c => (c, CdO qual)) ++ R)) → Q (.ref f) ⟨h', g, d, tk', os⟩) :
    wpAny (model prog w) A (eval (.Lambda params body scope pos) (envX cn cs' L a ccd cl)) Q E ⟨h, g, d, tk, os⟩ := by
  refine kla_eval hdef ?_
  rw [hq]
  obtain ⟨mg, bm, ob, b0, b1, b2, b3, b4, b5, b6, b7⟩ := B
  obtain ⟨oP, eP, ps, rfl, tr, am⟩ := C.get (.head _)
  have nP := C.nobase (.head _)
  have G := C.G
  have D := C.D
  simp only [List.map_cons, List.nodup_cons] at D
  have hgs := b0.keeps G
  have hgP : mainGlobals ≠ P := fun q => by
    obtain ⟨o, es, ep, e, _⟩ := b0
    rw [q, nP] at e; cases e
  have hbP : bm ≠ P := fun q => by rw [q, nP] at b4; cases b4
  have inP : ∀ p ∈ (P, TabO cs) :: R, ∃ o, h.get? p.1 = some o := fun p hp => let ⟨o, e, _⟩ := (C.N p hp).2.2; ⟨o, e⟩
  have inR : ∀ b, b ∈ R.map (·.1) → ∃ o, h.get? b = some o := fun b hb => by
    obtain ⟨p, hp, rfl⟩ := List.mem_map.mp hb
    exact inP p (.tail _ hp)
  have fresh : ∀ b, h.objs.size ≤ b → h.get? b = none := fun b q => Heap.get?_none_of_le q
  rcases q : codeAmong pos ps.toList with _ | cv
  · refine kla_makeFunction (mg := mg) hcl rfl hgs hcd (hd.keeps G) eP tr q hgP ⟨bm, ob, b1, b2, b3, hbP, G _ _ b4, b5, b6, b7⟩ fun c' ctv h' tk' hx hge hlt hrec htb => ?_
    obtain ⟨c₂, oc, vs, t, e2, hoc, hdc, hv⟩ := hrec
    cases e2
    have hge : h.objs.size ≤ c' := hge
    have hgt : h.objs.size ≤ h'.objs.size := by omega
    have kp : Kp [P] h (h'.push (kla_obj "<lambda>" qual params body scope clos ((mg "__name__").getD .none) c' ctv)) := fun b o n e => Heap.get?_push_of_some _ (hx b o (by simpa using n) e)
    refine k _ c' [c'] _ _ (by simp) (C.upd kp (by simp) (fun p hp => ?_) ?_)
    · rcases List.mem_cons.mp hp with rfl | hp
      · exact .inr (.inr ⟨fresh _ hgt, _, Heap.get?_push_size _ rfl, _, _, rfl⟩)
      · rcases List.mem_cons.mp hp with rfl | hp
        · refine .inr (.inl ⟨by simp, _, Heap.get?_push_of_some _ htb, _, rfl, ?_, fun pos' cv h => ?_⟩)
          · rw [Array.toList_append]; exact TriplesOk_snoc _ _ _ _ tr
          · rw [Array.toList_append] at h
            rcases among_snoc _ tr h with h | h
            · obtain ⟨c2, h2, h3⟩ := am pos' cv h; exact ⟨c2, by simp [h2], h3⟩
            · exact ⟨c', by simp, h⟩
        · rcases List.mem_append.mp hp with hp | hp
          · simp at hp
            subst hp
            exact .inr (.inr ⟨fresh _ hge, _, Heap.get?_push_of_some _ hoc, _, _, hdc, hv⟩)
          · exact .inl ⟨.tail _ hp, by simp; intro z; exact D.1 (z ▸ List.mem_map_of_mem hp)⟩
    · have f1 : h'.objs.size ∉ R.map (·.1) := fun z => by obtain ⟨o, e⟩ := inR _ z; rw [fresh _ hgt] at e; cases e
      have f2 : c' ∉ R.map (·.1) := fun z => by obtain ⟨o, e⟩ := inR _ z; rw [fresh _ hge] at e; cases e
      have f3 : h'.objs.size ≠ P := fun z => by rw [← z, fresh _ hgt] at eP; cases eP
      have f4 : c' ≠ P := fun z => by rw [← z, fresh _ hge] at eP; cases eP
      simp only [List.map_cons, List.map_nil, List.map_append, List.nodup_cons, List.mem_cons, List.cons_append, List.nil_append, not_or]
      have f5 : h'.objs.size ≠ c' := by omega
      exact ⟨⟨f3, f5, f1⟩, ⟨Ne.symm f4, D.1⟩, f2, D.2⟩
  · obtain ⟨c', hc', rfl⟩ := am _ _ q
    refine kla_makeFunctionHit (mg := mg) hcl rfl hgs hcd (hd.keeps G) eP tr q ⟨bm, ob, b1, b2, b3, hbP, G _ _ b4, b5, b6, b7⟩ fun ctv h' tk' hk hsz => ?_
    have kp : Kp [] h (h'.push { cls := .type "function", data := .func (kla_fn "<lambda>" qual params body scope clos ((mg "__name__").getD .none) (.ref c') ctv) }) := fun b o n e => Heap.get?_push_of_some _ (hk b o e)
    have C1 := C.kp kp
    exact k _ c' [] _ _ (by simpa using hc') (C.add C1 rfl (fresh _ hsz) ⟨_, Heap.get?_push_size _ rfl, _, _, rfl⟩)
end
-- G2
section
variable {base h₀ h h' : Heap} {L Lw : Addr} {m mw : Str → Option Value} {l l' : List Fact}
theorem nodup_eq : ∀ {l : List Fact} {a : Addr} {φ ψ : Obj → Prop}, (l.map (·.1)).Nodup → (a, φ) ∈ l → (a, ψ) ∈ l → φ = ψ
  | q :: r, a, φ, ψ, D, h1, h2 => by
    simp only [List.map_cons, List.nodup_cons] at D
    rcases List.mem_cons.mp h1 with e1 | h1
    · rcases List.mem_cons.mp h2 with e2 | h2
      · have := e1.trans e2.symm; exact (Prod.mk.inj this).2
      · exact absurd (List.mem_map_of_mem (f := Prod.fst) h2) (by rw [← e1] at D; exact D.1)
    · rcases List.mem_cons.mp h2 with e2 | h2
      · exact absurd (List.mem_map_of_mem (f := Prod.fst) h1) (by rw [← e2] at D; exact D.1)
      · exact nodup_eq D.2 h1 h2
/-- the frames' slots may have changed -/
theorem Cx.slots (C : Cx base h₀ L h m l) (k : Kp [L, Lw] h h') (up : h.UpToSlots h') (hm : (Lw, FrO mw) ∈ l) : Cx base h₀ L h' m l := by
  have nw := C.N _ hm
  refine ⟨⟨up.ns C.F.ns, fun b o e => k b o (fun q => ?_) (C.F.keep b o e), C.F.above⟩, fun p hp => ?_, C.D, C.B⟩
  · simp only [List.mem_cons, List.not_mem_nil, or_false] at q
    rcases q with rfl | rfl
    · exact absurd (Heap.lt_size e) (Nat.not_lt.mpr C.F.above)
    · rw [nw.2.1] at e; cases e
  · have n := C.N p hp
    refine ⟨n.1, n.2.1, ?_⟩
    by_cases q : p.1 = Lw
    · obtain ⟨b, φ⟩ := p
      subst q
      rw [nodup_eq C.D hp hm]
      exact fr_has (up.ns (has_fr (C.get hm)))
    · exact k.has (by simp; exact ⟨n.1, q⟩) n.2.2
theorem frames2 {env e0 : Env} (C : Cx base h₀ L h m l) (hk : env.scope.kind ≠ .module) (hf : env.frame = some L) (hk0 : e0.scope.kind ≠ .module) (hf0 : e0.frame = some Lw) (hm : (Lw, FrO mw) ∈ l) : h.FunFrames base [env, e0] := by
  have bL : base.get? L = none := by
    cases q : base.get? L with
    | none => rfl
    | some o => exact absurd (Heap.lt_size (C.B _ _ q)) (Nat.not_lt.mpr C.F.above)
  exact Heap.FunFrames.cons hk hf C.F.ns bL (Heap.FunFrames.cons hk0 hf0 (has_fr (C.get hm)) (C.nobase hm) trivial)
theorem fn_at {f : Addr} {qual : Str} {params : Arguments} {body : PySem.Expr} {scope : Scope} {clos : List (Str × Addr)} {c' : Addr} (x : Has h (f, FnO qual params body scope clos c')) : FnAt f h := by
  obtain ⟨o, e, pm, ctv, rfl⟩ := x
  exact ⟨_, _, _, _, e⟩
/-- what a callee hands back -/
theorem Cx.back {T : List Fact} {Lc : Addr} {Y : List Fact} {m' : Str → Option Value} (C : Cx base (hideAll h (T.map (·.1))) Lc h' m' l) (s : Y.Sublist l) :
    Kp (T.map (·.1)) h h' ∧ (∀ p ∈ Y, (p.1 ∈ T.map (·.1) ∨ h.get? p.1 = none) ∧ Has h' p) ∧ (Y.map (·.1)).Nodup := by
  refine ⟨C.out, fun p hp => ?_, C.D.sublist (s.map _)⟩
  have n := C.N p (s.subset hp)
  refine ⟨?_, n.2.2⟩
  by_cases q : p.1 ∈ T.map (·.1)
  · exact .inl q
  · refine .inr ?_
    cases e : h.get? p.1 with
    | none => rfl
    | some o => have := hideAll_get _ e q; rw [n.2.1] at this; cases this
end
local macro_rules | `(tactic| kbo_bools) => `(tactic| first
  | (with_reducible refine PySem.wpAny_Constant_str ?_)
  | ((with_reducible show wpAny _ _ (storeName _ _ _) _ _ _); (rename Cx _ _ _ _ _ _ => cOld); refine' stC cOld ?hc ?u ?_; (case hc => rfl); (case u => k_allIn); clear cOld; intro _ _)
  | ((with_reducible show wpAny _ _ (eval (PySem.Expr.Name _ _) _) _ _ _); refine' nFo (by assumption) ?hc ?hm ?_; (case hc => rfl); (case hm => assumption))
  | ((with_reducible show wpAny _ _ (compareOp .NotEq (Value.ref _) (Value.ref _)) _ _ _); refine' ne_nil ?X ?Y ?hu ?_; (case X => k_ownIn); (case Y => k_ownIn); (case hu => (rename Amb _ _ => amN; have := amN.u; omega)))
  | ((with_reducible show wpAny _ _ (compareOp .Eq (Value.ref _) (Value.ref _)) _ _ _); refine' eq_nil ?X ?Y ?hu ?_; (case X => k_ownIn); (case Y => k_ownIn); (case hu => (rename Amb _ _ => amN; have := amN.u; omega))))
-- G3
--4 the steps of MAC3 and MAC4 too
/-- the facts of a def's table -/
def tabL (P : Addr) (qual : Str) (cs : List Addr) : List Fact := (P, TabO cs) :: cs.map fun c => (c, CdO qual)
/-- the facts handed to a law's part -/
def handed (a Lw P : Addr) (mw : Str → Option Value) (qual : Str) (cs : List Addr) : List Fact := (a, Src) :: (Lw, FrO mw) :: tabL P qual cs
section
variable {base h₀ h h' hh : Heap} {L y dy p : Addr} {m : Str → Option Value} {l : List Fact} {qs : List (List UInt8)}
theorem Cx.addCh (C : Cx base h₀ L h m l) (kp : Kp [] h h') (n1 : h.get? y = none) (n2 : h.get? dy = none) (n3 : h.get? p = none) (c : Ch base h' y dy p qs) : Cx base h₀ L h' m ((dy, DiO p) :: (p, LB qs) :: (y, InO dy) :: l) :=
  C.addAll kp [(dy, DiO p), (p, LB qs), (y, InO dy)] (by
    intro r hr
    simp only [List.mem_cons, List.not_mem_nil, or_false] at hr
    rcases hr with rfl | rfl | rfl
    · exact ⟨n2, c.id⟩
    · exact ⟨n3, c.il⟩
    · exact ⟨n1, c.ix⟩) (by simp only [List.map_cons, List.map_nil, List.nodup_cons, List.mem_cons, not_or, List.not_mem_nil, or_false]; exact ⟨⟨c.dl, Ne.symm c.xd⟩, Ne.symm c.xl, by simp⟩)
theorem Ch.now (c : Ch base hh y dy p qs) (C : Cx base h₀ L h m l) (m1 : (y, InO dy) ∈ l) (m2 : (dy, DiO p) ∈ l) (m3 : (p, LB qs) ∈ l) : Ch base h y dy p qs := ⟨c.bx, c.bd, c.bl, C.get m1, C.get m2, C.get m3, c.ne, c.sz⟩
theorem lams1 {p : Fact} {F : Addr → Fact} {n cs : List Addr} {X : List Fact} (C : Cx base h₀ L h m (p :: (n.map F ++ (X ++ cs.map F)))) : Cx base h₀ L h m (X ++ (p :: (n ++ cs).map F)) := C.perm (by
  classical
  rw [List.perm_iff_count]; intro z; simp only [List.map_append, List.count_append, List.count_cons]; ac_rfl)
theorem Cx.home {T Y : List Fact} {m' : Str → Option Value} (hhid : hideAll h (T.map (·.1)) = h₀) (C : Cx base h₀ L h' m' l) (s : ∀ p ∈ Y, p ∈ l) (D : (Y.map (·.1)).Nodup) :
    Kp (T.map (·.1)) h h' ∧ (∀ p ∈ Y, (p.1 ∈ T.map (·.1) ∨ h.get? p.1 = none) ∧ Has h' p) ∧ (Y.map (·.1)).Nodup := by
  subst hhid
  exact (C.sub s D).back (.refl _)
theorem Cx.swap3 {a b c d e f : Fact} {r : List Fact} (C : Cx base h₀ L h m (a :: b :: c :: d :: e :: f :: r)) : Cx base h₀ L h m (d :: e :: f :: a :: b :: c :: r) :=
  C.perm ((List.perm_append_comm (l₁ := [d, e, f]) (l₂ := [a, b, c])).append_right r)
end
section
variable {prog : Program} {w : World} {A : Around} {E : Value → Shared → Prop} {base h₀ h : Heap} {g : Array GenState} {d : Drawn} {tk : Nat} {os : OsState}
variable {x dx l L Lw a b y dy q₁ s f c' : Addr} {m mw : Str → Option Value} {fs : List Fact} {ps qs : List (List UInt8)} {Q : Value → Shared → Prop} {at_ size many : Int} {u u' u'' : Tok} {O F : List UInt8} {vs : List Value} {ns : List Int} {ls : List Env} {e0 : Env} {cs : List Addr}

theorem packed_right_c (W : Wd w base) (B : Bm base) (hdc : CodeHd base 307 305) (G : base.StaysIn h) (am : Amb A 20) (hfr : A.frames = some [e0]) (hf0 : e0.frame = some Lw) (hk0 : e0.scope.kind ≠ .module)
    (c : Ch base h x dx l ps) (e : ps.flatten = F) (hF : F.length ≤ 800) (hT : ∀ p ∈ handed a Lw 305 mw "_law_packed_right.<locals>.<lambda>" cs, base.get? p.1 = none ∧ Has h p) (hD : ((handed a Lw 305 mw "_law_packed_right.<locals>.<lambda>" cs).map (·.1)).Nodup)
    (nx : x ∉ (handed a Lw 305 mw "_law_packed_right.<locals>.<lambda>" cs).map (·.1)) (nd : dx ∉ (handed a Lw 305 mw "_law_packed_right.<locals>.<lambda>" cs).map (·.1)) (nl : l ∉ (handed a Lw 305 mw "_law_packed_right.<locals>.<lambda>" cs).map (·.1))
    (k : ∀ cs' h' tk', Kp ((handed a Lw 305 mw "_law_packed_right.<locals>.<lambda>" cs).map (·.1)) h h' → (∀ p ∈ handed a Lw 305 mw "_law_packed_right.<locals>.<lambda>" cs', (p.1 ∈ (handed a Lw 305 mw "_law_packed_right.<locals>.<lambda>" cs).map (·.1) ∨ h.get? p.1 = none) ∧ Has h' p) →
      ((handed a Lw 305 mw "_law_packed_right.<locals>.<lambda>" cs').map (·.1)).Nodup → Q (.bool true) ⟨h', g, d, tk', os⟩) :
    wpAny (model prog w) A (call (.ref 308) [.ref a, .ref x, .bytes F.toArray u]) Q E ⟨h, g, d, tk, os⟩ := by
  subst e
  have hx := has_hide c.ix nx
  have hd' := has_hide c.id nd
  have hl := has_hide c.il nl
  have hz := c.sz
  refine' callC W G (handed a Lw 305 mw "_law_packed_right.<locals>.<lambda>" cs) hT hD am ?ho ?hcd ?hbind ?hloc ?hnd ?_ ?h1 ?h2 ?h3
  (case ho => k_is); (case hcd => k_is); (case hbind => exact rfl); (case hloc => exact rfl); (case hnd => decide); (case h1 => rfl); (case h2 => rfl); (case h3 => rfl)
  intro h₁ L tk₁ C am
  generalize hhid : hideAll h ((handed a Lw 305 mw "_law_packed_right.<locals>.<lambda>" cs).map (·.1)) = hid at *
  obtain ⟨R, hR, C⟩ : ∃ R : List Fact, ((Lw, FrO mw) :: (305, TabO cs) :: cs.map fun c => ((c, CdO "_law_packed_right.<locals>.<lambda>") : Fact)) = R ∧ Cx base hid L h₁ _ ((L + 1 + 1, CeO none) :: (L + 1, CeO (some (.ref x))) :: (a, Src) :: R) := ⟨_, rfl, C⟩
  obtain ⟨m₀, hm1, hm2, C⟩ : ∃ m₀ : Str → Option Value, m₀ "source" = some (.ref a) ∧ m₀ "whole" = some (.bytes ps.flatten.toArray u) ∧ Cx base hid L h₁ m₀ ((L + 1 + 1, CeO none) :: (L + 1, CeO (some (.ref x))) :: (a, Src) :: R) := ⟨_, rfl, rfl, C⟩
  have chC : ∀ {h₂ m f}, Cx base hid L h₂ m f → Ch base h₂ x dx l ps := fun C => ⟨c.bx, c.bd, c.bl, C.old hx, C.old hd', C.old hl, c.ne, c.sz⟩
  repeat kbo_bools
  rename_i n t _ _ n0 n1 _ C
  refine packed_c W C.G (am.mono (by decide)) (chC C) (by omega) (by omega) fun y dy p qs h₂ tk₂ kp k1 k2 k3 c1 f1 p1 p2 => ?_
  replace C := C.addCh kp k1 k2 k3 c1
  repeat kbo_bools
  rename Cx _ _ _ _ _ _ => C
  refine copy_c W C.G (am.mono (by decide)) (chC C) fun z dz r h₂ tk₂ kp k1 k2 k3 c2 => ?_
  replace C := C.addCh kp k1 k2 k3 c2
  repeat kbo_bools
  rename Cx _ _ _ _ _ _ => C
  replace C := C.drop1
  refine sizes_c W C.G (am.mono (by decide)) (c1.now C (by k_mem) (by k_mem) (by k_mem)) fun sz h₃ tk₃ kp3 k1 hq => ?_
  replace C := C.add (C.kp kp3) rfl k1 hq
  obtain ⟨us, hu, zu⟩ := has_LR hq
  replace C := C.at (ψ := LsO us) .head .refl hu
  have lz := zu.length
  rw [List.length_map] at lz
  have cq := ne_len c1.ne
  have cz := c1.sz
  have hus : us.length ≤ 1000000 := by omega
  repeat kbo_bools
  rename Cx _ _ _ _ _ _ => C
  have zc := zu.cut none (some (-1))
  rw [cut_last, List.length_map, ← List.map_take, ← List.dropLast_eq_take] at zc
  have lc := zc.length
  rw [List.length_map, List.length_dropLast] at lc
  refine iter_L C (C.get (.head _)) am.hh fun I h₄ T kp C => ?_
  refine compL T (fun i ys l => l = _ ∧ ys = []) C ⟨rfl, rfl⟩ ?_ (fun i ys D F Lc m' l h' j C => by obtain ⟨rfl, rfl⟩ := j; exact C.get (by k_mem)) ?_ ?_ (by decide) rfl rfl
  · rintro i ys l ⟨rfl, rfl⟩; simp
  · rintro i v ys l₁ Lc h₁ tk₁ m₁ D hi hv ⟨rfl, rfl⟩ hm C
    obtain ⟨n', hn, t', rfl⟩ := zc.get' hv
    obtain ⟨q, hq', rfl⟩ := List.mem_map.mp (List.mem_of_getElem? hn)
    have p1' := p1 q hq'
    refine ifs1 ?_
    repeat kbo_bools
    rename Cx _ _ _ _ _ _ => C
    exact ⟨_, _, _, _, rfl, C, rfl, rfl⟩
  rintro h' tk' D ys l' ⟨rfl, rfl⟩ C
  repeat kbo_bools
  rename Cx _ _ _ _ _ _ => C
  refine iter_L C (C.get (by k_mem)) am.hh fun I h₄ T kp C => ?_
  refine compL T (fun i ys l => l = _ ∧ ys = []) C ⟨rfl, rfl⟩ ?_ (fun i ys D F Lc m' l h' j C => by obtain ⟨rfl, rfl⟩ := j; exact C.get (by k_mem)) ?_ ?_ (by decide) rfl rfl
  · rintro i ys l ⟨rfl, rfl⟩; simp
  · rintro i v ys l₁ Lc h₁ tk₁ m₁ D hi hv ⟨rfl, rfl⟩ hm C
    obtain ⟨n', hn, t', rfl⟩ := zu.get' hv
    obtain ⟨q, hq', rfl⟩ := List.mem_map.mp (List.mem_of_getElem? hn)
    have p2' := p2 q hq'
    refine ifs1 ?_
    repeat kbo_bools
    rename Cx _ _ _ _ _ _ => C
    exact ⟨_, _, _, _, rfl, C, rfl, rfl⟩
  rintro h' tk' D ys l' ⟨rfl, rfl⟩ C
  repeat kbo_bools
  rename Cx _ _ _ _ _ _ => C
  replace C := C.drop (l' := (dz, DiO r) :: _) (by repeat (first | exact .refl _ | apply List.Sublist.cons))
  refine add_back_c (O := [33]) W C.G (am.mono (by decide)) (c2.now C (by k_mem) (by k_mem) (by k_mem)) (by show 1 + _ ≤ _; omega) fun r' ps' h₅ tk₅ kp5 hr' c3 e3 => ?_
  replace C := (C.mut kp5 hr' c3).swap3
  repeat kbo_bools
  rename Cx _ _ _ _ _ _ => C
  refine add_front_c (O := [63]) W C.G (am.mono (by decide)) (c1.now C (by k_mem) (by k_mem) (by k_mem)) (by show 1 + _ ≤ _; rw [f1]; omega) fun p' qs' h₅ tk₅ kp5 hp' c4 e4 => ?_
  replace C := C.mut kp5 hp' c4
  have l1 : (([63] : List UInt8).length + ps.flatten.length ≤ 1000000) := by show 1 + _ ≤ _; omega
  have l2 : (ps.flatten.length + ([33] : List UInt8).length ≤ 1000000) := by show _ + 1 ≤ _; omega
  repeat kbo_bools
  rename Cx _ _ _ _ _ _ => C
  refine is_c W C.G (am.mono (by decide)) (c4.now C (by k_mem) (by k_mem) (by k_mem)) (by rw [e4, f1]) fun h₅ tk₅ kp5 => ?_
  replace C := C.kp kp5
  repeat kbo_bools
  rename Cx _ _ _ _ _ _ => C
  refine is_c W C.G (am.mono (by decide)) (c3.now C (by k_mem) (by k_mem) (by k_mem)) e3 fun h₅ tk₅ kp5 => ?_
  replace C := C.kp kp5
  repeat kbo_bools
  rename Cx _ _ _ _ _ _ => C
  refine is_c W C.G (am.mono (by decide)) (chC C) rfl fun h₅ tk₅ kp5 => ?_
  replace C := C.kp kp5
  repeat kbo_bools
  rename Cx _ _ _ _ _ _ => C
  replace C := C.drop (l' := (L + 1 + 1, _) :: _) (by repeat (first | exact .refl _ | apply List.Sublist.cons))
  subst hR
  replace C := C.perm (l' := (305, TabO cs) :: ([_, _, _, _] ++ _)) List.perm_middle.symm
  refine' lamC (qual := "_law_packed_right.<locals>.<lambda>") ?hq C B hdc ?hcd ?hcl ?hdef ?_
  case hq => rfl
  case hcd => rfl
  case hcl => rfl
  case hdef => rfl
  intro f c' nw h₆ tk₆ hc' C
  repeat kbo_bools
  rename Cx _ _ _ _ _ _ => C
  refine refused_c (n := 12) W C.G (Around.frames_deeper hfr) (frames2 C (by intro q; cases q) rfl hk0 hf0 (mw := mw) (by kcj_m)) (am.mono (by decide)) (fn_at (C.get (.head _))) ?_ ?_
  · intro A' h₇ tk₇ ls' Q' E' am' hfr' kp7 G' FF' kE
    have hfn := kp7.has List.not_mem_nil (C.get (.head _))
    have hcd := kp7.has List.not_mem_nil (C.get (a := c') (φ := CdO "_law_packed_right.<locals>.<lambda>") (by
      rcases List.mem_append.mp hc' with z | z
      · exact .tail _ (.tail _ (List.mem_append_left _ (List.mem_map.mpr ⟨_, z, rfl⟩)))
      · exact .tail _ (.tail _ (List.mem_append_right _ (List.mem_append_right _ (List.mem_map.mpr ⟨_, z, rfl⟩))))))
    have hce := kp7.has List.not_mem_nil (C.get (a := L + 1) (φ := CeO (some (.ref x))) (by kcj_m))
    have hx1 := kp7.has List.not_mem_nil (C.old hx)
    have hd1 := kp7.has List.not_mem_nil (C.old hd')
    refine' lamR W G' hfr' FF' am' hfn hcd ?_ ?_ kE ?_ ?_ ?_ ?_
    · intro pm ctv; rfl
    · intro h₈ L' tk₈ C' am'' hfr'' FF''
      clear C
      repeat kbo_bools
      exact packed_r W C'.G hfr'' (FF'' _ _ _ C') (am''.mono (by decide)) (by decide) fun v s' fl => ⟨_, _, _, C', .inl fl⟩
    · rfl
    · rfl
    · rfl
    · decide
  · intro h₇ tk₇ kp7 up7
    have kp8 : Kp [L, Lw] h₆ h₇ := kp7.mono (by simp [frs, hf0])
    replace C := C.slots kp8 up7 (mw := mw) (by kcj_m)
    repeat kbo_bools
    have C' : Cx base hid L _ _ (handed a Lw 305 mw "_law_packed_right.<locals>.<lambda>" (nw ++ cs)) := (lams1 (X := [_, _, _, _]) C.drop1).drop (.cons _ (.cons _ (.refl _)))
    obtain ⟨r1, r2, r3⟩ := C'.home hhid (Y := handed a Lw 305 mw "_law_packed_right.<locals>.<lambda>" (nw ++ cs)) (fun p hp => hp) C'.D
    exact k (nw ++ cs) _ _ r1 r2 r3
end
-- G4
--4 the steps of MAC3 and MAC4 too
section
variable {prog : Program} {w : World} {A : Around} {E : Value → Shared → Prop} {base h₀ h : Heap} {g : Array GenState} {d : Drawn} {tk : Nat} {os : OsState}
variable {x dx l L Lw a b y dy q₁ s f c' : Addr} {m mw : Str → Option Value} {fs : List Fact} {ps qs : List (List UInt8)} {Q : Value → Shared → Prop} {at_ size many : Int} {u u' u'' : Tok} {O F : List UInt8} {vs : List Value} {ns : List Int} {ls : List Env} {e0 : Env} {cs : List Addr}

theorem last_L {value slice : PySem.Expr} {v : Value} {t : Tok} {Q : Value → Shared → Prop} (x : Has h (a, LsO (vs ++ [v]))) (hz : vs.length ≤ 1000000) (q : Q v ⟨h, g, d, tk, os⟩)
    (hs : subscripted slice false (.ref a) (.int (-1) t) = operate [.ref a, .int (-1) t] (getItem (.ref a) (.int (-1) t)) := by with_unfolding_all rfl) :
    wpAny (model prog w) A (subscriptTail value slice (.ref a) (.int (-1) t)) Q E ⟨h, g, d, tk, os⟩ :=
  tail_any (s := ⟨h, g, d, tk, os⟩) (has_list x).typeIs slot_list_getitem.lookup (wpAny_getItem_list_neg (s := ⟨h, g, d, tk, os⟩) (has_list x) (by decide) (by simp; omega) (by decide) (by simp; rw [show (-1 + ((vs.length : Int) + 1)).toNat = vs.length by omega]; simp) q) hs

inductive CutR (ps : List (List UInt8)) (x a L : Addr) (R : List Fact) (u : Tok) (i : Nat) (m : Str → Option Value) (f : List Fact) : Prop
  | mk (h0 : i ≤ 3) (sl : Addr) (ns : List Int) (us : List Value) (lf : Int) (t : Tok) (h1 : f = (sl, LsO us) :: (L + 1 + 1, CeO (some (.ref sl))) :: (L + 1, CeO (some (.ref x))) :: (a, Src) :: R) (h2 : All2 IsI ns us) (h3 : ns.length = i) (h4 : ∀ n ∈ ns, 0 ≤ n) (h5 : m "left" = some (.int lf t)) (h6 : 0 ≤ lf) (h7 : ns.sum + lf = ps.flatten.length) (h8 : m "source" = some (.ref a)) (h9 : m "whole" = some (.bytes ps.flatten.toArray u))
inductive CutT (ns : List Int) (pl : Addr) (ps : List (List UInt8)) (u : Tok) (l₀ : List Fact) (i : Nat) (m : Str → Option Value) (f : List Fact) : Prop
  | mk (h0 : f = l₀) (t : Tok) (h1 : m "at" = some (.int (ns.take i).sum t)) (h2 : m "pieces" = some (.ref pl)) (h3 : m "whole" = some (.bytes ps.flatten.toArray u))
theorem cut_right_c (W : Wd w base) (B : Bm base) (hdc : CodeHd base 314 310) (G : base.StaysIn h) (am : Amb A 20) (hfr : A.frames = some [e0]) (hf0 : e0.frame = some Lw) (hk0 : e0.scope.kind ≠ .module)
    (c : Ch base h x dx l ps) (e : ps.flatten = F) (hF : F.length ≤ 800) (hT : ∀ p ∈ handed a Lw 310 mw "_law_cut_right.<locals>.<lambda>" cs, base.get? p.1 = none ∧ Has h p) (hD : ((handed a Lw 310 mw "_law_cut_right.<locals>.<lambda>" cs).map (·.1)).Nodup)
    (nx : x ∉ (handed a Lw 310 mw "_law_cut_right.<locals>.<lambda>" cs).map (·.1)) (nd : dx ∉ (handed a Lw 310 mw "_law_cut_right.<locals>.<lambda>" cs).map (·.1)) (nl : l ∉ (handed a Lw 310 mw "_law_cut_right.<locals>.<lambda>" cs).map (·.1))
    (k : ∀ cs' h' tk', Kp ((handed a Lw 310 mw "_law_cut_right.<locals>.<lambda>" cs).map (·.1)) h h' → (∀ p ∈ handed a Lw 310 mw "_law_cut_right.<locals>.<lambda>" cs', (p.1 ∈ (handed a Lw 310 mw "_law_cut_right.<locals>.<lambda>" cs).map (·.1) ∨ h.get? p.1 = none) ∧ Has h' p) →
      ((handed a Lw 310 mw "_law_cut_right.<locals>.<lambda>" cs').map (·.1)).Nodup → Q (.bool true) ⟨h', g, d, tk', os⟩) :
    wpAny (model prog w) A (call (.ref 315) [.ref a, .ref x, .bytes F.toArray u]) Q E ⟨h, g, d, tk, os⟩ := by
  subst e
  have hx := has_hide c.ix nx
  have hd' := has_hide c.id nd
  have hl := has_hide c.il nl
  have hz := c.sz
  have hz' : ps.flatten.length ≤ 1000000 := by omega
  refine' callC W G (handed a Lw 310 mw "_law_cut_right.<locals>.<lambda>" cs) hT hD am ?ho ?hcd ?hbind ?hloc ?hnd ?_ ?h1 ?h2 ?h3
  (case ho => k_is); (case hcd => k_is); (case hbind => exact rfl); (case hloc => exact rfl); (case hnd => decide); (case h1 => rfl); (case h2 => rfl); (case h3 => rfl)
  intro h₁ L tk₁ C am
  generalize hhid : hideAll h ((handed a Lw 310 mw "_law_cut_right.<locals>.<lambda>" cs).map (·.1)) = hid at *
  obtain ⟨R, hR, C⟩ : ∃ R : List Fact, ((Lw, FrO mw) :: (310, TabO cs) :: cs.map fun c => ((c, CdO "_law_cut_right.<locals>.<lambda>") : Fact)) = R ∧ Cx base hid L h₁ _ ((L + 1 + 1, CeO none) :: (L + 1, CeO (some (.ref x))) :: (a, Src) :: R) := ⟨_, rfl, C⟩
  obtain ⟨m₀, hm1, hm2, C⟩ : ∃ m₀ : Str → Option Value, m₀ "source" = some (.ref a) ∧ m₀ "whole" = some (.bytes ps.flatten.toArray u) ∧ Cx base hid L h₁ m₀ ((L + 1 + 1, CeO none) :: (L + 1, CeO (some (.ref x))) :: (a, Src) :: R) := ⟨_, rfl, rfl, C⟩
  have chC : ∀ {h₂ m f}, Cx base hid L h₂ m f → Ch base h₂ x dx l ps := fun C => ⟨c.bx, c.bd, c.bl, C.old hx, C.old hd', C.old hl, c.ne, c.sz⟩
  repeat kbo_bools
  rename Cx _ _ _ _ _ _ => C
  refine iter_R C (C.get (List.Mem.head _)) am.hh (by decide) (by decide) (by omega) (by omega) fun I h₂ T C => ?_
  replace C := C.drop2.drop2
  refine forI T (CutR ps x a L R u) C
    ⟨by omega, _, [], [], _, _, rfl, .nil, rfl, by simp, rfl, by omega, by simp, by k_updF, by k_updF⟩ (fun i m l h' _ C => trivial) ?_ ?_ rfl rfl rfl
  · rintro i v m₁ l₁ h₁ tk₁ hi ⟨ti, rfl⟩ ⟨hi3, sl, ns, us, lf, t, rfl, zu, ln, pos, ml, lf0, sum, ms, mw'⟩ C K kn kr
    have lus : us.length ≤ 1000000 := by rw [zu.length]; omega
    have sp := sum_pos pos
    repeat kbo_bools
    rename_i n t' _ _ n0 n1 _ C
    refine last_L (C.get (by k_mem)) lus ?_
    repeat kbo_bools
    rename Cx _ _ _ _ _ _ => C
    have hi3' : i < 3 := by omega
    refine kn _ ⟨_, _, _, _, rfl, C, by omega, sl, ns ++ [n], _, _, _, rfl, zu.snoc ⟨_, rfl⟩, by simp [ln], ?_, rfl, by omega, ?_, by k_updF, by k_updF⟩
    · intro q hq
      rcases List.mem_append.mp hq with z | z
      · exact pos q z
      · rw [List.mem_singleton.mp z]; exact n0
    · rw [List.sum_append, List.sum_cons, List.sum_nil]; omega
  · rintro h' tk' m' l' ⟨hi3, sl, ns, us, lf, t, rfl, zu, ln, pos, ml, lf0, sum, ms, mw'⟩ C
    have sp := sum_pos pos
    have lus : us.length ≤ 10 := by rw [zu.length]; omega
    kbo_bools
    refine wpAny_mono (Q := fun f s' => f = .next ∧ ∃ nw h₂ tk₂, s' = ⟨h₂, g, d, tk₂, os⟩ ∧ Cx base hid L h₂ m' ((sl, LsO us) :: (L + 1 + 1, CeO (some (.ref sl))) :: (L + 1, CeO (some (.ref x))) :: (a, Src) :: (Lw, FrO mw) :: (310, TabO (nw ++ cs)) :: (nw ++ cs).map fun c => (c, CdO "_law_cut_right.<locals>.<lambda>"))) ?_ ?_ (fun _ _ x => x)
    · repeat kbo_bools
      refine ifD (fun pl => ?_) (fun pl => ?_)
      · repeat kbo_bools
        rename Cx _ _ _ _ _ _ => C
        subst hR
        replace C := C.perm (l' := (310, TabO cs) :: ([_, _, _, _, _] ++ _)) List.perm_middle.symm
        refine' lamC (qual := "_law_cut_right.<locals>.<lambda>") ?hq C B hdc ?hcd ?hcl ?hdef ?_
        case hq => rfl
        case hcd => rfl
        case hcl => rfl
        case hdef => rfl
        intro f c' nw h₆ tk₆ hc' C
        repeat kbo_bools
        rename Cx _ _ _ _ _ _ => C
        refine refused_c (n := 12) W C.G (Around.frames_deeper hfr) (frames2 C (by intro q; cases q) rfl hk0 hf0 (mw := mw) (by kcj_m)) (am.mono (by decide)) (fn_at (C.get (.head _))) ?_ ?_
        · intro A' h₇ tk₇ ls' Q' E' am' hfr' kp7 G' FF' kE
          have hfn := kp7.has List.not_mem_nil (C.get (.head _))
          have hcd := kp7.has List.not_mem_nil (C.get (a := c') (φ := CdO "_law_cut_right.<locals>.<lambda>") (by
            rcases List.mem_append.mp hc' with z | z
            · exact .tail _ (.tail _ (List.mem_append_left _ (List.mem_map.mpr ⟨_, z, rfl⟩)))
            · exact .tail _ (.tail _ (List.mem_append_right _ (List.mem_append_right _ (List.mem_map.mpr ⟨_, z, rfl⟩))))))
          have hce := kp7.has List.not_mem_nil (C.get (a := L + 1) (φ := CeO (some (.ref x))) (by kcj_m))
          have hce2 := kp7.has List.not_mem_nil (C.get (a := L + 1 + 1) (φ := CeO (some (.ref sl))) (by kcj_m))
          have hsl := kp7.has List.not_mem_nil (LR_of (C.get (a := sl) (φ := LsO us) (by kcj_m)) zu)
          have hx1 := kp7.has List.not_mem_nil (C.old hx)
          have hd1 := kp7.has List.not_mem_nil (C.old hd')
          have ch1 := (chC C).kp0 kp7
          refine' lamR W G' hfr' FF' am' hfn hcd ?_ ?_ kE ?_ ?_ ?_ ?_
          · intro pm ctv; rfl
          · intro h₈ L' tk₈ C' am'' hfr'' FF''
            clear C
            repeat kbo_bools
            exact cut_up_r W C'.G hfr'' (FF'' _ _ _ C') (am''.mono (by decide)) (ch1.old C') (C'.old hsl) pos (by omega) fun v s' fl => ⟨_, _, _, C', .inl fl⟩
          · rfl
          · rfl
          · rfl
          · decide
        · intro h₇ tk₇ kp7 up7
          have kp8 : Kp [L, Lw] h₆ h₇ := kp7.mono (by simp [frs, hf0])
          replace C := C.slots kp8 up7 (mw := mw) (by kcj_m)
          repeat kbo_bools
          exact ⟨rfl, nw, _, _, rfl, lams1 (X := [_, _, _, _, _]) C.drop1⟩
      · repeat kbo_bools
        subst hR
        exact ⟨rfl, [], _, _, rfl, C⟩
    · rintro f s' ⟨rfl, nw, h₂, tk₂, rfl, C⟩
      obtain ⟨R', hR', C⟩ : ∃ R' : List Fact, ((Lw, FrO mw) :: (310, TabO (nw ++ cs)) :: (nw ++ cs).map fun c => ((c, CdO "_law_cut_right.<locals>.<lambda>") : Fact)) = R' ∧ Cx base hid L h₂ m' ((sl, LsO us) :: (L + 1 + 1, CeO (some (.ref sl))) :: (L + 1, CeO (some (.ref x))) :: (a, Src) :: R') := ⟨_, rfl, C⟩
      repeat kbo_bools
      rename_i a1 _ s2 _ t1 _ _ _ _ C
      have z2 : All2 IsI (ns ++ [lf]) (us ++ [.int lf t]) := zu.snoc ⟨_, rfl⟩
      have pos2 : ∀ n ∈ ns ++ [lf], 0 ≤ n := fun q hq => by
        rcases List.mem_append.mp hq with z | z
        · exact pos q z
        · rw [List.mem_singleton.mp z]; exact lf0
      have sum2 : (ns ++ [lf]).sum = ps.flatten.length := by rw [List.sum_append, List.sum_cons, List.sum_nil]; omega
      have len2 : (ns ++ [lf]).length ≤ 10 := by rw [List.length_append]; simp; omega
      have lus2 := z2.length
      refine cut_up_c W C.G (am.mono (by decide)) (chC C) (LR_of (C.get (by k_mem)) z2) (by omega) pos2 sum2 fun pl css h₃ tk₃ kp3 new nd good eqs => ?_
      replace C := C.addAll kp3 _ new nd
      have hmem : ∀ cc ∈ css, (cc.1, InO cc.2.1) ∈ ents css ∧ (cc.2.1, DiO cc.2.2.1) ∈ ents css ∧ (cc.2.2.1, LB cc.2.2.2) ∈ ents css := fun cc hcc =>
        ⟨List.mem_flatMap.mpr ⟨cc, hcc, by simp [ent]⟩, List.mem_flatMap.mpr ⟨cc, hcc, by simp [ent]⟩, List.mem_flatMap.mpr ⟨cc, hcc, by simp [ent]⟩⟩
      have lcs : css.length = (ns ++ [lf]).length := by have := congrArg List.length eqs; rwa [List.length_map, segs_len] at this
      have lrs : (refs css).length = css.length := List.length_map _
      replace C := C.perm (l' := (pl, LsO (refs css)) :: (_ ++ ents css)) (List.Perm.cons _ List.perm_append_comm)
      simp only [List.cons_append] at C
      repeat kbo_bools
      rename_i r _ _ C
      refine iter_R C (C.get (List.Mem.head _)) am.hh (by decide) (by decide) (by omega) (by omega) fun I h₄ T C => ?_
      replace C := C.drop2
      refine forI T (CutT (ns ++ [lf]) pl ps u _) C ⟨rfl, _, rfl, rfl, by k_updF⟩ (fun i m l h' _ C => trivial) ?_ ?_ rfl rfl rfl
      · rintro i v m₁ l₁ h₁ tk₁ hi ⟨ti, rfl⟩ ⟨rfl, ta, ma, mp, mwh⟩ C K kn kr
        have hi' : i < css.length := by omega
        have hn : (ns ++ [lf])[i]? = some ((ns ++ [lf])[i]'(by omega)) := List.getElem?_eq_getElem (by omega)
        generalize (ns ++ [lf])[i]'(by omega) = n at hn
        obtain ⟨_, hvi, tn, rfl⟩ := z2.get hn
        have hcc : css[i]? = some css[i] := List.getElem?_eq_getElem hi'
        generalize css[i] = cc at hcc
        have hcm := List.mem_of_getElem? hcc
        obtain ⟨m1, m2, m3⟩ := hmem cc hcm
        have ei : ((0 : Int) + (i : Nat)).toNat = i := by omega
        have hv1 : (refs css)[((0 : Int) + (i : Nat)).toNat]? = some (.ref cc.1) := by rw [ei]; unfold refs; rw [List.getElem?_map, hcc]; rfl
        have hv2 : (us ++ [Value.int lf t])[((0 : Int) + (i : Nat)).toNat]? = some (.int n tn) := by rw [ei]; exact hvi
        have fl : cc.flat = (ps.flatten.drop ((ns ++ [lf]).take i).sum.toNat).take n.toNat := by
          have e1 := congrArg (fun X : List (List UInt8) => X[i]?) eqs
          simp only [List.getElem?_map, hcc, segs_get pos2 hn] at e1
          exact Option.some.inj e1
        have b1 := sum_le pos2 i
        have n0 := pos2 n (List.mem_of_getElem? hn)
        have ec : cut ps.flatten (some ((ns ++ [lf]).take i).sum) (some (((ns ++ [lf]).take i).sum + n)) = cc.flat := by
          rw [fl]
          generalize hS : ((ns ++ [lf]).take i).sum = S at *
          rw [show S = ((S.toNat : Nat) : Int) by omega, show ((S.toNat : Nat) : Int) + n = ((S.toNat + n.toNat : Nat) : Int) by omega, cut_run, Nat.add_sub_cancel_left, Int.toNat_natCast]
        repeat kbo_bools
        rename Cx _ _ _ _ _ _ => C
        have g1 := good cc hcm
        have big : ∀ p ∈ ents css, Has _ p ∧ base.get? p.1 = none := fun p hp => by
          have hp' := C.N p (by kcj_m)
          refine ⟨hp'.2.2, ?_⟩
          cases q : base.get? p.1 with
          | none => rfl
          | some o => have := C.B _ _ q; rw [hp'.2.1] at this; cases this
        refine is_c W C.G (am.mono (by decide)) ⟨(big _ m1).2, (big _ m2).2, (big _ m3).2, (big _ m1).1, (big _ m2).1, (big _ m3).1, g1.1, g1.2⟩ ec.symm fun h₅ tk₅ kp5 => ?_
        replace C := C.kp kp5
        repeat kbo_bools
        rename Cx _ _ _ _ _ _ => C
        exact kn _ ⟨_, _, _, _, rfl, C, rfl, _, by rw [sum_take hn]; rfl, by k_updF, by k_updF⟩
      · rintro h' tk' m' l' ⟨rfl, ta, ma, mp, mwh⟩ C
        have lus3 : (us ++ [Value.int lf t]).length ≤ 1000000 := by omega
        have lrs3 : (refs css).length ≤ 1000000 := by omega
        repeat kbo_bools
        have nb : ∀ p, (p ∈ ents css) → base.get? p.1 = none := fun p hp => by
          have hp' := C.N p (by kcj_m)
          cases q : base.get? p.1 with
          | none => rfl
          | some o => have := C.B _ _ q; rw [hp'.2.1] at this; cases this
        have chs : ∀ {h₉ : Heap}, (∀ p ∈ ents css, Has h₉ p) → Chs base h₉ css := fun {h₉} big cc hcc => by
          obtain ⟨m1, m2, m3⟩ := hmem cc hcc
          have g1 := good cc hcc
          exact ⟨nb _ m1, nb _ m2, nb _ m3, big _ m1, big _ m2, big _ m3, g1.1, g1.2⟩
        have fsum : (css.map CH.flat).flatten = ps.flatten := by rw [eqs, segs_flat pos2 sum2]
        refine joined_c (cs := css) W C.G (am.mono (by decide)) (chs fun p hp => (C.N p (by kcj_m)).2.2) (C.get (.head _)) (by omega) (by rw [fsum]; omega) fun y dy p qs h₅ tk₅ kp5 k1 k2 k3 c5 e5 => ?_
        replace C := C.addCh kp5 k1 k2 k3 c5
        repeat kbo_bools
        rename Cx _ _ _ _ _ _ => C
        refine is_c W C.G (am.mono (by decide)) (c5.now C (by k_mem) (by k_mem) (by k_mem)) (e5.trans fsum) fun h₅ tk₅ kp5 => ?_
        replace C := C.kp kp5
        repeat kbo_bools
        rename Cx _ _ _ _ _ _ => C
        refine is_c W C.G (am.mono (by decide)) (chC C) rfl fun h₅ tk₅ kp5 => ?_
        replace C := C.kp kp5
        repeat kbo_bools
        subst hR'
        have C' : Cx base hid L _ _ (handed a Lw 310 mw "_law_cut_right.<locals>.<lambda>" (nw ++ cs)) := C.drop (by
          repeat (first | exact List.sublist_append_left _ _ | apply List.Sublist.cons))
        obtain ⟨r1, r2, r3⟩ := C'.home hhid (Y := handed a Lw 310 mw "_law_cut_right.<locals>.<lambda>" (nw ++ cs)) (fun p hp => hp) C'.D
        exact k (nw ++ cs) _ _ r1 r2 r3
end
-- G5
--4 the steps of MAC3 and MAC4 too
section
variable {base h₀ h h' : Heap} {L Lw Lc : Addr} {m m₁ mw : Str → Option Value} {l l' : List Fact}
/-- the slots of frames laid aside may have changed -/
theorem Cx.slots2 (C : Cx base h₀ Lc h m l) (k : Kp [L, Lw] h h') (up : h.UpToSlots h') (h1 : (L, FrO m₁) ∈ l) (h2 : (Lw, FrO mw) ∈ l) : Cx base h₀ Lc h' m l := by
  have n1 := C.N _ h1
  have n2 := C.N _ h2
  refine ⟨⟨up.ns C.F.ns, fun b o e => k b o (fun q => ?_) (C.F.keep b o e), C.F.above⟩, fun p hp => ?_, C.D, C.B⟩
  · simp only [List.mem_cons, List.not_mem_nil, or_false] at q
    rcases q with rfl | rfl
    · rw [n1.2.1] at e; cases e
    · rw [n2.2.1] at e; cases e
  · have n := C.N p hp
    refine ⟨n.1, n.2.1, ?_⟩
    obtain ⟨b, φ⟩ := p
    by_cases q : b = Lw
    · subst q
      rw [nodup_eq C.D hp h2]
      exact fr_has (up.ns (has_fr (C.get h2)))
    · by_cases q' : b = L
      · subst q'
        rw [nodup_eq C.D hp h1]
        exact fr_has (up.ns (has_fr (C.get h1)))
      · exact k.has (by simp; exact ⟨q', q⟩) n.2.2
theorem frames3 {env e0 : Env} (C : Cx base h₀ Lc h m l) (hk : env.scope.kind ≠ .module) (hf : env.frame = some L) (hk0 : e0.scope.kind ≠ .module) (hf0 : e0.frame = some Lw) (h1 : (L, FrO m₁) ∈ l) (h2 : (Lw, FrO mw) ∈ l) : h.FunFrames base [env, e0] :=
  Heap.FunFrames.cons hk hf (has_fr (C.get h1)) (C.nobase h1) (Heap.FunFrames.cons hk0 hf0 (has_fr (C.get h2)) (C.nobase h2) trivial)
end
def handedR (Lw P : Addr) (mw : Str → Option Value) (qual : Str) (cs : List Addr) : List Fact := (Lw, FrO mw) :: tabL P qual cs
section
variable {prog : Program} {w : World} {A : Around} {E : Value → Shared → Prop} {base h₀ h : Heap} {g : Array GenState} {d : Drawn} {tk : Nat} {os : OsState}
variable {x dx l L Lw a b y dy q₁ s f c' : Addr} {m mw : Str → Option Value} {fs : List Fact} {ps qs : List (List UInt8)} {Q : Value → Shared → Prop} {at_ size many : Int} {u u' u'' : Tok} {O F : List UInt8} {vs : List Value} {ns : List Int} {ls : List Env} {e0 : Env} {cs : List Addr}

theorem lams6 {h₀ h : Heap} {qual : Str} {n1 n2 n3 n4 n5 n6 : List Addr} {u v z p : Fact} (C : Cx base h₀ L h m (p :: (n6.map (fun c => (c, CdO qual)) ++ (n5.map (fun c => (c, CdO qual)) ++ (n4.map (fun c => (c, CdO qual)) ++ (n3.map (fun c => (c, CdO qual)) ++ (n2.map (fun c => (c, CdO qual)) ++ (n1.map (fun c => (c, CdO qual)) ++ ([u, v, z] ++ cs.map (fun c => (c, CdO qual))))))))))) :
    Cx base h₀ L h m (u :: v :: z :: p :: (n6 ++ (n5 ++ (n4 ++ (n3 ++ (n2 ++ (n1 ++ cs)))))).map (fun c => (c, CdO qual))) := by
  refine C.perm ?_
  have e : ∀ X Y : List Fact, ([u, v, z] ++ p :: (X ++ Y)).Perm (p :: (X ++ ([u, v, z] ++ Y))) := fun X Y => List.perm_middle.trans (.cons _ (List.perm_append_comm_assoc _ _ _))
  have := e (n6.map (fun c => (c, CdO qual)) ++ (n5.map (fun c => (c, CdO qual)) ++ (n4.map (fun c => (c, CdO qual)) ++ (n3.map (fun c => (c, CdO qual)) ++ (n2.map (fun c => (c, CdO qual)) ++ n1.map (fun c => (c, CdO qual))))))) (cs.map (fun c => (c, CdO qual)))
  simpa only [List.map_append, List.append_assoc, List.cons_append, List.nil_append] using this
theorem refusals_right_c (W : Wd w base) (B : Bm base) (hdc : CodeHd base 333 331) (G : base.StaysIn h) (am : Amb A 20) (hfr : A.frames = some [e0]) (hf0 : e0.frame = some Lw) (hk0 : e0.scope.kind ≠ .module)
    (c : Ch base h x dx l ps) (e : ps.flatten = F) (hF : F.length ≤ 800) (hT : ∀ p ∈ handedR Lw 331 mw "_law_refusals_right.<locals>.<lambda>" cs, base.get? p.1 = none ∧ Has h p) (hD : ((handedR Lw 331 mw "_law_refusals_right.<locals>.<lambda>" cs).map (·.1)).Nodup)
    (nx : x ∉ (handedR Lw 331 mw "_law_refusals_right.<locals>.<lambda>" cs).map (·.1)) (nd : dx ∉ (handedR Lw 331 mw "_law_refusals_right.<locals>.<lambda>" cs).map (·.1)) (nl : l ∉ (handedR Lw 331 mw "_law_refusals_right.<locals>.<lambda>" cs).map (·.1))
    (k : ∀ cs' h' tk', Kp ((handedR Lw 331 mw "_law_refusals_right.<locals>.<lambda>" cs).map (·.1)) h h' → (∀ p ∈ handedR Lw 331 mw "_law_refusals_right.<locals>.<lambda>" cs', (p.1 ∈ (handedR Lw 331 mw "_law_refusals_right.<locals>.<lambda>" cs).map (·.1) ∨ h.get? p.1 = none) ∧ Has h' p) →
      ((handedR Lw 331 mw "_law_refusals_right.<locals>.<lambda>" cs').map (·.1)).Nodup → Q (.bool true) ⟨h', g, d, tk', os⟩) :
    wpAny (model prog w) A (call (.ref 334) [.ref x, .bytes F.toArray u]) Q E ⟨h, g, d, tk, os⟩ := by
  subst e
  have hx := has_hide c.ix nx
  have hd' := has_hide c.id nd
  have hl := has_hide c.il nl
  have hz := c.sz
  have hz' : ps.flatten.length ≤ 1000000 := by omega
  refine' callC W G (handedR Lw 331 mw "_law_refusals_right.<locals>.<lambda>" cs) hT hD am ?ho ?hcd ?hbind ?hloc ?hnd ?_ ?h1 ?h2 ?h3
  (case ho => k_is); (case hcd => k_is); (case hbind => exact rfl); (case hloc => exact rfl); (case hnd => decide); (case h1 => rfl); (case h2 => rfl); (case h3 => rfl)
  intro h₁ L tk₁ C am
  generalize hhid : hideAll h ((handedR Lw 331 mw "_law_refusals_right.<locals>.<lambda>" cs).map (·.1)) = hid at *
  obtain ⟨m₀, hm1, C⟩ : ∃ m₀ : Str → Option Value, m₀ "whole" = some (.bytes ps.flatten.toArray u) ∧ Cx base hid L h₁ m₀ ((L + 1 + 1, CeO none) :: (L + 1, CeO (some (.ref x))) :: (Lw, FrO mw) :: (331, TabO cs) :: cs.map fun c => (c, CdO "_law_refusals_right.<locals>.<lambda>")) := ⟨_, rfl, C⟩
  have chC : ∀ {h₂ L m f}, Cx base hid L h₂ m f → Ch base h₂ x dx l ps := fun C => ⟨c.bx, c.bd, c.bl, C.old hx, C.old hd', C.old hl, c.ne, c.sz⟩
  repeat kbo_bools
  rename Cx _ _ _ _ _ _ => C
  replace C := C.perm (l' := (331, TabO cs) :: ([_, _, _] ++ _)) List.perm_middle.symm
  obtain ⟨tc, φc, ec, C⟩ : ∃ tc φc, CeO (some (.int (ps.flatten.length : Nat) tc)) = φc ∧ Cx base hid L _ _ ((331, TabO cs) :: ([(L + 1 + 1, φc), (L + 1, CeO (some (.ref x))), (Lw, FrO mw)] ++ _)) := ⟨_, _, rfl, C⟩
  refine' lamC (qual := "_law_refusals_right.<locals>.<lambda>") ?hq C B hdc ?hcd ?hcl ?hdef ?_
  case hq => rfl
  case hcd => rfl
  case hcl => rfl
  case hdef => rfl
  clear C
  intro f1 c1 n1 h₂ tk₂ hc1 C
  generalize e1 : FnO _ _ _ _ _ c1 = φ1 at C
  replace C := C.perm (List.Perm.swap _ _ _)
  repeat kbo_bools
  refine' lamC (qual := "_law_refusals_right.<locals>.<lambda>") ?hq C B hdc ?hcd ?hcl ?hdef ?_
  case hq => rfl
  case hcd => rfl
  case hcl => rfl
  case hdef => rfl
  clear C
  intro f2 c2 n2 h₂ tk₂ hc2 C
  generalize e2 : FnO _ _ _ _ _ c2 = φ2 at C
  replace C := C.perm (List.Perm.swap _ _ _)
  repeat kbo_bools
  refine' lamC (qual := "_law_refusals_right.<locals>.<lambda>") ?hq C B hdc ?hcd ?hcl ?hdef ?_
  case hq => rfl
  case hcd => rfl
  case hcl => rfl
  case hdef => rfl
  clear C
  intro f3 c3 n3 h₂ tk₂ hc3 C
  generalize e3 : FnO _ _ _ _ _ c3 = φ3 at C
  replace C := C.perm (List.Perm.swap _ _ _)
  repeat kbo_bools
  rename Cx _ _ _ _ _ _ => C
  replace C := C.perm (List.Perm.swap _ _ _)
  refine' lamC (qual := "_law_refusals_right.<locals>.<lambda>") ?hq C B hdc ?hcd ?hcl ?hdef ?_
  case hq => rfl
  case hcd => rfl
  case hcl => rfl
  case hdef => rfl
  clear C
  intro f4 c4 n4 h₂ tk₂ hc4 C
  generalize e4 : FnO _ _ _ _ _ c4 = φ4 at C
  replace C := C.perm (List.Perm.swap _ _ _)
  repeat kbo_bools
  refine' lamC (qual := "_law_refusals_right.<locals>.<lambda>") ?hq C B hdc ?hcd ?hcl ?hdef ?_
  case hq => rfl
  case hcd => rfl
  case hcl => rfl
  case hdef => rfl
  clear C
  intro f5 c5 n5 h₂ tk₂ hc5 C
  generalize e5 : FnO _ _ _ _ _ c5 = φ5 at C
  replace C := C.perm (List.Perm.swap _ _ _)
  repeat kbo_bools
  refine' lamC (qual := "_law_refusals_right.<locals>.<lambda>") ?hq C B hdc ?hcd ?hcl ?hdef ?_
  case hq => rfl
  case hcd => rfl
  case hcl => rfl
  case hdef => rfl
  clear C
  intro f6 c6 n6 h₂ tk₂ hc6 C
  generalize e6 : FnO _ _ _ _ _ c6 = φ6 at C
  replace C := C.perm (List.Perm.swap _ _ _)
  repeat kbo_bools
  rename Cx _ _ _ _ _ _ => C
  refine cat_L (vs := [.ref f1, .ref f2, .ref f3]) (us := [.ref f4, .ref f5, .ref f6]) C (C.get (by kcj_m)) (C.get (.head _)) (by simp) fun cl h₃ C => ?_
  repeat kbo_bools
  rename Cx _ _ _ _ _ _ => C
  refine iter_L C (C.get (.head _)) am.hh fun I h₄ T kp C => ?_
  refine compL T (fun i ys l => l = _ ∧ ys = []) C ⟨rfl, rfl⟩ ?_ (fun i ys D F Lc m' l h' j C => by obtain ⟨rfl, rfl⟩ := j; exact C.get (.tail _ (.tail _ (.tail _ (.head _))))) ?_ ?_ (by decide) rfl rfl
  · rintro i ys l ⟨rfl, rfl⟩; simp
  · rintro i v ys l₁ Lc h₁ tk₁ m₁ D hi hv ⟨rfl, rfl⟩ hm C
    have fl : ∃ f, v = .ref f ∧ FnAt f h₁ ∧ Flies prog w base h₁ g d os 12 f := by
      have hx0 := C.old hx
      have hd0 := C.old hd'
      have ch0 := chC C
      have cell1 := C.get (a := L + 1) (φ := CeO (some (.ref x))) (by kcj_m)
      have cell2 := C.get (a := L + 1 + 1) (φ := φc) (by kcj_m)
      rw [← ec] at cell2
      have cd : ∀ cc, cc ∈ n6 ++ (n5 ++ (n4 ++ (n3 ++ (n2 ++ (n1 ++ cs))))) → Has h₁ (cc, CdO "_law_refusals_right.<locals>.<lambda>") := fun cc hcc => C.get (by
        have hcc := List.mem_map_of_mem (f := fun c => ((c, CdO "_law_refusals_right.<locals>.<lambda>") : Fact)) hcc
        simp only [List.map_append] at hcc
        rcases List.mem_append.mp hcc with hcc | hcc
        · kcj_m
        rcases List.mem_append.mp hcc with hcc | hcc
        · kcj_m
        rcases List.mem_append.mp hcc with hcc | hcc
        · kcj_m
        rcases List.mem_append.mp hcc with hcc | hcc
        · kcj_m
        rcases List.mem_append.mp hcc with hcc | hcc
        · kcj_m
        rcases List.mem_append.mp hcc with hcc | hcc
        · kcj_m
        · kcj_m)
      rcases i with _ | _ | _ | _ | _ | _ | i
      · cases hv
        have hfn := C.get (a := f1) (φ := φ1) (by kcj_m)
        rw [← e1] at hfn
        have hcc := cd c1 (by kcj_m)
        refine ⟨f1, rfl, fn_at hfn, ?_⟩
        intro A' h₇ tk₇ ls' Q' E' am' hfr' kp7 G' FF' kE
        have hfn1 := kp7.has List.not_mem_nil hfn
        have hcc1 := kp7.has List.not_mem_nil hcc
        have hx1 := kp7.has List.not_mem_nil hx0
        have hd1 := kp7.has List.not_mem_nil hd0
        have ch1 := ch0.kp0 kp7
        have ce2 := kp7.has List.not_mem_nil cell2
        have ce1 := kp7.has List.not_mem_nil cell1
        refine' lamR W G' hfr' FF' am' hfn1 hcc1 ?_ ?_ kE ?_ ?_ ?_ ?_
        · intro pm ctv; rfl
        · intro h₈ L' tk₈ C' am'' hfr'' FF''
          clear C
          repeat kbo_bools
          exact drop_front_r W C'.G hfr'' (FF'' _ _ _ C') (am''.mono (by decide)) (ch1.old C') (by omega) fun v s' fl => ⟨_, _, _, C', .inl fl⟩
        · rfl
        · rfl
        · rfl
        · decide
      · cases hv
        have hfn := C.get (a := f2) (φ := φ2) (by kcj_m)
        rw [← e2] at hfn
        have hcc := cd c2 (by kcj_m)
        refine ⟨f2, rfl, fn_at hfn, ?_⟩
        intro A' h₇ tk₇ ls' Q' E' am' hfr' kp7 G' FF' kE
        have hfn1 := kp7.has List.not_mem_nil hfn
        have hcc1 := kp7.has List.not_mem_nil hcc
        have hx1 := kp7.has List.not_mem_nil hx0
        have hd1 := kp7.has List.not_mem_nil hd0
        have ch1 := ch0.kp0 kp7
        have ce2 := kp7.has List.not_mem_nil cell2
        have ce1 := kp7.has List.not_mem_nil cell1
        refine' lamR W G' hfr' FF' am' hfn1 hcc1 ?_ ?_ kE ?_ ?_ ?_ ?_
        · intro pm ctv; rfl
        · intro h₈ L' tk₈ C' am'' hfr'' FF''
          clear C
          repeat kbo_bools
          exact drop_back_r W C'.G hfr'' (FF'' _ _ _ C') (am''.mono (by decide)) (ch1.old C') (by omega) fun v s' fl => ⟨_, _, _, C', .inl fl⟩
        · rfl
        · rfl
        · rfl
        · decide
      · cases hv
        have hfn := C.get (a := f3) (φ := φ3) (by kcj_m)
        rw [← e3] at hfn
        have hcc := cd c3 (by kcj_m)
        refine ⟨f3, rfl, fn_at hfn, ?_⟩
        intro A' h₇ tk₇ ls' Q' E' am' hfr' kp7 G' FF' kE
        have hfn1 := kp7.has List.not_mem_nil hfn
        have hcc1 := kp7.has List.not_mem_nil hcc
        have hx1 := kp7.has List.not_mem_nil hx0
        have hd1 := kp7.has List.not_mem_nil hd0
        have ch1 := ch0.kp0 kp7
        have ce2 := kp7.has List.not_mem_nil cell2
        have ce1 := kp7.has List.not_mem_nil cell1
        refine' lamR W G' hfr' FF' am' hfn1 hcc1 ?_ ?_ kE ?_ ?_ ?_ ?_
        · intro pm ctv; rfl
        · intro h₈ L' tk₈ C' am'' hfr'' FF''
          clear C
          repeat kbo_bools
          exact split_r W C'.G hfr'' (FF'' _ _ _ C') (am''.mono (by decide)) (ch1.old C') (by omega) fun v s' fl => ⟨_, _, _, C', .inl fl⟩
        · rfl
        · rfl
        · rfl
        · decide
      · cases hv
        have hfn := C.get (a := f4) (φ := φ4) (by kcj_m)
        rw [← e4] at hfn
        have hcc := cd c4 (by kcj_m)
        refine ⟨f4, rfl, fn_at hfn, ?_⟩
        intro A' h₇ tk₇ ls' Q' E' am' hfr' kp7 G' FF' kE
        have hfn1 := kp7.has List.not_mem_nil hfn
        have hcc1 := kp7.has List.not_mem_nil hcc
        have hx1 := kp7.has List.not_mem_nil hx0
        have hd1 := kp7.has List.not_mem_nil hd0
        have ch1 := ch0.kp0 kp7
        have ce2 := kp7.has List.not_mem_nil cell2
        have ce1 := kp7.has List.not_mem_nil cell1
        refine' lamR W G' hfr' FF' am' hfn1 hcc1 ?_ ?_ kE ?_ ?_ ?_ ?_
        · intro pm ctv; rfl
        · intro h₈ L' tk₈ C' am'' hfr'' FF''
          clear C
          repeat kbo_bools
          exact put_r (O := [97]) W C'.G hfr'' (FF'' _ _ _ C') (am''.mono (by decide)) (ch1.old C') (by show ¬(_ ∧ _ + ((1 : Nat) : Int) ≤ _); omega) (by simp) fun v s' fl => ⟨_, _, _, C', .inl fl⟩
        · rfl
        · rfl
        · rfl
        · decide
      · cases hv
        have hfn := C.get (a := f5) (φ := φ5) (by kcj_m)
        rw [← e5] at hfn
        have hcc := cd c5 (by kcj_m)
        refine ⟨f5, rfl, fn_at hfn, ?_⟩
        intro A' h₇ tk₇ ls' Q' E' am' hfr' kp7 G' FF' kE
        have hfn1 := kp7.has List.not_mem_nil hfn
        have hcc1 := kp7.has List.not_mem_nil hcc
        have hx1 := kp7.has List.not_mem_nil hx0
        have hd1 := kp7.has List.not_mem_nil hd0
        have ch1 := ch0.kp0 kp7
        have ce2 := kp7.has List.not_mem_nil cell2
        have ce1 := kp7.has List.not_mem_nil cell1
        refine' lamR W G' hfr' FF' am' hfn1 hcc1 ?_ ?_ kE ?_ ?_ ?_ ?_
        · intro pm ctv; rfl
        · intro h₈ L' tk₈ C' am'' hfr'' FF''
          clear C
          repeat kbo_bools
          exact drop_front_r W C'.G hfr'' (FF'' _ _ _ C') (am''.mono (by decide)) (ch1.old C') (by omega) fun v s' fl => ⟨_, _, _, C', .inl fl⟩
        · rfl
        · rfl
        · rfl
        · decide
      · cases hv
        have hfn := C.get (a := f6) (φ := φ6) (by kcj_m)
        rw [← e6] at hfn
        have hcc := cd c6 (by kcj_m)
        refine ⟨f6, rfl, fn_at hfn, ?_⟩
        intro A' h₇ tk₇ ls' Q' E' am' hfr' kp7 G' FF' kE
        have hfn1 := kp7.has List.not_mem_nil hfn
        have hcc1 := kp7.has List.not_mem_nil hcc
        have hx1 := kp7.has List.not_mem_nil hx0
        have hd1 := kp7.has List.not_mem_nil hd0
        have ch1 := ch0.kp0 kp7
        have ce2 := kp7.has List.not_mem_nil cell2
        have ce1 := kp7.has List.not_mem_nil cell1
        refine' lamR W G' hfr' FF' am' hfn1 hcc1 ?_ ?_ kE ?_ ?_ ?_ ?_
        · intro pm ctv; rfl
        · intro h₈ L' tk₈ C' am'' hfr'' FF''
          clear C
          repeat kbo_bools
          exact find_r W C'.G hfr'' (FF'' _ _ _ C') (am''.mono (by decide)) (by omega) fun v s' fl => ⟨_, _, _, C', .inl fl⟩
        · rfl
        · rfl
        · rfl
        · decide
      · exact absurd hi (by show ¬(_ < 6); omega)
    obtain ⟨f, rfl, fa, fl⟩ := fl
    refine ifs1 ?_
    repeat kbo_bools
    rename Cx _ _ _ _ _ _ => C
    refine refused_c (n := 12) W C.G (Around.frames_deeper hfr) (frames3 C (by intro q; cases q) rfl hk0 hf0 (.tail _ (.tail _ (.head _))) (mw := mw) (by kcj_m)) (am.mono (by decide)) fa fl fun h₇ tk₇ kp7 up7 => ?_
    have kp8 : Kp [L, Lw] h₁ h₇ := kp7.mono (by simp [frs, hf0])
    replace C := C.slots2 kp8 up7 (.tail _ (.tail _ (.head _))) (mw := mw) (by kcj_m)
    repeat kbo_bools
    exact ⟨_, _, _, _, rfl, C, rfl, rfl⟩
  rintro h' tk' D ys l' ⟨rfl, rfl⟩ C
  repeat kbo_bools
  rename Cx _ _ _ _ _ _ => C
  replace C := lams6 (p := (331, TabO (n6 ++ (n5 ++ (n4 ++ (n3 ++ (n2 ++ (n1 ++ cs)))))))) (C.drop (by
    repeat (first | exact .refl _ | apply List.Sublist.cons_cons | apply List.Sublist.append (.refl _) | apply List.Sublist.cons)))
  repeat kbo_bools
  rename Cx _ _ _ _ _ _ => C
  refine is_c W C.G (am.mono (by decide)) (chC C) rfl fun h₅ tk₅ kp5 => ?_
  replace C := C.kp kp5
  repeat kbo_bools
  have D := C.D
  obtain ⟨r1, r2, r3⟩ := C.home hhid (Y := handedR Lw 331 mw "_law_refusals_right.<locals>.<lambda>" (n6 ++ (n5 ++ (n4 ++ (n3 ++ (n2 ++ (n1 ++ cs))))))) (fun p hp => .tail _ (.tail _ hp)) (D.sublist ((List.Sublist.cons _ (List.Sublist.cons _ (.refl _))).map _))
  exact k _ _ _ r1 r2 r3
end
-- G6
--4 the steps of MAC3 and MAC4 too
section
variable {prog : Program} {w : World} {A : Around} {E : Value → Shared → Prop} {base h₀ h : Heap} {g : Array GenState} {d : Drawn} {tk : Nat} {os : OsState}
variable {x dx l L Lw a b y dy q₁ s f c' : Addr} {m mw : Str → Option Value} {fs : List Fact} {ps qs : List (List UInt8)} {Q : Value → Shared → Prop} {at_ size many : Int} {u u' u'' : Tok} {O F : List UInt8} {vs : List Value} {ns : List Int} {ls : List Env} {e0 : Env} {cs : List Addr}

theorem stmt_cut {h₁ : Heap} {t : Sem Flow} {Q : Flow → Shared → Prop} {s : Shared} (C : Cx base h₀ L h₁ m fs) (first : wpAny (model prog w) A t (fun f s' => f = .next ∧ ∃ h₂ tk₂, s' = ⟨h₂, g, d, tk₂, os⟩ ∧ Cx base h₀ L h₂ m fs) (fun _ _ => False) s)
    (rest : ∀ h₂ tk₂, Cx base h₀ L h₂ m fs → Q .next ⟨h₂, g, d, tk₂, os⟩) : wpAny (model prog w) A t Q E s :=
  wpAny_mono first (fun f s' ⟨e, h₂, tk₂, e2, C⟩ => by subst e e2; exact rest h₂ tk₂ C) fun _ _ x => x.elim
theorem find_same {v v' : Value} (p : FindR F O (at_.toNat) v) (q : FindR F O (at_.toNat) v') (k : Q (.bool false) ⟨h, g, d, tk, os⟩) : wpAny (model prog w) A (compareOp .NotEq v v') Q E ⟨h, g, d, tk, os⟩ := by
  rcases p with ⟨rfl, p⟩ | ⟨i, t, rfl, p1, p2, p3⟩
  · rcases q with ⟨rfl, q⟩ | ⟨j, t', rfl, q1, q2, q3⟩
    · exact PySem.EqNone.ne_none_none k
    · exact absurd q2 (p j q1)
  · rcases q with ⟨rfl, q⟩ | ⟨j, t', rfl, q1, q2, q3⟩
    · exact absurd p2 (q i p1)
    · have e : i = j := by
        rcases Nat.lt_trichotomy i j with z | z | z
        · exact absurd p2 (q3 i p1 z)
        · exact z
        · exact absurd q2 (p3 j q1 z)
      subst e
      refine i_ne ?_
      rw [decide_eq_false (by simp)]
      exact k
theorem stmt_cut2 {h₁ : Heap} {t : Sem Flow} {Q : Flow → Shared → Prop} {s : Shared} {P : (Str → Option Value) → Prop} (C : Cx base h₀ L h₁ m fs) (first : wpAny (model prog w) A t (fun f s' => f = .next ∧ ∃ h₂ tk₂ m', s' = ⟨h₂, g, d, tk₂, os⟩ ∧ Cx base h₀ L h₂ m' fs ∧ P m') (fun _ _ => False) s)
    (rest : ∀ h₂ tk₂ m', Cx base h₀ L h₂ m' fs → P m' → Q .next ⟨h₂, g, d, tk₂, os⟩) : wpAny (model prog w) A t Q E s :=
  wpAny_mono first (fun f s' ⟨e, h₂, tk₂, m', e2, C, p⟩ => by subst e e2; exact rest h₂ tk₂ m' C p) fun _ _ x => x.elim
theorem diff_same {v v' : Value} (p : DiffR F O v) (q : DiffR F O v') (k : Q (.bool false) ⟨h, g, d, tk, os⟩) : wpAny (model prog w) A (compareOp .NotEq v v') Q E ⟨h, g, d, tk, os⟩ := by
  rcases p with ⟨rfl, p⟩ | ⟨i, t, rfl, p1, p2, p3⟩
  · rcases q with ⟨rfl, q⟩ | ⟨j, t', rfl, q1, q2, q3⟩
    · exact PySem.EqNone.ne_none_none k
    · exact absurd (by rw [p]) q2
  · rcases q with ⟨rfl, q⟩ | ⟨j, t', rfl, q1, q2, q3⟩
    · exact absurd (by rw [q]) p2
    · have e : i = j := by
        rcases Nat.lt_trichotomy i j with z | z | z
        · exact absurd (q3 i z) p2
        · exact z
        · exact absurd (p3 j z) q2
      subst e
      refine i_ne ?_
      rw [decide_eq_false (by simp)]
      exact k
theorem cut_one {X : List UInt8} (i : Nat) : cut X (some (0 + (i : Int))) (some (0 + (i : Int) + 1)) = X[i]?.toList := by
  rw [show (0 : Int) + (i : Int) = ((i : Nat) : Int) by omega, show ((i : Nat) : Int) + 1 = ((i + 1 : Nat) : Int) by omega, cut_run, show i + 1 - i = 1 by omega, List.take_one, List.head?_drop]
theorem toList_inj {a b : Option UInt8} (h : a.toList = b.toList) : a = b := by
  cases a <;> cases b <;> simp at h ⊢ <;> exact h
theorem eq_upto {X Y : List UInt8} (h : ∀ q, q < X.length + 1 → X[q]? = Y[q]?) : X = Y := by
  have e := h X.length (by omega)
  rw [List.getElem?_eq_none (Nat.le_refl _)] at e
  have l : Y.length ≤ X.length := List.getElem?_eq_none_iff.mp e.symm
  refine List.ext_getElem? fun q => ?_
  rcases Nat.lt_or_ge q (X.length + 1) with z | z
  · exact h q z
  · rw [List.getElem?_eq_none (by omega), List.getElem?_eq_none (by omega)]
theorem lams3 {h₀ h : Heap} {qual : Str} {n1 n2 n3 : List Addr} {p u v c1 c2 c3 c4 c5 : Fact} (C : Cx base h₀ L h m (p :: (n3.map (fun c => (c, CdO qual)) ++ (n2.map (fun c => (c, CdO qual)) ++ (n1.map (fun c => (c, CdO qual)) ++ ([c1, c2, c3, c4, c5, u, v] ++ cs.map (fun c => (c, CdO qual)))))))) :
    Cx base h₀ L h m (c1 :: c2 :: c3 :: c4 :: c5 :: u :: v :: p :: (n3 ++ (n2 ++ (n1 ++ cs))).map (fun c => (c, CdO qual))) := C.perm (by
  classical
  rw [List.perm_iff_count]; intro z; simp only [List.map_append, List.count_append, List.count_cons, List.count_nil, Nat.zero_add]; ac_rfl)
set_option maxHeartbeats 20000000 in
theorem looked_right_c (W : Wd w base) (B : Bm base) (hdc : CodeHd base 302 300) (G : base.StaysIn h) (am : Amb A 20) (hfr : A.frames = some [e0]) (hf0 : e0.frame = some Lw) (hk0 : e0.scope.kind ≠ .module)
    (c : Ch base h x dx l ps) (e : ps.flatten = F) (hF : F.length ≤ 800) (hT : ∀ p ∈ handed a Lw 300 mw "_law_looked_right.<locals>.<lambda>" cs, base.get? p.1 = none ∧ Has h p) (hD : ((handed a Lw 300 mw "_law_looked_right.<locals>.<lambda>" cs).map (·.1)).Nodup)
    (nx : x ∉ (handed a Lw 300 mw "_law_looked_right.<locals>.<lambda>" cs).map (·.1)) (nd : dx ∉ (handed a Lw 300 mw "_law_looked_right.<locals>.<lambda>" cs).map (·.1)) (nl : l ∉ (handed a Lw 300 mw "_law_looked_right.<locals>.<lambda>" cs).map (·.1))
    (k : ∀ cs' h' tk', Kp ((handed a Lw 300 mw "_law_looked_right.<locals>.<lambda>" cs).map (·.1)) h h' → (∀ p ∈ handed a Lw 300 mw "_law_looked_right.<locals>.<lambda>" cs', (p.1 ∈ (handed a Lw 300 mw "_law_looked_right.<locals>.<lambda>" cs).map (·.1) ∨ h.get? p.1 = none) ∧ Has h' p) →
      ((handed a Lw 300 mw "_law_looked_right.<locals>.<lambda>" cs').map (·.1)).Nodup → Q (.bool true) ⟨h', g, d, tk', os⟩) :
    wpAny (model prog w) A (call (.ref 303) [.ref a, .ref x, .bytes F.toArray u]) Q E ⟨h, g, d, tk, os⟩ := by
  subst e
  have hx := has_hide c.ix nx
  have hd' := has_hide c.id nd
  have hl := has_hide c.il nl
  have hz := c.sz
  have hz' : ps.flatten.length ≤ 1000000 := by omega
  refine' callC W G (handed a Lw 300 mw "_law_looked_right.<locals>.<lambda>" cs) hT hD am ?ho ?hcd ?hbind ?hloc ?hnd ?_ ?h1 ?h2 ?h3
  (case ho => k_is); (case hcd => k_is); (case hbind => exact rfl); (case hloc => exact rfl); (case hnd => decide); (case h1 => rfl); (case h2 => rfl); (case h3 => rfl)
  intro h₁ L tk₁ C am
  generalize hhid : hideAll h ((handed a Lw 300 mw "_law_looked_right.<locals>.<lambda>" cs).map (·.1)) = hid at *
  obtain ⟨R, hR, C⟩ : ∃ R : List Fact, ((Lw, FrO mw) :: (300, TabO cs) :: cs.map fun c => ((c, CdO "_law_looked_right.<locals>.<lambda>") : Fact)) = R ∧ Cx base hid L h₁ _ ((L + 1 + 1 + 1 + 1 + 1, CeO none) :: (L + 1 + 1 + 1 + 1, CeO none) :: (L + 1 + 1 + 1, CeO none) :: (L + 1 + 1, CeO (some (.bytes ps.flatten.toArray u))) :: (L + 1, CeO (some (.ref x))) :: (a, Src) :: R) := ⟨_, rfl, C⟩
  obtain ⟨m₀, hm1, C⟩ : ∃ m₀ : Str → Option Value, m₀ "source" = some (.ref a) ∧ Cx base hid L h₁ m₀ ((L + 1 + 1 + 1 + 1 + 1, CeO none) :: (L + 1 + 1 + 1 + 1, CeO none) :: (L + 1 + 1 + 1, CeO none) :: (L + 1 + 1, CeO (some (.bytes ps.flatten.toArray u))) :: (L + 1, CeO (some (.ref x))) :: (a, Src) :: R) := ⟨_, rfl, C⟩
  have chC : ∀ {h₂ L m f}, Cx base hid L h₂ m f → Ch base h₂ x dx l ps := fun C => ⟨c.bx, c.bd, c.bl, C.old hx, C.old hd', C.old hl, c.ne, c.sz⟩
  repeat kbo_bools
  rename_i at' t1 _ _ a0 a1 _ mn t2 _ _ m0 m1 _ C
  have ec : cut ps.flatten (some at') (some (at' + mn)) = (ps.flatten.drop at'.toNat).take mn.toNat := by
    rw [show at' = ((at'.toNat : Nat) : Int) by omega, show ((at'.toNat : Nat) : Int) + mn = ((at'.toNat + mn.toNat : Nat) : Int) by omega, cut_run, Nat.add_sub_cancel_left, Int.toNat_natCast]
  refine part_c W C.G (am.mono (by decide)) (chC C) a0 m0 (by omega) fun t3 h₂ tk₂ kp => ?_
  replace C := C.kp kp
  repeat kbo_bools
  rw [ec]
  refine ifF (by simp) ?_
  repeat kbo_bools
  rename Cx _ _ _ _ _ _ => C
  refine pieces_c W C.G (am.mono (by decide)) (chC C) a0 m0 (by omega) fun pa qs h₂ tk₂ kp hn hb' hq e1 ne1 => ?_
  replace C := C.add (C.kp kp) rfl hn hq
  repeat kbo_bools
  obtain ⟨us, hu, zu⟩ := has_LR (C.get (.head _))
  refine BJ.join hu zu (by rw [e1, List.length_take, List.length_drop]; omega) fun t4 tk₄ => ?_
  repeat kbo_bools
  rename Cx _ _ _ _ _ _ => C
  rw [ec, e1]
  refine ifF (by simp) ?_
  kbo_bools
  kbo_bools
  kbo_bools
  kbo_bools
  replace C := C.drop1
  refine stmt_cut (g := g) (d := d) (os := os) C ?_ fun h₂ tk₂ C => ?_
  · repeat kbo_bools
    refine ifD (fun pm => ?_) (fun pm => ?_)
    · repeat kbo_bools
      rename Cx _ _ _ _ _ _ => C
      refine octet_c W C.G (am.mono (by decide)) (chC C) a0 (by omega) fun t5 h₂ tk₂ kp => ?_
      replace C := C.kp kp
      repeat kbo_bools
      exact ⟨rfl, _, _, rfl, C⟩
    · repeat kbo_bools
      exact ⟨rfl, _, _, rfl, C⟩
  repeat kbo_bools
  rename Cx _ _ _ _ _ _ => C
  refine loct_x C W (am.mono (by decide)) (by k_mem) (by omega) (by omega) fun O1 t6 h₃ tk₃ hO1 C => ?_
  repeat kbo_bools
  rename Cx _ _ _ _ _ _ => C
  refine one_x C W (am.mono (by decide)) (by k_mem) (C.get (.head _)) (ne_head C (by k_mem)) (by simp) (by simp) fun v h₃ tk₃ hv C => ?_
  obtain ⟨O, tO, rfl, hO⟩ : ∃ (O : List UInt8) (tO : Tok), v = .bytes O.toArray tO ∧ O.length ≤ 3 := by
    simp only [List.mem_cons, List.not_mem_nil, or_false] at hv
    rcases hv with rfl | rfl
    · refine ⟨_, _, rfl, ?_⟩
      rw [show at' = ((at'.toNat : Nat) : Int) by omega, show ((at'.toNat : Nat) : Int) + min mn 3 = ((at'.toNat + (min mn 3).toNat : Nat) : Int) by omega, cut_run, List.length_take]
      omega
    · exact ⟨_, _, rfl, by omega⟩
  replace C := C.drop1
  repeat kbo_bools
  rename_i st _ _ _ s0 s1 _ C
  refine find_c W C.G (am.mono (by decide)) (chC C) s0 (by omega) (by omega) fun v1 h₃ tk₃ kp r1 => ?_
  replace C := C.kp kp
  repeat kbo_bools
  rename Cx _ _ _ _ _ _ => C
  refine found_c W C.G (am.mono (by decide)) (by omega) (by omega) s0 (by omega) fun v2 h₃ tk₃ kp r2 => ?_
  replace C := C.kp kp
  repeat kbo_bools
  refine find_same r1 r2 ?_
  clear r1 r2 hv
  have l1 : ps.flatten.length + ([120] : List UInt8).length ≤ 1000000 := by show _ + 1 ≤ _; omega
  have b1 := cut_length (xs := ps.flatten) none (some at')
  have b2 := cut_length (xs := ps.flatten) (some (at' + 1)) none
  have l2 : (cut ps.flatten none (some at')).length + ([7] : List UInt8).length ≤ 1000000 := by show _ + 1 ≤ _; omega
  have b3 : (cut ps.flatten none (some at')).length ≤ at'.toNat := by rw [show at' = ((at'.toNat : Nat) : Int) by omega, cut_upto, List.length_take]; omega
  have b4 : (cut ps.flatten (some (at' + 1)) none).length + at'.toNat ≤ ps.flatten.length := by
    rw [show at' + 1 = ((at'.toNat + 1 : Nat) : Int) by omega, cut_from, List.length_drop]; omega
  have l3 : (cut ps.flatten none (some at') ++ [7]).length + (cut ps.flatten (some (at' + 1)) none).length ≤ 1000000 := by rw [List.length_append]; show _ + 1 + _ ≤ _; omega
  repeat kbo_bools
  rename Cx _ _ _ _ _ _ => C
  refine one_x C W (am.mono (by decide)) (by k_mem) (C.get (.head _)) (ne_head C (by k_mem)) (by simp) (by simp) fun v h₃ tk₃ hv C => ?_
  obtain ⟨X, tX, rfl, hX⟩ : ∃ (X : List UInt8) (tX : Tok), v = .bytes X.toArray tX ∧ X.length ≤ 1000 := by
    simp only [List.mem_cons, List.not_mem_nil, or_false] at hv
    rcases hv with rfl | rfl | rfl | rfl
    · exact ⟨_, _, rfl, by omega⟩
    · exact ⟨_, _, rfl, by omega⟩
    · exact ⟨_, _, rfl, by rw [List.length_append]; show _ + 1 ≤ _; omega⟩
    · exact ⟨_, _, rfl, by rw [List.length_append, List.length_append]; show _ + 1 + _ ≤ _; omega⟩
  replace C := C.drop1
  have hX' : X.length ≤ 1000000 := by omega
  clear l1 l2 l3 b1 b2 b3 b4 hv hO1
  iterate 6 kbo_bools
  rename Cx _ _ _ _ _ _ => C
  refine stmt_cut2 (g := g) (d := d) (os := os) (P := fun m' => ∃ v, m' "due" = some v ∧ DiffR ps.flatten X v) C ?_ fun h₂ tk₂ m' C hm => ?_
  · repeat kbo_bools
    refine ifD (fun pd => ?_) (fun pd => ?_)
    · repeat kbo_bools
      rename Cx _ _ _ _ _ _ => C
      refine iter_R C (C.get (List.Mem.head _)) am.hh (by decide) (by decide) (by omega) (by omega) fun I h₄ T C => ?_
      replace C := C.drop2
      refine compL T (fun i ys l => l = _ ∧ ys.length ≤ i ∧ i ≤ 801 ∧ ((ys = [] ∧ ∀ q, q < i → ps.flatten[q]? = X[q]?) ∨ ∃ (p : Nat) (t : Tok) (r : List Value), ys = .int (p : Int) t :: r ∧ p ≤ ps.flatten.length ∧ ps.flatten[p]? ≠ X[p]? ∧ ∀ q, q < p → ps.flatten[q]? = X[q]?)) C ⟨rfl, by simp, by omega, .inl ⟨rfl, fun q hq => by omega⟩⟩ ?_ (fun i ys D F Lc m' l h' j C => trivial) ?_ ?_ (by decide) rfl rfl
      · rintro i ys l ⟨rfl, hy, hi, _⟩; omega
      · rintro i v ys l₁ Lc h₁ tk₁ m₁ D hi ⟨ti, rfl⟩ ⟨rfl, hy, hi', z⟩ hm C
        have e1 := cut_one (X := ps.flatten) i
        have e2 := cut_one (X := X) i
        refine ifs1 ?_
        repeat kbo_bools
        refine ifD (fun cc => ?_) (fun cc => ?_)
        · repeat kbo_bools
          rename Cx _ _ _ _ _ _ => C
          refine ⟨_, _, _, _, rfl, C, rfl, by rw [List.length_append]; show _ + 1 ≤ _; omega, by omega, .inr ?_⟩
          rcases z with ⟨rfl, z⟩ | ⟨p, t, r, rfl, z⟩
          · refine ⟨i, _, [], by rw [List.nil_append, show (0 : Int) + (i : Int) = (i : Int) by omega], by omega, fun q => cc (by rw [e1, e2, q]), z⟩
          · exact ⟨p, t, r ++ [_], rfl, z⟩
        · rename Cx _ _ _ _ _ _ => C
          refine ⟨_, _, _, _, rfl, C, rfl, by omega, by omega, ?_⟩
          rw [e1, e2] at cc
          have cc := toList_inj (Classical.not_not.mp cc)
          rcases z with ⟨rfl, z⟩ | z
          · refine .inl ⟨rfl, fun q hq => ?_⟩
            rcases Nat.lt_or_ge q i with y | y
            · exact z q y
            · rw [show q = i by omega]; exact cc
          · exact .inr z
      · rintro h' tk' D ys l' ⟨rfl, hy, hi, z⟩ C
        rcases z with ⟨rfl, z⟩ | ⟨p, t, r, rfl, z1, z2, z3⟩
        · exact absurd (eq_upto fun q hq => z q (by omega)).symm pd
        · repeat kbo_bools
          rename Cx _ _ _ _ _ _ => C
          exact ⟨rfl, _, _, _, rfl, C.drop1, _, rfl, .inr ⟨p, t, rfl, z1, z2, z3⟩⟩
    · repeat kbo_bools
      rename Cx _ _ _ _ _ _ => C
      exact ⟨rfl, _, _, _, rfl, C, .none, rfl, .inl ⟨rfl, Classical.not_not.mp pd⟩⟩
  obtain ⟨vd, hd2, dr⟩ := hm
  repeat kbo_bools
  rename Cx _ _ _ _ _ _ => C
  refine diff_c W C.G (am.mono (by decide)) (chC C) (by omega) fun v1 h₃ tk₃ kp r1 => ?_
  replace C := C.kp kp
  repeat kbo_bools
  refine diff_same r1 dr ?_
  repeat kbo_bools
  subst hR
  replace C := C.perm (l' := (300, TabO cs) :: ([_, _, _, _, _, _, _] ++ _)) List.perm_middle.symm
  refine' lamC (qual := "_law_looked_right.<locals>.<lambda>") ?hq C B hdc ?hcd ?hcl ?hdef ?_
  case hq => rfl
  case hcd => rfl
  case hcl => rfl
  case hdef => rfl
  clear C
  intro f1 c1 n1 h₆ tk₆ hc1 C
  repeat kbo_bools
  rename Cx _ _ _ _ _ _ => C
  refine refused_c (n := 12) W C.G (Around.frames_deeper hfr) (frames2 C (by intro q; cases q) rfl hk0 hf0 (mw := mw) (by kcj_m)) (am.mono (by decide)) (fn_at (C.get (.head _))) ?_ ?_
  · intro A' h₇ tk₇ ls' Q' E' am' hfr' kp7 G' FF' kE
    have hfn := kp7.has List.not_mem_nil (C.get (.head _))
    have hcd := kp7.has List.not_mem_nil (C.get (a := c1) (φ := CdO "_law_looked_right.<locals>.<lambda>") (by
      rcases List.mem_append.mp hc1 with z | z
      · exact .tail _ (.tail _ (List.mem_append_left _ (List.mem_map.mpr ⟨_, z, rfl⟩)))
      · exact .tail _ (.tail _ (List.mem_append_right _ (List.mem_append_right _ (List.mem_map.mpr ⟨_, z, rfl⟩))))))
    have hce := kp7.has List.not_mem_nil (C.get (a := L + 1) (φ := CeO (some (.ref x))) (.tail _ (.tail _ (List.mem_append_right _ (List.mem_append_left _ (by k_mem))))))
    have hce2 := kp7.has List.not_mem_nil (C.get (a := L + 1 + 1 + 1 + 1) (φ := CeO (some (.int at' t1))) (.tail _ (.tail _ (List.mem_append_right _ (List.mem_append_left _ (by k_mem))))))
    have hce3 := kp7.has List.not_mem_nil (C.get (a := L + 1 + 1 + 1 + 1 + 1) (φ := CeO (some (.int (ps.flatten.length : Nat) _))) (.tail _ (.tail _ (List.mem_append_right _ (List.mem_append_left _ (by k_mem))))))
    have hx1 := kp7.has List.not_mem_nil (C.old hx)
    have hd1 := kp7.has List.not_mem_nil (C.old hd')
    have ch1 := (chC C).kp0 kp7
    refine' lamR W G' hfr' FF' am' hfn hcd ?_ ?_ kE ?_ ?_ ?_ ?_
    · intro pm ctv; rfl
    · intro h₈ L' tk₈ C' am'' hfr'' FF''
      clear C
      repeat kbo_bools
      exact part_r W C'.G hfr'' (FF'' _ _ _ C') (am''.mono (by decide)) (ch1.old C') (by omega) fun v s' fl => ⟨_, _, _, C', .inl fl⟩
    · rfl
    · rfl
    · rfl
    · decide
  · intro h₇ tk₇ kp7 up7
    have kp8 : Kp [L, Lw] h₆ h₇ := kp7.mono (by simp [frs, hf0])
    replace C := C.slots kp8 up7 (mw := mw) (by kcj_m)
    replace C := C.drop1
    repeat kbo_bools
    refine' lamC (qual := "_law_looked_right.<locals>.<lambda>") ?hq C B hdc ?hcd ?hcl ?hdef ?_
    case hq => rfl
    case hcd => rfl
    case hcl => rfl
    case hdef => rfl
    clear C
    intro f2 c2 n2 h₆ tk₆ hc2 C
    repeat kbo_bools
    rename Cx _ _ _ _ _ _ => C
    refine refused_c (n := 12) W C.G (Around.frames_deeper hfr) (frames2 C (by intro q; cases q) rfl hk0 hf0 (mw := mw) (by kcj_m)) (am.mono (by decide)) (fn_at (C.get (.head _))) ?_ ?_
    · intro A' h₇ tk₇ ls' Q' E' am' hfr' kp7 G' FF' kE
      have hfn := kp7.has List.not_mem_nil (C.get (.head _))
      have hcd := kp7.has List.not_mem_nil (C.get (a := c2) (φ := CdO "_law_looked_right.<locals>.<lambda>") (by
        rcases List.mem_append.mp hc2 with z | z
        · exact .tail _ (.tail _ (List.mem_append_left _ (List.mem_map.mpr ⟨_, z, rfl⟩)))
        · rcases List.mem_append.mp z with z | z
          · exact .tail _ (.tail _ (List.mem_append_right _ (List.mem_append_left _ (List.mem_map.mpr ⟨_, z, rfl⟩))))
          · exact .tail _ (.tail _ (List.mem_append_right _ (List.mem_append_right _ (List.mem_append_right _ (List.mem_map.mpr ⟨_, z, rfl⟩)))))))
      have hce := kp7.has List.not_mem_nil (C.get (a := L + 1) (φ := CeO (some (.ref x))) (.tail _ (.tail _ (List.mem_append_right _ (List.mem_append_right _ (List.mem_append_left _ (by k_mem)))))))
      have hce2 := kp7.has List.not_mem_nil (C.get (a := L + 1 + 1 + 1 + 1) (φ := CeO (some (.int at' t1))) (.tail _ (.tail _ (List.mem_append_right _ (List.mem_append_right _ (List.mem_append_left _ (by k_mem)))))))
      have hce3 := kp7.has List.not_mem_nil (C.get (a := L + 1 + 1 + 1 + 1 + 1) (φ := CeO (some (.int (ps.flatten.length : Nat) _))) (.tail _ (.tail _ (List.mem_append_right _ (List.mem_append_right _ (List.mem_append_left _ (by k_mem)))))))
      have hx1 := kp7.has List.not_mem_nil (C.old hx)
      have hd1 := kp7.has List.not_mem_nil (C.old hd')
      have ch1 := (chC C).kp0 kp7
      refine' lamR W G' hfr' FF' am' hfn hcd ?_ ?_ kE ?_ ?_ ?_ ?_
      · intro pm ctv; rfl
      · intro h₈ L' tk₈ C' am'' hfr'' FF''
        clear C
        repeat kbo_bools
        exact part_r W C'.G hfr'' (FF'' _ _ _ C') (am''.mono (by decide)) (ch1.old C') (by omega) fun v s' fl => ⟨_, _, _, C', .inl fl⟩
      · rfl
      · rfl
      · rfl
      · decide
    · intro h₇ tk₇ kp7 up7
      have kp8 : Kp [L, Lw] h₆ h₇ := kp7.mono (by simp [frs, hf0])
      replace C := C.slots kp8 up7 (mw := mw) (by kcj_m)
      replace C := C.drop1
      repeat kbo_bools
      refine' lamC (qual := "_law_looked_right.<locals>.<lambda>") ?hq C B hdc ?hcd ?hcl ?hdef ?_
      case hq => rfl
      case hcd => rfl
      case hcl => rfl
      case hdef => rfl
      clear C
      intro f3 c3 n3 h₆ tk₆ hc3 C
      repeat kbo_bools
      rename Cx _ _ _ _ _ _ => C
      refine refused_c (n := 12) W C.G (Around.frames_deeper hfr) (frames2 C (by intro q; cases q) rfl hk0 hf0 (mw := mw) (by kcj_m)) (am.mono (by decide)) (fn_at (C.get (.head _))) ?_ ?_
      · intro A' h₇ tk₇ ls' Q' E' am' hfr' kp7 G' FF' kE
        have hfn := kp7.has List.not_mem_nil (C.get (.head _))
        have hcd := kp7.has List.not_mem_nil (C.get (a := c3) (φ := CdO "_law_looked_right.<locals>.<lambda>") (by
          rcases List.mem_append.mp hc3 with z | z
          · exact .tail _ (.tail _ (List.mem_append_left _ (List.mem_map.mpr ⟨_, z, rfl⟩)))
          · rcases List.mem_append.mp z with z | z
            · exact .tail _ (.tail _ (List.mem_append_right _ (List.mem_append_left _ (List.mem_map.mpr ⟨_, z, rfl⟩))))
            · rcases List.mem_append.mp z with z | z
              · exact .tail _ (.tail _ (List.mem_append_right _ (List.mem_append_right _ (List.mem_append_left _ (List.mem_map.mpr ⟨_, z, rfl⟩)))))
              · exact .tail _ (.tail _ (List.mem_append_right _ (List.mem_append_right _ (List.mem_append_right _ (List.mem_append_right _ (List.mem_map.mpr ⟨_, z, rfl⟩))))))))
        have hce := kp7.has List.not_mem_nil (C.get (a := L + 1) (φ := CeO (some (.ref x))) (.tail _ (.tail _ (List.mem_append_right _ (List.mem_append_right _ (List.mem_append_right _ (List.mem_append_left _ (by k_mem))))))))
        have hce2 := kp7.has List.not_mem_nil (C.get (a := L + 1 + 1 + 1 + 1) (φ := CeO (some (.int at' t1))) (.tail _ (.tail _ (List.mem_append_right _ (List.mem_append_right _ (List.mem_append_right _ (List.mem_append_left _ (by k_mem))))))))
        have hce3 := kp7.has List.not_mem_nil (C.get (a := L + 1 + 1 + 1 + 1 + 1) (φ := CeO (some (.int (ps.flatten.length : Nat) _))) (.tail _ (.tail _ (List.mem_append_right _ (List.mem_append_right _ (List.mem_append_right _ (List.mem_append_left _ (by k_mem))))))))
        have hx1 := kp7.has List.not_mem_nil (C.old hx)
        have hd1 := kp7.has List.not_mem_nil (C.old hd')
        have ch1 := (chC C).kp0 kp7
        refine' lamR W G' hfr' FF' am' hfn hcd ?_ ?_ kE ?_ ?_ ?_ ?_
        · intro pm ctv; rfl
        · intro h₈ L' tk₈ C' am'' hfr'' FF''
          clear C
          repeat kbo_bools
          exact octet_r W C'.G hfr'' (FF'' _ _ _ C') (am''.mono (by decide)) (ch1.old C') (by omega) fun v s' fl => ⟨_, _, _, C', .inl fl⟩
        · rfl
        · rfl
        · rfl
        · decide
      · intro h₇ tk₇ kp7 up7
        have kp8 : Kp [L, Lw] h₆ h₇ := kp7.mono (by simp [frs, hf0])
        replace C := C.slots kp8 up7 (mw := mw) (by kcj_m)
        replace C := lams3 C.drop1
        repeat kbo_bools
        rename Cx _ _ _ _ _ _ => C
        refine is_c W C.G (am.mono (by decide)) (chC C) rfl fun h₅ tk₅ kp5 => ?_
        replace C := C.kp kp5
        repeat kbo_bools
        have C' := C.drop1.drop1.drop1.drop1.drop1
        obtain ⟨r1, r2, r3⟩ := C'.home hhid (Y := handed a Lw 300 mw "_law_looked_right.<locals>.<lambda>" (n3 ++ (n2 ++ (n1 ++ cs)))) (fun p hp => hp) C'.D
        exact k (n3 ++ (n2 ++ (n1 ++ cs))) _ _ r1 r2 r3
end
-- G7
--4 the steps of MAC3 and MAC4 too
section
variable {base h₀ h h' : Heap} {L a P x dx l₀ l' : Addr} {m : Str → Option Value} {R : List Fact} {qual : Str} {cs cs' : List Addr} {ps ps' : List (List UInt8)}
/-- what is handed to a callee, the frame's own slots too, and comes back changed -/
theorem Cx.calleeL {X Y R : List Fact} {T : List Addr} (C : Cx base h₀ L h m (X ++ R)) (k : Kp T h h') (hT : ∀ t ∈ T, t = L ∨ t ∈ X.map (·.1)) (hL : Has h' (L, FrO m))
    (hy : ∀ p ∈ Y, p.1 ≠ L ∧ (p.1 ∈ X.map (·.1) ∨ h.get? p.1 = none) ∧ Has h' p) (D : (Y.map (·.1)).Nodup) : Cx base h₀ L h' m (Y ++ R) := by
  have CD := C.D
  rw [List.map_append, List.nodup_append] at CD
  have bT : ∀ b o, h₀.get? b = some o → b ∉ T := fun b o e q => by
    rcases hT b q with rfl | q
    · exact absurd (Heap.lt_size e) (Nat.not_lt.mpr C.F.above)
    · obtain ⟨p, hp, rfl⟩ := List.mem_map.mp q
      rw [(C.N p (List.mem_append_left _ hp)).2.1] at e; cases e
  refine ⟨⟨has_fr hL, fun b o e => k b o (bT b o e) (C.F.keep b o e), C.F.above⟩, fun p hp => ?_, ?_, C.B⟩
  · rcases List.mem_append.mp hp with hp | hp
    · obtain ⟨n, z, x⟩ := hy p hp
      refine ⟨n, ?_, x⟩
      rcases z with z | z
      · obtain ⟨r, hr, e⟩ := List.mem_map.mp z
        rw [← e]; exact (C.N r (List.mem_append_left _ hr)).2.1
      · cases q : h₀.get? p.1 with
        | none => rfl
        | some o => have := C.F.keep _ o q; rw [z] at this; cases this
    · have n := C.N p (List.mem_append_right _ hp)
      refine ⟨n.1, n.2.1, k.has (fun q => ?_) n.2.2⟩
      rcases hT _ q with q | q
      · exact n.1 q
      · exact CD.2.2 _ q _ (List.mem_map_of_mem hp) rfl
  · rw [List.map_append, List.nodup_append]
    refine ⟨D, CD.2.1, fun x hx y hy' q => ?_⟩
    subst q
    obtain ⟨p, hp, rfl⟩ := List.mem_map.mp hx
    obtain ⟨r, hr, e⟩ := List.mem_map.mp hy'
    rcases (hy p hp).2.1 with z | z
    · exact CD.2.2 _ z _ hy' rfl
    · obtain ⟨o, w, _⟩ := (C.N r (List.mem_append_right _ hr)).2.2
      rw [e, z] at w; cases w
theorem Cx.noL (C : Cx base h₀ L h m R) : base.get? L = none := by
  cases q : base.get? L with
  | none => rfl
  | some o => exact absurd (Heap.lt_size (C.B _ _ q)) (Nat.not_lt.mpr C.F.above)
theorem Cx.noFr (C : Cx base h₀ L h m R) : L ∉ R.map (·.1) := fun q => by
  obtain ⟨p, hp, e⟩ := List.mem_map.mp q
  exact (C.N p hp).1 e
theorem handed_T (C : Cx base h₀ L h m (((a, Src) :: tabL P qual cs) ++ R)) : ∀ p ∈ handed a L P m qual cs, base.get? p.1 = none ∧ Has h p := fun p hp => by
  simp only [handed, List.mem_cons] at hp
  rcases hp with rfl | rfl | hp
  · exact ⟨C.nobase (a := a) (φ := Src) (.head _), C.get (.head _)⟩
  · exact ⟨C.noL, fr_has C.F.ns⟩
  · have : (p.1, p.2) ∈ ((a, Src) :: tabL P qual cs) ++ R := .tail _ (List.mem_append_left _ hp)
    exact ⟨C.nobase this, C.get this⟩
theorem handedR_T (C : Cx base h₀ L h m (tabL P qual cs ++ R)) : ∀ p ∈ handedR L P m qual cs, base.get? p.1 = none ∧ Has h p := fun p hp => by
  simp only [handedR, List.mem_cons] at hp
  rcases hp with rfl | hp
  · exact ⟨C.noL, fr_has C.F.ns⟩
  · have : (p.1, p.2) ∈ tabL P qual cs ++ R := List.mem_append_left _ hp
    exact ⟨C.nobase this, C.get this⟩
theorem handed_D (C : Cx base h₀ L h m (((a, Src) :: tabL P qual cs) ++ R)) : ((handed a L P m qual cs).map (·.1)).Nodup := by
  have D := C.D
  have n := C.noFr
  simp only [List.cons_append, List.map_cons, List.map_append, List.nodup_cons, List.nodup_append, List.mem_append, List.mem_cons, not_or] at D n
  simp only [handed, List.map_cons, List.nodup_cons, List.mem_cons, not_or]
  exact ⟨⟨Ne.symm n.1, D.1.1⟩, n.2.1, D.2.1⟩
theorem handedR_D (C : Cx base h₀ L h m (tabL P qual cs ++ R)) : ((handedR L P m qual cs).map (·.1)).Nodup := by
  have D := C.D
  have n := C.noFr
  simp only [List.map_append, List.nodup_append, List.mem_append, not_or] at D n
  simp only [handedR, List.map_cons, List.nodup_cons]
  exact ⟨n.1, D.1⟩
theorem handed_x {φ : Obj → Prop} (C : Cx base h₀ L h m (((a, Src) :: tabL P qual cs) ++ R)) (hm : (x, φ) ∈ R) : x ∉ (handed a L P m qual cs).map (·.1) := fun q => by
  have D := C.D
  have n := (C.N _ (List.mem_append_right _ hm)).1
  rw [List.map_append, List.nodup_append] at D
  simp only [handed, List.map_cons, List.mem_cons] at q
  rcases q with q | q | q
  · exact D.2.2 _ (List.Mem.head _) _ (List.mem_map_of_mem (f := Prod.fst) hm) q.symm
  · exact n q
  · exact D.2.2 _ (by simp only [List.map_cons, List.mem_cons]; exact .inr q) _ (List.mem_map_of_mem (f := Prod.fst) hm) rfl
theorem handedR_x {φ : Obj → Prop} (C : Cx base h₀ L h m (tabL P qual cs ++ R)) (hm : (x, φ) ∈ R) : x ∉ (handedR L P m qual cs).map (·.1) := fun q => by
  have D := C.D
  have n := (C.N _ (List.mem_append_right _ hm)).1
  rw [List.map_append, List.nodup_append] at D
  simp only [handedR, List.map_cons, List.mem_cons] at q
  rcases q with q | q
  · exact n q
  · exact D.2.2 _ q _ (List.mem_map_of_mem (f := Prod.fst) hm) rfl
theorem Cx.handedL (C : Cx base h₀ L h m (((a, Src) :: tabL P qual cs) ++ R)) (k : Kp ((handed a L P m qual cs).map (·.1)) h h')
    (hy : ∀ p ∈ handed a L P m qual cs', (p.1 ∈ (handed a L P m qual cs).map (·.1) ∨ h.get? p.1 = none) ∧ Has h' p) (D : ((handed a L P m qual cs').map (·.1)).Nodup) : Cx base h₀ L h' m (((a, Src) :: tabL P qual cs') ++ R) := by
  have D' := D
  simp only [handed, List.map_cons, List.nodup_cons, List.mem_cons, not_or] at D'
  refine C.calleeL k (fun t ht => ?_) (hy (L, FrO m) (.tail _ (.head _))).2 (fun p hp => ?_) ?_
  · simp only [handed, List.map_cons, List.mem_cons] at ht ⊢
    grind
  · have hm : p ∈ handed a L P m qual cs' := by
      simp only [handed, List.mem_cons] at hp ⊢
      grind
    have ne : p.1 ≠ L := by
      rcases List.mem_cons.mp hp with rfl | hp
      · exact D'.1.1
      · exact fun q => D'.2.1 (by rw [← q]; exact List.mem_map_of_mem hp)
    refine ⟨ne, ?_, (hy p hm).2⟩
    rcases (hy p hm).1 with z | z
    · simp only [handed, List.map_cons, List.mem_cons] at z ⊢
      grind
    · exact .inr z
  · simp only [List.map_cons, List.nodup_cons]
    exact ⟨D'.1.2, D'.2.2⟩
theorem Cx.handedRL (C : Cx base h₀ L h m (tabL P qual cs ++ R)) (k : Kp ((handedR L P m qual cs).map (·.1)) h h')
    (hy : ∀ p ∈ handedR L P m qual cs', (p.1 ∈ (handedR L P m qual cs).map (·.1) ∨ h.get? p.1 = none) ∧ Has h' p) (D : ((handedR L P m qual cs').map (·.1)).Nodup) : Cx base h₀ L h' m (tabL P qual cs' ++ R) := by
  have D' := D
  simp only [handedR, List.map_cons, List.nodup_cons] at D'
  refine C.calleeL k (fun t ht => ?_) (hy (L, FrO m) (.head _)).2 (fun p hp => ?_) D'.2
  · simpa only [handedR, List.map_cons, List.mem_cons] using ht
  · have hm : p ∈ handedR L P m qual cs' := .tail _ hp
    have ne : p.1 ≠ L := fun q => D'.1 (by rw [← q]; exact List.mem_map_of_mem hp)
    refine ⟨ne, ?_, (hy p hm).2⟩
    rcases (hy p hm).1 with z | z
    · simp only [handedR, List.map_cons, List.mem_cons] at z
      rcases z with z | z
      · exact absurd z ne
      · exact .inl z
    · exact .inr z
/-- a chain and the source changed -/
theorem Cx.mut3 (C : Cx base h₀ L h m ((dx, DiO l₀) :: (l₀, LB ps) :: (a, Src) :: R)) (k : Kp [dx, l₀, a] h h') (hs : Has h' (a, Src)) (n : l' = l₀ ∨ h.get? l' = none) (c : Ch base h' x dx l' ps') :
    Cx base h₀ L h' m ((dx, DiO l') :: (l', LB ps') :: (a, Src) :: R) := by
  have D := C.D
  simp only [List.map_cons, List.nodup_cons, List.mem_cons, not_or] at D
  obtain ⟨⟨d1, d2, d3⟩, ⟨d4, d5⟩, d6, d7⟩ := D
  have nin : l' ∉ R.map (·.1) ∧ l' ≠ a := by
    rcases n with rfl | n
    · exact ⟨d5, d4⟩
    · refine ⟨fun q => ?_, fun q => ?_⟩
      · obtain ⟨p, hp, e⟩ := List.mem_map.mp q
        obtain ⟨o, w, _⟩ := (C.N p (.tail _ (.tail _ (.tail _ hp)))).2.2
        rw [e, n] at w; cases w
      · obtain ⟨o, w, _⟩ := (C.N _ (.tail _ (.tail _ (.head _)))).2.2
        rw [show (a, Src).1 = l' from q.symm, n] at w; cases w
  refine C.upd k (by intro t ht; simp only [List.map_cons, List.mem_cons, List.not_mem_nil, or_false] at ht ⊢; grind) (fun p hp => ?_) ?_
  · simp only [List.mem_cons] at hp
    rcases hp with rfl | rfl | rfl | hp
    · exact .inr (.inl ⟨by simp, c.id⟩)
    · rcases n with rfl | n
      · exact .inr (.inl ⟨by simp, c.il⟩)
      · exact .inr (.inr ⟨n, c.il⟩)
    · exact .inr (.inl ⟨by simp, hs⟩)
    · refine .inl ⟨by simp [hp], fun q => ?_⟩
      have hm : p.1 ∈ R.map (·.1) := List.mem_map_of_mem hp
      simp only [List.mem_cons, List.not_mem_nil, or_false] at q
      rcases q with q | q | q
      · exact d3 (q ▸ hm)
      · exact d5 (q ▸ hm)
      · exact d6 (q ▸ hm)
  · simp only [List.map_cons, List.nodup_cons, List.mem_cons, not_or]
    exact ⟨⟨c.dl, d2, d3⟩, ⟨nin.2, nin.1⟩, d6, d7⟩
end
section
variable {prog : Program} {w : World} {A : Around} {E : Value → Shared → Prop} {base h₀ h : Heap} {g : Array GenState} {d : Drawn} {tk : Nat} {os : OsState}
variable {L : Addr} {m : Str → Option Value} {l : List Fact} {env : Env}
theorem asgLs {elts : List PySem.Expr} {k} {pos : Pos} {t : Addr} {vs : List Value} {Q : Unit → Shared → Prop} (C : Cx base h₀ L h m l) (x : Has h (t, LsO vs)) (hh : A.handled = none)
    (hn : (assignEach elts env).length = vs.length) (hstar : (assignEach elts env).findIdx? (·.1) = none)
    (q : ∀ h', Cx base h₀ L h' m l → wpAny (model prog w) A (assignInOrder ((assignEach elts env).map (·.2)) vs) Q E ⟨h', g, d, tk, os⟩) :
    wpAny (model prog w) A (assign (.Tuple elts k pos) env (.ref t)) Q E ⟨h, g, d, tk, os⟩ :=
  C.same fun ns N mk => kun_list (s := ⟨h, g, d, tk, os⟩) C.F N (has_list x) hh (by rw [List.size_toArray]; exact hn) hstar fun h' F' N' => q h' (mk _ _ F' N')
end
-- G8
--4 the steps of MAC3 and MAC4 too
abbrev T300 (cs : List Addr) : List Fact := tabL 300 "_law_looked_right.<locals>.<lambda>" cs
abbrev T305 (cs : List Addr) : List Fact := tabL 305 "_law_packed_right.<locals>.<lambda>" cs
abbrev T310 (cs : List Addr) : List Fact := tabL 310 "_law_cut_right.<locals>.<lambda>" cs
abbrev T331 (cs : List Addr) : List Fact := tabL 331 "_law_refusals_right.<locals>.<lambda>" cs
/-- the four tables of inner code -/
abbrev tabs4 (c1 c2 c3 c4 : List Addr) : List Fact := T300 c1 ++ (T305 c2 ++ (T310 c3 ++ T331 c4))
/-- the law's ledger -/
abbrev lawL (Z : List Fact) (a x dx l : Addr) (ps : List (List UInt8)) (c1 c2 c3 c4 : List Addr) : List Fact := Z ++ ((dx, DiO l) :: (l, LB ps) :: (a, Src) :: (x, InO dx) :: tabs4 c1 c2 c3 c4)
section
variable {Z T1 T2 T3 T4 R : List Fact} {d l a x : Fact}
theorem perm_1 : ((a :: T1) ++ (Z ++ (d :: l :: x :: (T2 ++ (T3 ++ T4))))).Perm (Z ++ (d :: l :: a :: x :: (T1 ++ (T2 ++ (T3 ++ T4))))) := by
  classical
  rw [List.perm_iff_count]; intro z; simp only [List.count_append, List.count_cons]; ac_rfl
theorem perm_2 : ((a :: T2) ++ (Z ++ (d :: l :: x :: (T1 ++ (T3 ++ T4))))).Perm (Z ++ (d :: l :: a :: x :: (T1 ++ (T2 ++ (T3 ++ T4))))) := by
  classical
  rw [List.perm_iff_count]; intro z; simp only [List.count_append, List.count_cons]; ac_rfl
theorem perm_3 : ((a :: T3) ++ (Z ++ (d :: l :: x :: (T1 ++ (T2 ++ T4))))).Perm (Z ++ (d :: l :: a :: x :: (T1 ++ (T2 ++ (T3 ++ T4))))) := by
  classical
  rw [List.perm_iff_count]; intro z; simp only [List.count_append, List.count_cons]; ac_rfl
theorem perm_4 : (T4 ++ (Z ++ (d :: l :: a :: x :: (T1 ++ (T2 ++ T3))))).Perm (Z ++ (d :: l :: a :: x :: (T1 ++ (T2 ++ (T3 ++ T4))))) := by
  classical
  rw [List.perm_iff_count]; intro z; simp only [List.count_append, List.count_cons]; ac_rfl
theorem perm_5 : (d :: l :: a :: x :: (Z ++ R)).Perm (Z ++ (d :: l :: a :: x :: R)) := by
  classical
  rw [List.perm_iff_count]; intro z; simp only [List.count_append, List.count_cons]; ac_rfl
end
section
variable {prog : Program} {w : World} {A : Around} {E : Value → Shared → Prop} {base h₀ h : Heap} {g : Array GenState} {d : Drawn} {tk : Nat} {os : OsState}
variable {x dx l L a : Addr} {m : Str → Option Value} {Z : List Fact} {ps : List (List UInt8)} {Q : Value → Shared → Prop} {u : Tok} {F : List UInt8} {e0 : Env} {c1 c2 c3 c4 : List Addr}

theorem law_ch (C : Cx base h₀ L h m (lawL Z a x dx l ps c1 c2 c3 c4)) (ne : ∀ p ∈ ps, p ≠ []) (sz : ps.flatten.length ≤ 1000) : Ch base h x dx l ps :=
  ⟨C.nobase (φ := InO dx) (by simp), C.nobase (φ := DiO l) (by simp), C.nobase (φ := LB ps) (by simp), C.get (by simp), C.get (by simp), C.get (by simp), ne, sz⟩

theorem looked_x (C : Cx base h₀ L h m (lawL Z a x dx l ps c1 c2 c3 c4)) (W : Wd w base) (B : Bm base) (hdc : CodeHd base 302 300) (am : Amb A 20) (hfr : A.frames = some [e0]) (hf0 : e0.frame = some L) (hk0 : e0.scope.kind ≠ .module)
    (ne : ∀ p ∈ ps, p ≠ []) (e : ps.flatten = F) (hF : F.length ≤ 800) (k : ∀ c' h' tk', Cx base h₀ L h' m (lawL Z a x dx l ps c' c2 c3 c4) → Q (.bool true) ⟨h', g, d, tk', os⟩) :
    wpAny (model prog w) A (call (.ref 303) [.ref a, .ref x, .bytes F.toArray u]) Q E ⟨h, g, d, tk, os⟩ := by
  have C1 := C.perm perm_1
  exact looked_right_c W B hdc C.G am hfr hf0 hk0 (law_ch C ne (by rw [e]; omega)) e hF (handed_T C1) (handed_D C1) (handed_x C1 (φ := InO dx) (by simp)) (handed_x C1 (φ := DiO l) (by simp)) (handed_x C1 (φ := LB ps) (by simp))
    fun cs' h' tk' kp hy D => k cs' h' tk' ((C1.handedL kp hy D).perm perm_1.symm)
theorem packed_x (C : Cx base h₀ L h m (lawL Z a x dx l ps c1 c2 c3 c4)) (W : Wd w base) (B : Bm base) (hdc : CodeHd base 307 305) (am : Amb A 20) (hfr : A.frames = some [e0]) (hf0 : e0.frame = some L) (hk0 : e0.scope.kind ≠ .module)
    (ne : ∀ p ∈ ps, p ≠ []) (e : ps.flatten = F) (hF : F.length ≤ 800) (k : ∀ c' h' tk', Cx base h₀ L h' m (lawL Z a x dx l ps c1 c' c3 c4) → Q (.bool true) ⟨h', g, d, tk', os⟩) :
    wpAny (model prog w) A (call (.ref 308) [.ref a, .ref x, .bytes F.toArray u]) Q E ⟨h, g, d, tk, os⟩ := by
  have C1 := C.perm perm_2
  exact packed_right_c W B hdc C.G am hfr hf0 hk0 (law_ch C ne (by rw [e]; omega)) e hF (handed_T C1) (handed_D C1) (handed_x C1 (φ := InO dx) (by simp)) (handed_x C1 (φ := DiO l) (by simp)) (handed_x C1 (φ := LB ps) (by simp))
    fun cs' h' tk' kp hy D => k cs' h' tk' ((C1.handedL kp hy D).perm perm_2.symm)
theorem cut_x (C : Cx base h₀ L h m (lawL Z a x dx l ps c1 c2 c3 c4)) (W : Wd w base) (B : Bm base) (hdc : CodeHd base 314 310) (am : Amb A 20) (hfr : A.frames = some [e0]) (hf0 : e0.frame = some L) (hk0 : e0.scope.kind ≠ .module)
    (ne : ∀ p ∈ ps, p ≠ []) (e : ps.flatten = F) (hF : F.length ≤ 800) (k : ∀ c' h' tk', Cx base h₀ L h' m (lawL Z a x dx l ps c1 c2 c' c4) → Q (.bool true) ⟨h', g, d, tk', os⟩) :
    wpAny (model prog w) A (call (.ref 315) [.ref a, .ref x, .bytes F.toArray u]) Q E ⟨h, g, d, tk, os⟩ := by
  have C1 := C.perm perm_3
  exact cut_right_c W B hdc C.G am hfr hf0 hk0 (law_ch C ne (by rw [e]; omega)) e hF (handed_T C1) (handed_D C1) (handed_x C1 (φ := InO dx) (by simp)) (handed_x C1 (φ := DiO l) (by simp)) (handed_x C1 (φ := LB ps) (by simp))
    fun cs' h' tk' kp hy D => k cs' h' tk' ((C1.handedL kp hy D).perm perm_3.symm)
theorem refusals_x (C : Cx base h₀ L h m (lawL Z a x dx l ps c1 c2 c3 c4)) (W : Wd w base) (B : Bm base) (hdc : CodeHd base 333 331) (am : Amb A 20) (hfr : A.frames = some [e0]) (hf0 : e0.frame = some L) (hk0 : e0.scope.kind ≠ .module)
    (ne : ∀ p ∈ ps, p ≠ []) (e : ps.flatten = F) (hF : F.length ≤ 800) (k : ∀ c' h' tk', Cx base h₀ L h' m (lawL Z a x dx l ps c1 c2 c3 c') → Q (.bool true) ⟨h', g, d, tk', os⟩) :
    wpAny (model prog w) A (call (.ref 334) [.ref x, .bytes F.toArray u]) Q E ⟨h, g, d, tk, os⟩ := by
  have C1 := C.perm perm_4
  exact refusals_right_c W B hdc C.G am hfr hf0 hk0 (law_ch C ne (by rw [e]; omega)) e hF (handedR_T C1) (handedR_D C1) (handedR_x C1 (φ := InO dx) (by simp)) (handedR_x C1 (φ := DiO l) (by simp)) (handedR_x C1 (φ := LB ps) (by simp))
    fun cs' h' tk' kp hy D => k cs' h' tk' ((C1.handedRL kp hy D).perm perm_4.symm)

theorem changed_x (C : Cx base h₀ L h m (lawL Z a x dx l ps c1 c2 c3 c4)) (W : Wd w base) (am : Amb A 8) (ne : ∀ p ∈ ps, p ≠ []) (e : ps.flatten = F) (hF : F.length ≤ 900)
    (k : ∀ l' ps' (F' : List UInt8) t h' tk', Cx base h₀ L h' m (lawL Z a x dx l' ps' c1 c2 c3 c4) → (∀ p ∈ ps', p ≠ []) → ps'.flatten = F' → F'.length ≤ F.length + 6 → Q (.bytes F'.toArray t) ⟨h', g, d, tk', os⟩) :
    wpAny (model prog w) A (call (.ref 329) [.ref a, .ref x, .bytes F.toArray u]) Q E ⟨h, g, d, tk, os⟩ := by
  have C1 := C.perm perm_5
  have D := C1.D
  simp only [List.map_cons, List.nodup_cons, List.mem_cons, not_or] at D
  exact changed_c W C.G am (law_ch C ne (by rw [e]; omega)) e hF (C1.get (.tail _ (.tail _ (.head _)))) (C1.nobase (φ := Src) (.tail _ (.tail _ (.head _)))) (Ne.symm D.2.1.1)
    fun l' ps' F' t h' tk' kp hs n c' e' hl => k l' ps' F' t h' tk' ((C1.mut3 kp hs n c').perm perm_5.symm) c'.ne e' hl

theorem split_x (C : Cx base h₀ L h m (lawL Z a x dx l ps c1 c2 c3 c4)) (W : Wd w base) (am : Amb A 8) (ne : ∀ p ∈ ps, p ≠ []) (e : ps.flatten = F) (hF : F.length ≤ 900)
    (k : ∀ r y dy p ps' (F' : List UInt8) t h' tk', Cx base h₀ L h' m ((dy, DiO p) :: (p, LB ps') :: (y, InO dy) :: (r, LsO [.bool true, .ref y, .bytes F'.toArray t]) :: (Z ++ tabs4 c1 c2 c3 c4)) → (∀ p ∈ ps', p ≠ []) → ps'.flatten = F' → F'.length ≤ 900 → Q (.ref r) ⟨h', g, d, tk', os⟩) :
    wpAny (model prog w) A (call (.ref 322) [.ref a, .ref x, .bytes F.toArray u]) Q E ⟨h, g, d, tk, os⟩ := by
  have C1 := C.perm perm_5
  have D := C1.D
  simp only [List.map_cons, List.nodup_cons, List.mem_cons, not_or] at D
  obtain ⟨⟨d1, d2, d3, d4⟩, ⟨d5, d6, d7⟩, ⟨d8, d9⟩, d10, d11⟩ := D
  refine split_right_c W C.G am (law_ch C ne (by rw [e]; omega)) e hF (C1.get (.tail _ (.tail _ (.head _)))) (C1.nobase (φ := Src) (.tail _ (.tail _ (.head _)))) (Ne.symm d5)
    fun r y dy p ps' F' t h' tk' kp hr nr ny ndy np rp c' e' hl => ?_
  have out : ∀ b, h.get? b = none → b ∉ (Z ++ tabs4 c1 c2 c3 c4).map (·.1) := fun b n q => by
    obtain ⟨s, hs, z⟩ := List.mem_map.mp q
    obtain ⟨o, w, _⟩ := (C1.N s (.tail _ (.tail _ (.tail _ (.tail _ hs))))).2.2
    rw [z, n] at w; cases w
  have ry : r ≠ y := by obtain ⟨o, z, n, rfl⟩ := hr; obtain ⟨o', z', rfl⟩ := c'.ix; exact get_ne z z' (by simp)
  have rd : r ≠ dy := by obtain ⟨o, z, n, rfl⟩ := hr; obtain ⟨o', z', _, _, _, rfl⟩ := c'.id; exact get_ne z z' (by simp)
  have oy : y ∉ (Z ++ tabs4 c1 c2 c3 c4).map (·.1) := by
    rcases ny with rfl | n
    · exact d10
    · exact out _ n
  have ody : dy ∉ (Z ++ tabs4 c1 c2 c3 c4).map (·.1) := by
    rcases ndy with rfl | n
    · exact d4
    · exact out _ n
  refine k r y dy p ps' F' t h' tk' (C1.upd kp (by intro t ht; simp only [List.mem_cons, List.not_mem_nil, or_false] at ht; simp only [List.map_cons, List.mem_cons]; grind) (fun s hs => ?_) ?_) c'.ne e' hl
  · simp only [List.mem_cons] at hs
    rcases hs with rfl | rfl | rfl | rfl | hs
    · rcases ndy with rfl | n
      · exact .inr (.inl ⟨by simp, c'.id⟩)
      · exact .inr (.inr ⟨n, c'.id⟩)
    · exact .inr (.inr ⟨np, c'.il⟩)
    · rcases ny with rfl | n
      · exact .inr (.inl ⟨by simp, c'.ix⟩)
      · exact .inr (.inr ⟨n, c'.ix⟩)
    · exact .inr (.inr ⟨nr, hr⟩)
    · have hm : s.1 ∈ (Z ++ tabs4 c1 c2 c3 c4).map (·.1) := List.mem_map_of_mem hs
      refine .inl ⟨.tail _ (.tail _ (.tail _ (.tail _ hs))), fun q => ?_⟩
      simp only [List.mem_cons, List.not_mem_nil, or_false] at q
      rcases q with q | q | q
      · exact d4 (q ▸ hm)
      · exact d7 (q ▸ hm)
      · exact d9 (q ▸ hm)
  · simp only [List.map_cons, List.nodup_cons, List.mem_cons, not_or]
    exact ⟨⟨c'.dl, Ne.symm c'.xd, Ne.symm rd, ody⟩, ⟨Ne.symm c'.xl, Ne.symm rp, out _ np⟩, ⟨Ne.symm ry, oy⟩, out _ nr, d11⟩
end
-- Z1
--4 the steps of MAC3 and MAC4 too
theorem grown_of {base h₀ h : Heap} {L P : Addr} {m : Str → Option Value} {l : List Fact} {cs : List Addr} (C : Cx base h₀ L h m l) (hm : (P, TabO cs) ∈ l) : GrownAt P h := by
  obtain ⟨o, e, ps, rfl, _⟩ := C.get hm
  exact ⟨ps, e⟩
theorem all_ints {ns : List Int} {vs : List Value} (h : IntsAre vs ns) : All2 IsI ns vs := by
  induction h with
  | nil => exact .nil
  | cons t n r ih => exact .cons ⟨_, rfl⟩ ih
theorem Cx.start {base h : Heap} {L : Addr} {m : Str → Option Value} (F : Fr base L h m) (N : News base L h [(331, tabObj #[]), (310, tabObj #[]), (305, tabObj #[]), (300, tabObj #[])]) : Cx base base L h m (tabs4 [] [] [] []) := by
  refine ⟨F, fun p hp => ?_, by decide, fun b o e => e⟩
  have hp : p = (300, TabO []) ∨ p = (305, TabO []) ∨ p = (310, TabO []) ∨ p = (331, TabO []) := by
    simpa [tabs4, T300, T305, T310, T331, tabL] using hp
  rcases hp with rfl | rfl | rfl | rfl
  · exact ⟨(N (300, tabObj #[]) (by simp)).2.1, (N (300, tabObj #[]) (by simp)).2.2, _, (N (300, tabObj #[]) (by simp)).1, tab_nil⟩
  · exact ⟨(N (305, tabObj #[]) (by simp)).2.1, (N (305, tabObj #[]) (by simp)).2.2, _, (N (305, tabObj #[]) (by simp)).1, tab_nil⟩
  · exact ⟨(N (310, tabObj #[]) (by simp)).2.1, (N (310, tabObj #[]) (by simp)).2.2, _, (N (310, tabObj #[]) (by simp)).1, tab_nil⟩
  · exact ⟨(N (331, tabObj #[]) (by simp)).2.1, (N (331, tabObj #[]) (by simp)).2.2, _, (N (331, tabObj #[]) (by simp)).1, tab_nil⟩
theorem Bm.of {p : Program} {loose : List Str} {mean : ExcName → Option Value} {mg mb : Str → Option Value} {h : Heap} (T : Top p loose mean mg mb h) : Bm h := by
  obtain ⟨bm, ob, b1, b2, b3, b4, b5, b6⟩ := T.bmain
  refine ⟨mg, bm, ob, T.g, b1, b2, fun q => ?_, b3, b4, b5, b6⟩
  obtain ⟨o, es, ep, e, hd, _⟩ := T.g
  rw [q, e] at b3; cases b3; rw [hd] at b6; cases b6
theorem order8 {base h₀ h : Heap} {L : Addr} {m : Str → Option Value} {p l x dx b a i : Fact} {R : List Fact} (C : Cx base h₀ L h m (p :: l :: x :: dx :: b :: a :: i :: R)) : Cx base h₀ L h m (p :: i :: dx :: l :: a :: x :: R) := by
  have C := C.drop (l' := p :: l :: x :: dx :: a :: i :: R) (.cons_cons _ (.cons_cons _ (.cons_cons _ (.cons_cons _ (.cons _ (.refl _))))))
  exact C.perm (by
    classical
    rw [List.perm_iff_count]; intro z; simp only [List.count_cons]; ac_rfl)
section
variable {prog : Program} {w : World} {A : Around} {E : Value → Shared → Prop} {base h : Heap} {g : Array GenState} {d : Drawn} {tk : Nat} {os : OsState}
variable {L sc fa : Addr} {cd : Value} {vs : List Value} {ns : List Int} {Q : Flow → Shared → Prop}
theorem law_c (W : Wd w base) (B : Bm base) (h300 : CodeHd base 302 300) (h305 : CodeHd base 307 305) (h310 : CodeHd base 314 310) (h331 : CodeHd base 333 331) (am : Amb A 21) (hfr : A.frames = some [envX "law" hd.S341 L fa cd []])
    (hs : Has base (sc, IlO vs)) (hi : All2 IsI ns vs) (hl : vs.length ≤ 63) (C : Cx base base L h (fun y => ([("script", Value.ref sc)] : List (Str × Value)).reverse.lookup y) (tabs4 [] [] [] []))
    (k : ∀ h' tk' m' c1 c2 c3 c4, Cx base base L h' m' (tabs4 c1 c2 c3 c4) → Q (.ret (.bool true)) ⟨h', g, d, tk', os⟩) :
    wpAny (model prog w) A (execs hd.B341 (envX "law" hd.S341 L fa cd [])) Q E ⟨h, g, d, tk, os⟩ := by
  have hk0 : (envX "law" hd.S341 L fa cd []).scope.kind ≠ .module := by show ScopeKind.function ≠ .module; decide
  have hf0 : (envX "law" hd.S341 L fa cd []).frame = some L := rfl
  repeat kbo_bools
  rename Cx _ _ _ _ _ _ => C
  refine len_I (C.old hs) (by omega) ?_
  repeat kbo_bools
  rename Cx _ _ _ _ _ _ => C
  refine iter_R C (C.get (List.Mem.head _)) am.hh (by decide) (by decide) (by omega) (by omega) fun I h₂ T C => ?_
  replace C := C.drop2
  refine forI T (fun i m l => (∃ c1 c2 c3 c4, l = tabs4 c1 c2 c3 c4) ∧ m "script" = some (.ref sc)) C ⟨⟨[], [], [], [], rfl⟩, rfl⟩ (fun i m l h' _ C => trivial) ?_ ?_ rfl rfl rfl
  · rintro i v m₁ l₁ h₁ tk₁ hi' ⟨ti, rfl⟩ ⟨⟨c1, c2, c3, c4, rfl⟩, ms⟩ C K kn kr
    generalize RiO _ _ = φ at C kn
    repeat kbo_bools
    rename Cx _ _ _ _ _ _ => C
    refine pool_c W C.G (am.mono (by decide)) (C.old hs) hi hl (by omega) (by omega) fun a h₃ tk₃ kp hn hsrc => ?_
    replace C := C.add (C.kp kp) rfl hn hsrc
    repeat kbo_bools
    rename Cx _ _ _ _ _ _ => C
    refine lparts_c W C.G (am.mono (by decide)) (C.get (.head _)) (C.nobase (.head _)) fun b ps h₄ tk₄ l1 l2 kp hsrc hb hps => ?_
    replace C := C.add (C.at (At.self (.head _)) kp hsrc) rfl hb hps
    repeat kbo_bools
    rename Cx _ _ _ _ _ _ => C
    refine make_c C W (am.mono (by decide)) (C.get (.head _)) (by omega) (by omega) fun x dx l h₅ tk₅ C kp n1 n2 n3 ch => ?_
    repeat kbo_bools
    obtain ⟨us, hu, zu⟩ := has_LR (C.get (a := b) (φ := LB ps) (.tail _ (.tail _ (.tail _ (.head _)))))
    refine BJ.join hu zu (by omega) fun t₆ tk₆ => ?_
    repeat kbo_bools
    rename_i v0 v1 _ _ _
    rename Cx _ _ _ _ _ _ => C
    refine iter_R C (C.get (List.Mem.head _)) am.hh (by decide) (by decide) (by omega) (by omega) fun I' h₂ T' C => ?_
    replace C := order8 C.drop2.drop2
    refine forI T' (fun i m f => ∃ l₀ ps F t, f = lawL [(I, φ)] a x dx l₀ ps c1 c2 c3 c4 ∧ (∀ p ∈ ps, p ≠ []) ∧ ps.flatten = F ∧ F.length ≤ 12 + 6 * i ∧ i ≤ 5 ∧ m "whole" = some (.bytes F.toArray t) ∧ m "chain" = some (.ref x) ∧ m "source" = some (.ref a) ∧ m "script" = some (.ref sc)) C
      ⟨l, full ps, _, _, rfl, full_ne _, full_flat _, by omega, by omega, rfl, rfl, by k_updF, by k_updF⟩ (fun i m l h' _ C => trivial) ?_ ?_ rfl rfl rfl
    · rintro j v m₂ l₂ h₂ tk₂ hj ⟨tj, rfl⟩ ⟨l₀, ps, F, t, rfl, ne, e, hF, hj5, mw, mc, msr, msc⟩ C K kn kr
      repeat kbo_bools
      rename Cx _ _ _ _ _ _ => C
      refine changed_x (Z := [_, _]) C W (am.mono (by decide)) ne e (by omega) fun l' ps' F' t' h' tk' C ne' e' hl' => ?_
      repeat kbo_bools
      rename Cx _ _ _ _ _ _ => C
      refine is_c W C.G (am.mono (by decide)) (law_ch C ne' (by rw [e']; omega)) e' fun h' tk' kp => ?_
      replace C := C.kp kp
      repeat kbo_bools
      exact kn _ ⟨_, _, _, _, rfl, C, l', ps', F', _, rfl, ne', e', by omega, by omega, rfl, by k_updF, by k_updF, by k_updF⟩
    · rintro h' tk' m' l' ⟨l₀, ps, F, t, rfl, ne, e, hF, hj5, mw, mc, msr, msc⟩ C
      repeat kbo_bools
      rename Cx _ _ _ _ _ _ => C
      refine looked_x (Z := [_]) C W B h300 (am.mono (by decide)) hfr hf0 hk0 ne e (by omega) fun c1' h' tk' C => ?_
      repeat kbo_bools
      refine packed_x (Z := [_]) C W B h305 (am.mono (by decide)) hfr hf0 hk0 ne e (by omega) fun c2' h' tk' C => ?_
      repeat kbo_bools
      refine cut_x (Z := [_]) C W B h310 (am.mono (by decide)) hfr hf0 hk0 ne e (by omega) fun c3' h' tk' C => ?_
      repeat kbo_bools
      refine refusals_x (Z := [_]) C W B h331 (am.mono (by decide)) hfr hf0 hk0 ne e (by omega) fun c4' h' tk' C => ?_
      repeat kbo_bools
      refine split_x (Z := [_]) C W (am.mono (by decide)) ne e (by omega) fun r y dy p qs F' t' h' tk' C ne' e' hF' => ?_
      repeat kbo_bools
      refine asgLs C (C.get (.tail _ (.tail _ (.tail _ (.head _))))) am.hh rfl rfl fun h' C => ?_
      have hz : F'.length ≤ 1000000 := by omega
      repeat kbo_bools
      rename Cx _ _ _ _ _ _ => C
      have ch : Ch base _ y dy p qs := ⟨C.nobase (φ := InO dy) (by k_mem), C.nobase (φ := DiO p) (by k_mem), C.nobase (φ := LB qs) (by k_mem), C.get (by k_mem), C.get (by k_mem), C.get (by k_mem), ne', by rw [e']; omega⟩
      refine take_front_c W C.G (am.mono (by decide)) ch (by omega) (by rw [e']; omega) fun l' qs' t' h' tk' kp hl' c' e'' => ?_
      replace C := C.mut kp hl' c'
      repeat kbo_bools
      refine ifF (by rw [e', Int.toNat_natCast, List.take_length]; simp) ?_
      repeat kbo_bools
      rename Cx _ _ _ _ _ _ => C
      refine is_c W C.G (am.mono (by decide)) ⟨c'.bx, c'.bd, c'.bl, C.get (by k_mem), C.get (by k_mem), C.get (by k_mem), c'.ne, c'.sz⟩ (e''.trans (by rw [e', Int.toNat_natCast, List.drop_length])) fun h' tk' kp => ?_
      replace C := C.kp kp
      repeat kbo_bools
      exact kn _ ⟨_, _, _, _, rfl, C.drop (.cons _ (.cons _ (.cons _ (.cons _ (.refl _))))), ⟨c1', c2', c3', c4', rfl⟩, by k_updF⟩
  · rintro h' tk' m' l' ⟨⟨c1, c2, c3, c4, rfl⟩, ms⟩ C
    repeat kbo_bools
    exact k _ _ _ _ _ _ _ C
end
theorem law_holds : PySem.Challenge.rw_nu0128_01.Holds := hd.walk (by
  unfold WalkO
  dsimp only [hd.lawRec, hd.hook, hd.row]
  k_go0
  all_goals try k_fold
  rename News _ _ _ _ => N0
  rename Fr _ _ _ _ => F0
  rename Top topProg _ _ _ _ _ => T0
  rename Frag.In _ _ => X0
  rename IntsAre _ _ => hI
  rename Heap.IsList _ _ _ => hs
  rename ¬ _ < _ => hlen
  rename _ = #[] => hg
  rename Below _ _ _ _ => K0
  generalize hbase : ghostOf _ _ = base at *
  have h331 : CodeHd base 333 331 := by assumption
  have h310 : CodeHd base 314 310 := by assumption
  have h305 : CodeHd base 307 305 := by assumption
  have h300 : CodeHd base 302 300 := by assumption
  have W : Wd _ base := ⟨X0, _, _, _, _, topRead_of T0⟩
  have B := Bm.of T0
  have hv := all_ints hI
  have C := Cx.start F0 N0
  have hl := hv.length
  refine wpAny_mono (law_c (Q := fun f s' => ∃ h' tk' m' c1 c2 c3 c4, f = .ret (.bool true) ∧ s' = ⟨h', _, _, tk', _⟩ ∧ Cx base base _ h' m' (tabs4 c1 c2 c3 c4)) (E := fun _ _ => False) W B h300 h305 h310 h331 ⟨rfl, by show callerA.depth + 1 + 21 < recursionLimit; decide, by show callerA.units + 3 + 10 * 21 < cLine; decide⟩ (Around.frames_deeper K0.stack) hs hv (by omega) C
    fun h' tk' m' c1 c2 c3 c4 C => ⟨h', tk', m', c1, c2, c3, c4, rfl, rfl, C⟩) (fun f s' z => ?_) fun _ _ z => z.elim
  obtain ⟨h', tk', m', c1, c2, c3, c4, rfl, rfl, C⟩ := z
  refine ⟨goodW_bool (s₁ := ⟨base, _, _, _, _⟩) C.F hg (fun _ => rfl) (postW_of (by wrow_shape) (by wtm_val) (by w_fin)), grown_of C (cs := c4) (by simp [tabL]), grown_of C (cs := c3) (by simp [tabL]), grown_of C (cs := c2) (by simp [tabL]), grown_of C (cs := c1) (by simp [tabL]), trivial⟩)
end NU
theorem PySem.Challenge.cw_nu0128_01_holds : PySem.Challenge.rw_nu0128_01.Holds :=
  NU.law_holds
