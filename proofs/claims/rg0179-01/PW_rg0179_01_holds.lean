import PyProof.Rows.All
import Wide.All
import OpenK.AllK
import Wide.FinOn
import PySem.Challenge.RW_rg0179_01
set_option Elab.async false
section PartHD
open PySem PySem.W PySem.Calls PyProof.Rows
set_option maxRecDepth 100000
set_option maxHeartbeats 8000000
namespace Mine
def topRunT (tb : String → Option Builtin) (p : Program) (w : World) (n₀ : Nat) (ann : Option Value) : Nat → SharedT → Thread → Option SharedT
  | 0, _, _ => none
  | n + 1, s, t => match through t with
    | true => some s
    | false => match stepOk n₀ ann t with
      | false => none
      | true => match stepT (denote tb) p w s t with
        | some (s', t') => topRunT tb p w n₀ ann n s' t'
        | none => none
theorem topRun_ofT {tb : String → Option Builtin} {p : Program} {w : World} {n₀ : Nat} {ann : Option Value} : ∀ {n : Nat} {s s' : SharedT} {t : Thread}, topRunT tb p w n₀ ann n s t = some s' → topRun tb p w n₀ ann n s.abs t = some s'.abs
  | 0, _, _, _, h => by cases h
  | n + 1, s, s', t, h => by
    unfold topRunT at h
    unfold topRun
    cases ht : through t with
    | true => rw [ht] at h; cases h; rfl
    | false =>
      rw [ht] at h
      cases hk : stepOk n₀ ann t with
      | false => rw [hk] at h; cases h
      | true =>
        rw [hk] at h
        cases hs : stepT (denote tb) p w s t with
        | none => rw [hs] at h; cases h
        | some r => obtain ⟨s₂, t₂⟩ := r; rw [hs] at h; rw [stepT_spec hs]; exact topRun_ofT h
def insAll : List Obj → Nat → BT → BT
  | [], _, t => t
  | o :: l, n, t => insAll l (n + 1) (t.ins n o)
noncomputable def bootT (P : Params) : BT := insAll (boot_heap P).objs.toList 0 .nil
def lookAt {α : Type} (p q : Program) (loose : List Str) (Xt : Shared → Bool) (Yf : Shared → α) (h₀ : Heap) (s : Shared) :=
  ((staticsOk (importedModules p.main.body) h₀ s.heap && namesBound p s.heap && gensDone s && laidKept h₀ s.heap), openSeen q loose (importedModules p.main.body) Xt true s, Yf s)
theorem left_tree {p q : Program} {loose : List Str} {Xt : Shared → Bool} {α : Type} {Yf : Shared → α} {Ya : World → α} {N m₀ : Nat} {ann : Option Value} (row : String)
    (open_ : ∀ w : World, (fencedOpening treeTable p w N).map (fun s => (s.heap, s.gens, s.drawn, s.toks)) = some (boot_heap w.params, Array.mk [], boot_drawn, boot_toks))
    (hT : ∀ P, absHeap (bootT P) m₀ (boot_heap P).life = boot_heap P)
    (size : ∀ w : World, ((boot_heap w.params).isNs mainGlobals, (boot_heap w.params).objs.size, (boot_heap w.params).nsMap mainGlobals "__annotations__") = (true, m₀, ann))
    (run : ∀ (b : Bool) (w : World) (os : OsState), (topRunT treeTable p (w.withFollow row b) m₀ ann N ⟨bootT (w.withFollow row b).params, m₀, (boot_heap (w.withFollow row b).params).life, Array.mk [], boot_drawn, boot_toks, os⟩ (topStub p)).map (fun s => lookAt p q loose Xt Yf (boot_heap (w.withFollow row b).params) s.abs) =
      some (true, openGood q loose, Ya (w.withFollow row b))) : LeftO p q loose Xt Yf Ya N := fun w => by
  have rw1 : ∀ os, (topRunT treeTable p w m₀ ann N ⟨bootT w.params, m₀, (boot_heap w.params).life, Array.mk [], boot_drawn, boot_toks, os⟩ (topStub p)).map (fun s => lookAt p q loose Xt Yf (boot_heap w.params) s.abs) = some (true, openGood q loose, Ya w) := fun os => by
    have e := World.withFollow_self w row
    have r := run (w.params.followText row) w os
    rw [e] at r
    exact r
  clear run
  obtain ⟨⟨h, gs, d, k, os⟩, e, e'⟩ := Option.map_eq_some_iff.mp (open_ w)
  obtain ⟨rfl, rfl, rfl, rfl⟩ : h = boot_heap w.params ∧ gs = Array.mk [] ∧ d = boot_drawn ∧ k = boot_toks := by simpa using e'
  obtain ⟨z1, z2, z3⟩ : _ ∧ _ ∧ _ := by simpa only [Prod.mk.injEq] using size w
  obtain ⟨s₁, r, l⟩ := Option.map_eq_some_iff.mp (rw1 os)
  have r2 := topRun_ofT r
  rw [show (SharedT.abs ⟨bootT w.params, m₀, (boot_heap w.params).life, Array.mk [], boot_drawn, boot_toks, os⟩ : Shared) = ⟨boot_heap w.params, Array.mk [], boot_drawn, boot_toks, os⟩ from by
    show (⟨absHeap _ _ _, _, _, _, _⟩ : Shared) = _
    rw [hT]] at r2
  obtain ⟨l1, l2, l3⟩ : _ ∧ _ ∧ _ := by simpa only [lookAt, Prod.mk.injEq] using l
  have t : topFrom treeTable p w N ⟨boot_heap w.params, Array.mk [], boot_drawn, boot_toks, os⟩ = some s₁.abs := by
    unfold topFrom
    dsimp only
    rw [z1, z2, z3, r2]
    show (match staticsOk (importedModules p.main.body) (boot_heap w.params) s₁.abs.heap && namesBound p s₁.abs.heap && gensDone s₁.abs && laidKept (boot_heap w.params) s₁.abs.heap with | true => _ | false => _) = _
    rw [l1]
  unfold openEnds
  rw [e]
  show (topFrom treeTable p w N _).map _ = _
  rw [t]
  exact congrArg some (Prod.ext l2 l3)
theorem boot_abs : ∀ P, absHeap (bootT P) (boot_heap P).objs.size (boot_heap P).life = boot_heap P := fun P => by kernel_rfl
theorem boot_size : ∀ w : World, ((boot_heap w.params).isNs mainGlobals, (boot_heap w.params).objs.size, (boot_heap w.params).nsMap mainGlobals "__annotations__") = (true, 11, some (.ref 6)) := fun w => by kernel_rfl
def hd.view_39 : Program := view PySem.Challenge.pw_rg0179_01 [1,2,3,4,5,6,7,9,10,12,13,14,15,16,17,18,20,22,23,24,25,26,27,28,29,30,31,32,33,35,36]
def fnS : Option Stmt → Arguments × FuncBody × Scope
  | some (.FunctionDef _ a b _ _ _ sc _ _ _) => (a, .stmts b, sc)
  | _ => (default, default, default)
def fnT (i : Nat) : Arguments × FuncBody × Scope := fnS (PySem.Challenge.pw_rg0179_01.main.body[i]?)
def fnM (i j : Nat) : Arguments × FuncBody × Scope := match PySem.Challenge.pw_rg0179_01.main.body[i]? with
  | some (.ClassDef _ _ _ b _ _ _ _ _ _ _) => fnS (b[j]?)
  | _ => (default, default, default)
def hd.heap_39 : Params → Frag := fun P =>
  ((nat_lit 2), (PySem.Obj.mk PySem.Value.none none (PySem.Data.dict (List.toArray [(PySem.DictEntry.mk (PySem.PyData.keyHash P (PySem.Str.ofString "type.__subclasses__.Exception.0")) (PySem.Value.str (PySem.Str.ofString "type.__subclasses__.Exception.0") 426) (PySem.Value.int 160 0)), (PySem.DictEntry.mk (PySem.PyData.keyHash P (PySem.Str.ofString "type.__subclasses__.Exception.n")) (PySem.Value.str (PySem.Str.ofString "type.__subclasses__.Exception.n") 427) (PySem.Value.int 1 0))]) 2) (List.toArray []))) ::
  ((nat_lit 3), (PySem.Obj.mk (PySem.Value.type "dict") none (PySem.Data.dict (List.toArray ((PySem.DictEntry.mk (PySem.PyData.keyHash P (PySem.Str.ofString "__name__")) (PySem.Value.str (PySem.Str.ofString "__name__") 165) (PySem.Value.str (PySem.Str.ofString "law_rg0179_01") 689)) :: (PySem.DictEntry.mk (PySem.PyData.keyHash P (PySem.Str.ofString "__doc__")) (PySem.Value.str (PySem.Str.ofString "__doc__") 166) PySem.Value.none) :: (PySem.DictEntry.mk (PySem.PyData.keyHash P (PySem.Str.ofString "__package__")) (PySem.Value.str (PySem.Str.ofString "__package__") 167) PySem.Value.none) :: (PySem.DictEntry.mk (PySem.PyData.keyHash P (PySem.Str.ofString "__loader__")) (PySem.Value.str (PySem.Str.ofString "__loader__") 168) (PySem.Value.builtin "__main__.__loader__#opaque")) :: (PySem.DictEntry.mk (PySem.PyData.keyHash P (PySem.Str.ofString "__spec__")) (PySem.Value.str (PySem.Str.ofString "__spec__") 169) PySem.Value.none) :: (PySem.DictEntry.mk (PySem.PyData.keyHash P (PySem.Str.ofString "__annotations__")) (PySem.Value.str (PySem.Str.ofString "__annotations__") 170) (PySem.Value.ref 6)) :: (PySem.DictEntry.mk (PySem.PyData.keyHash P (PySem.Str.ofString "__builtins__")) (PySem.Value.str (PySem.Str.ofString "__builtins__") 171) (PySem.Value.ref 4)) :: (PySem.DictEntry.mk (PySem.PyData.keyHash P (PySem.Str.ofString "__file__")) (PySem.Value.str (PySem.Str.ofString "__file__") 173) (PySem.Value.str (PySem.Str.ofString "/claim/cut.py") 172)) :: (PySem.DictEntry.mk (PySem.PyData.keyHash P (PySem.Str.ofString "__cached__")) (PySem.Value.str (PySem.Str.ofString "__cached__") 174) PySem.Value.none) :: (PySem.DictEntry.mk (PySem.PyData.keyHash P (PySem.Str.ofString "LETTERS")) (PySem.Value.str (PySem.Str.ofString "LETTERS") 253) (PySem.Value.ref 47)) :: (PySem.DictEntry.mk (PySem.PyData.keyHash P (PySem.Str.ofString "PARTS")) (PySem.Value.str (PySem.Str.ofString "PARTS") 266) (PySem.Value.ref 54)) :: (PySem.DictEntry.mk (PySem.PyData.keyHash P (PySem.Str.ofString "is_among")) (PySem.Value.str (PySem.Str.ofString "is_among") 276) (PySem.Value.ref 61)) :: (PySem.DictEntry.mk (PySem.PyData.keyHash P (PySem.Str.ofString "is_digit")) (PySem.Value.str (PySem.Str.ofString "is_digit") 283) (PySem.Value.ref 68)) :: (PySem.DictEntry.mk (PySem.PyData.keyHash P (PySem.Str.ofString "hex_value")) (PySem.Value.str (PySem.Str.ofString "hex_value") 290) (PySem.Value.ref 75)) :: (PySem.DictEntry.mk (PySem.PyData.keyHash P (PySem.Str.ofString "is_id_start")) (PySem.Value.str (PySem.Str.ofString "is_id_start") 297) (PySem.Value.ref 82)) :: (PySem.DictEntry.mk (PySem.PyData.keyHash P (PySem.Str.ofString "is_id_part")) (PySem.Value.str (PySem.Str.ofString "is_id_part") 304) (PySem.Value.ref 89)) :: (PySem.DictEntry.mk (PySem.PyData.keyHash P (PySem.Str.ofString "code_at")) (PySem.Value.str (PySem.Str.ofString "code_at") 314) (PySem.Value.ref 96)) :: (PySem.DictEntry.mk (PySem.PyData.keyHash P (PySem.Str.ofString "hex_at")) (PySem.Value.str (PySem.Str.ofString "hex_at") 326) (PySem.Value.ref 103)) :: (PySem.DictEntry.mk (PySem.PyData.keyHash P (PySem.Str.ofString "GREATEST")) (PySem.Value.str (PySem.Str.ofString "GREATEST") 330) (PySem.Value.int 65535 329)) :: (PySem.DictEntry.mk (PySem.PyData.keyHash P (PySem.Str.ofString "DIGITS")) (PySem.Value.str (PySem.Str.ofString "DIGITS") 333) (PySem.Value.ref 105)) :: (PySem.DictEntry.mk (PySem.PyData.keyHash P (PySem.Str.ofString "WORDS")) (PySem.Value.str (PySem.Str.ofString "WORDS") 342) (PySem.Value.ref 110)) :: (PySem.DictEntry.mk (PySem.PyData.keyHash P (PySem.Str.ofString "SPACES")) (PySem.Value.str (PySem.Str.ofString "SPACES") 365) (PySem.Value.ref 122)) :: (PySem.DictEntry.mk (PySem.PyData.keyHash P (PySem.Str.ofString "merged")) (PySem.Value.str (PySem.Str.ofString "merged") 376) (PySem.Value.ref 129)) :: (PySem.DictEntry.mk (PySem.PyData.keyHash P (PySem.Str.ofString "inverted")) (PySem.Value.str (PySem.Str.ofString "inverted") 387) (PySem.Value.ref 136)) :: (PySem.DictEntry.mk (PySem.PyData.keyHash P (PySem.Str.ofString "named_lot")) (PySem.Value.str (PySem.Str.ofString "named_lot") 396) (PySem.Value.ref 143)) :: (PySem.DictEntry.mk (PySem.PyData.keyHash P (PySem.Str.ofString "JSFail")) (PySem.Value.str (PySem.Str.ofString "JSFail") 429) (PySem.Value.ref 160)) :: (PySem.DictEntry.mk (PySem.PyData.keyHash P (PySem.Str.ofString "SPECIAL")) (PySem.Value.str (PySem.Str.ofString "SPECIAL") 433) (PySem.Value.str (PySem.Str.ofString "^$\\.*+?()[]{}|") 432)) :: (PySem.DictEntry.mk (PySem.PyData.keyHash P (PySem.Str.ofString "CONTROLS")) (PySem.Value.str (PySem.Str.ofString "CONTROLS") 449) (PySem.Value.ref 164)) :: (PySem.DictEntry.mk (PySem.PyData.keyHash P (PySem.Str.ofString "PLAIN")) (PySem.Value.str (PySem.Str.ofString "PLAIN") 460) (PySem.Value.ref 165)) :: (PySem.DictEntry.mk (PySem.PyData.keyHash P (PySem.Str.ofString "ENDS")) (PySem.Value.str (PySem.Str.ofString "ENDS") 464) (PySem.Value.ref 169)) :: (PySem.DictEntry.mk (PySem.PyData.keyHash P (PySem.Str.ofString "MOST_COUNT")) (PySem.Value.str (PySem.Str.ofString "MOST_COUNT") 466) (PySem.Value.int 1000000000 465)) :: (PySem.DictEntry.mk (PySem.PyData.keyHash P (PySem.Str.ofString "MOST_DEEP")) (PySem.Value.str (PySem.Str.ofString "MOST_DEEP") 468) (PySem.Value.int 40 467)) :: (PySem.DictEntry.mk (PySem.PyData.keyHash P (PySem.Str.ofString "ASSERTIONS")) (PySem.Value.str (PySem.Str.ofString "ASSERTIONS") 477) (PySem.Value.ref 178)) :: (PySem.DictEntry.mk (PySem.PyData.keyHash P (PySem.Str.ofString "fail")) (PySem.Value.str (PySem.Str.ofString "fail") 484) (PySem.Value.ref 185)) :: (PySem.DictEntry.mk (PySem.PyData.keyHash P (PySem.Str.ofString "parse_flags")) (PySem.Value.str (PySem.Str.ofString "parse_flags") 492) (PySem.Value.ref 192)) :: (PySem.DictEntry.mk (PySem.PyData.keyHash P (PySem.Str.ofString "is_decimal")) (PySem.Value.str (PySem.Str.ofString "is_decimal") 499) (PySem.Value.ref 199)) :: (PySem.DictEntry.mk (PySem.PyData.keyHash P (PySem.Str.ofString "PatternReader")) (PySem.Value.str (PySem.Str.ofString "PatternReader") 678) (PySem.Value.ref 328)) :: (PySem.DictEntry.mk (PySem.PyData.keyHash P (PySem.Str.ofString "parse_pattern")) (PySem.Value.str (PySem.Str.ofString "parse_pattern") 688) (PySem.Value.ref 339)) :: (PySem.DictEntry.mk (PySem.PyData.keyHash P (PySem.Str.ofString "_law_figures")) (PySem.Value.str (PySem.Str.ofString "_law_figures") 698) (PySem.Value.ref 346)) :: (PySem.DictEntry.mk (PySem.PyData.keyHash P (PySem.Str.ofString "law")) (PySem.Value.str (PySem.Str.ofString "law") 713) (PySem.Value.ref 353)) :: [])) 40) (List.toArray []))) ::
  ((nat_lit 151), (PySem.Obj.mk (PySem.Value.type "tuple") none (PySem.Data.seq (List.toArray []) 0) (List.toArray []))) ::
  ((nat_lit 153), (PySem.Obj.mk (PySem.Value.type "tuple") none (PySem.Data.seq (List.toArray [(PySem.Value.str (PySem.Str.ofString "self") 414), (PySem.Value.str (PySem.Str.ofString "kind") 415), (PySem.Value.str (PySem.Str.ofString "text") 416)]) 0) (List.toArray []))) ::
  ((nat_lit 154), (PySem.Obj.mk (PySem.Value.type "tuple") none (PySem.Data.seq (List.toArray []) 0) (List.toArray []))) ::
  ((nat_lit 156), (PySem.Obj.mk (PySem.Value.type "code") none (PySem.Data.fields (List.toArray [(PySem.Value.str (PySem.Str.ofString "__init__") 411), (PySem.Value.str (PySem.Str.ofString "JSFail.__init__") 412), (PySem.Value.str (PySem.Str.ofString "/claim/cut.py") 413), (PySem.Value.int 67 0), (PySem.Value.int 3 0), (PySem.Value.int 0 0), (PySem.Value.int 0 0), (PySem.Value.int 3 0), (PySem.Value.ref 151), (PySem.Value.bool Bool.true), (PySem.Value.int 181 0), (PySem.Value.ref 152), PySem.Value.none, (PySem.Value.ref 153), (PySem.Value.ref 154), (PySem.Value.ref 155), (PySem.Value.int 417 0), (PySem.Value.int 67 0), (PySem.Value.str (PySem.Str.ofString "/claim/cut.py") 418)])) (List.toArray []))) ::
  ((nat_lit 157), (PySem.Obj.mk (PySem.Value.type "function") none (PySem.Data.func (PySem.FuncData.mk (PySem.Str.ofString "__init__") (PySem.Str.ofString "JSFail.__init__") (fnM 20 0).1 (fnM 20 0).2.1 (fnM 20 0).2.2 3 [] PySem.Value.none PySem.Value.none PySem.Value.none (PySem.Value.str (PySem.Str.ofString "js.values") 397) none (PySem.Value.ref 156) PySem.Value.none 0)) (List.toArray []))) ::
  ((nat_lit 158), (PySem.Obj.mk (PySem.Value.type "tuple") none (PySem.Data.seq (List.toArray [(PySem.Value.str (PySem.Str.ofString "kind") 420), (PySem.Value.str (PySem.Str.ofString "text") 421)]) 0) (List.toArray []))) ::
  ((nat_lit 159), (PySem.Obj.mk (PySem.Value.type "dict") none (PySem.Data.dict (List.toArray [(PySem.DictEntry.mk (PySem.PyData.keyHash P (PySem.Str.ofString "__module__")) (PySem.Value.str (PySem.Str.ofString "__module__") 406) (PySem.Value.str (PySem.Str.ofString "js.values") 397)), (PySem.DictEntry.mk (PySem.PyData.keyHash P (PySem.Str.ofString "__firstlineno__")) (PySem.Value.str (PySem.Str.ofString "__firstlineno__") 410) (PySem.Value.int 65 409)), (PySem.DictEntry.mk (PySem.PyData.keyHash P (PySem.Str.ofString "__init__")) (PySem.Value.str (PySem.Str.ofString "__init__") 419) (PySem.Value.ref 157)), (PySem.DictEntry.mk (PySem.PyData.keyHash P (PySem.Str.ofString "__static_attributes__")) (PySem.Value.str (PySem.Str.ofString "__static_attributes__") 422) (PySem.Value.ref 158)), (PySem.DictEntry.mk (PySem.PyData.keyHash P (PySem.Str.ofString "__weakref__")) (PySem.Value.str (PySem.Str.ofString "__weakref__") 424) (PySem.Value.ref 161)), (PySem.DictEntry.mk (PySem.PyData.keyHash P (PySem.Str.ofString "__doc__")) (PySem.Value.str (PySem.Str.ofString "__doc__") 425) PySem.Value.none)]) 3) (List.toArray []))) ::
  ((nat_lit 160), (PySem.Obj.mk (PySem.Value.type "type") none (PySem.Data.cls (PySem.ClassData.mk (PySem.Str.ofString "JSFail") [(PySem.Value.type "Exception")] [(PySem.Value.ref 160), (PySem.Value.type "Exception"), (PySem.Value.type "BaseException"), (PySem.Value.type "object")] 159 (PySem.Str.ofString "JSFail") Bool.true [] [] Bool.false none Bool.false)) (List.toArray [(some (PySem.Value.ref 144)), none, (some (PySem.Value.str (PySem.Str.ofString "JSFail") 399)), (some (PySem.Value.str (PySem.Str.ofString "JSFail") 407)), (some (PySem.Value.builtin "Exception.__new__")), (some (PySem.Value.bool Bool.true))]))) ::
  ((nat_lit 161), (PySem.Obj.mk (PySem.Value.type "getset_descriptor") none (PySem.Data.fields (List.toArray [(PySem.Value.str (PySem.Str.ofString "__weakref__") 423), (PySem.Value.ref 160), (PySem.Value.builtin "ExceptionGroup.__weakref__"), PySem.Value.none])) (List.toArray []))) ::
  ((nat_lit 164), (PySem.Obj.mk (PySem.Value.type "dict") none (PySem.Data.dict (List.toArray [(PySem.DictEntry.mk (PySem.PyData.keyHash P (PySem.Str.ofString "f")) (PySem.Value.str (PySem.Str.ofString "f") 434) (PySem.Value.int 12 435)), (PySem.DictEntry.mk (PySem.PyData.keyHash P (PySem.Str.ofString "n")) (PySem.Value.str (PySem.Str.ofString "n") 436) (PySem.Value.int 10 437)), (PySem.DictEntry.mk (PySem.PyData.keyHash P (PySem.Str.ofString "r")) (PySem.Value.str (PySem.Str.ofString "r") 438) (PySem.Value.int 13 439)), (PySem.DictEntry.mk (PySem.PyData.keyHash P (PySem.Str.ofString "t")) (PySem.Value.str (PySem.Str.ofString "t") 440) (PySem.Value.int 9 441)), (PySem.DictEntry.mk (PySem.PyData.keyHash P (PySem.Str.ofString "v")) (PySem.Value.str (PySem.Str.ofString "v") 442) (PySem.Value.int 11 443))]) 5) (List.toArray []))) ::
  ((nat_lit 165), (PySem.Obj.mk (PySem.Value.type "dict") none (PySem.Data.dict (List.toArray [(PySem.DictEntry.mk (PySem.PyData.keyHash P (PySem.Str.ofString "*")) (PySem.Value.str (PySem.Str.ofString "*") 450) (PySem.Value.ref 166)), (PySem.DictEntry.mk (PySem.PyData.keyHash P (PySem.Str.ofString "+")) (PySem.Value.str (PySem.Str.ofString "+") 452) (PySem.Value.ref 167)), (PySem.DictEntry.mk (PySem.PyData.keyHash P (PySem.Str.ofString "?")) (PySem.Value.str (PySem.Str.ofString "?") 454) (PySem.Value.ref 168))]) 3) (List.toArray []))) ::
  ((nat_lit 166), (PySem.Obj.mk (PySem.Value.type "tuple") none (PySem.Data.seq (List.toArray [(PySem.Value.int 0 451), PySem.Value.none]) 0) (List.toArray []))) ::
  ((nat_lit 167), (PySem.Obj.mk (PySem.Value.type "tuple") none (PySem.Data.seq (List.toArray [(PySem.Value.int 1 453), PySem.Value.none]) 0) (List.toArray []))) ::
  ((nat_lit 168), (PySem.Obj.mk (PySem.Value.type "tuple") none (PySem.Data.seq (List.toArray [(PySem.Value.int 0 455), (PySem.Value.int 1 456)]) 0) (List.toArray []))) ::
  ((nat_lit 169), (PySem.Obj.mk (PySem.Value.type "tuple") none (PySem.Data.seq (List.toArray [(PySem.Value.str (PySem.Str.ofString "") 461), (PySem.Value.str (PySem.Str.ofString "|") 462), (PySem.Value.str (PySem.Str.ofString ")") 463)]) 0) (List.toArray []))) ::
  ((nat_lit 170), (PySem.Obj.mk (PySem.Value.type "tuple") none (PySem.Data.seq (List.toArray [(PySem.Value.str (PySem.Str.ofString "start") 470)]) 0) (List.toArray []))) ::
  ((nat_lit 171), (PySem.Obj.mk (PySem.Value.type "tuple") none (PySem.Data.seq (List.toArray [(PySem.Value.str (PySem.Str.ofString "^") 469), (PySem.Value.ref 170)]) 0) (List.toArray []))) ::
  ((nat_lit 172), (PySem.Obj.mk (PySem.Value.type "tuple") none (PySem.Data.seq (List.toArray [(PySem.Value.str (PySem.Str.ofString "end") 472)]) 0) (List.toArray []))) ::
  ((nat_lit 173), (PySem.Obj.mk (PySem.Value.type "tuple") none (PySem.Data.seq (List.toArray [(PySem.Value.str (PySem.Str.ofString "$") 471), (PySem.Value.ref 172)]) 0) (List.toArray []))) ::
  ((nat_lit 174), (PySem.Obj.mk (PySem.Value.type "tuple") none (PySem.Data.seq (List.toArray [(PySem.Value.str (PySem.Str.ofString "boundary") 474), (PySem.Value.bool Bool.false)]) 0) (List.toArray []))) ::
  ((nat_lit 175), (PySem.Obj.mk (PySem.Value.type "tuple") none (PySem.Data.seq (List.toArray [(PySem.Value.str (PySem.Str.ofString "\\b") 473), (PySem.Value.ref 174)]) 0) (List.toArray []))) ::
  ((nat_lit 176), (PySem.Obj.mk (PySem.Value.type "tuple") none (PySem.Data.seq (List.toArray [(PySem.Value.str (PySem.Str.ofString "boundary") 476), (PySem.Value.bool Bool.true)]) 0) (List.toArray []))) ::
  ((nat_lit 177), (PySem.Obj.mk (PySem.Value.type "tuple") none (PySem.Data.seq (List.toArray [(PySem.Value.str (PySem.Str.ofString "\\B") 475), (PySem.Value.ref 176)]) 0) (List.toArray []))) ::
  ((nat_lit 178), (PySem.Obj.mk (PySem.Value.type "tuple") none (PySem.Data.seq (List.toArray [(PySem.Value.ref 171), (PySem.Value.ref 173), (PySem.Value.ref 175), (PySem.Value.ref 177)]) 0) (List.toArray []))) ::
  ((nat_lit 179), (PySem.Obj.mk (PySem.Value.type "tuple") none (PySem.Data.seq (List.toArray []) 0) (List.toArray []))) ::
  ((nat_lit 181), (PySem.Obj.mk (PySem.Value.type "tuple") none (PySem.Data.seq (List.toArray [(PySem.Value.str (PySem.Str.ofString "text") 481)]) 0) (List.toArray []))) ::
  ((nat_lit 182), (PySem.Obj.mk (PySem.Value.type "tuple") none (PySem.Data.seq (List.toArray []) 0) (List.toArray []))) ::
  ((nat_lit 184), (PySem.Obj.mk (PySem.Value.type "code") none (PySem.Data.fields (List.toArray [(PySem.Value.str (PySem.Str.ofString "fail") 478), (PySem.Value.str (PySem.Str.ofString "fail") 479), (PySem.Value.str (PySem.Str.ofString "/claim/cut.py") 480), (PySem.Value.int 78 0), (PySem.Value.int 1 0), (PySem.Value.int 0 0), (PySem.Value.int 0 0), (PySem.Value.int 3 0), (PySem.Value.ref 179), (PySem.Value.bool Bool.true), (PySem.Value.int 181 0), (PySem.Value.ref 180), PySem.Value.none, (PySem.Value.ref 181), (PySem.Value.ref 182), (PySem.Value.ref 183), (PySem.Value.int 482 0), (PySem.Value.int 78 0), (PySem.Value.str (PySem.Str.ofString "/claim/cut.py") 483)])) (List.toArray []))) ::
  ((nat_lit 185), (PySem.Obj.mk (PySem.Value.type "function") none (PySem.Data.func (PySem.FuncData.mk (PySem.Str.ofString "fail") (PySem.Str.ofString "fail") (fnT 29).1 (fnT 29).2.1 (fnT 29).2.2 3 [] PySem.Value.none PySem.Value.none PySem.Value.none (PySem.Value.str (PySem.Str.ofString "js.reparse") 430) none (PySem.Value.ref 184) PySem.Value.none 0)) (List.toArray []))) ::
  ((nat_lit 186), (PySem.Obj.mk (PySem.Value.type "tuple") none (PySem.Data.seq (List.toArray []) 0) (List.toArray []))) ::
  ((nat_lit 188), (PySem.Obj.mk (PySem.Value.type "tuple") none (PySem.Data.seq (List.toArray [(PySem.Value.str (PySem.Str.ofString "flags") 488), (PySem.Value.str (PySem.Str.ofString "sign") 489)]) 0) (List.toArray []))) ::
  ((nat_lit 189), (PySem.Obj.mk (PySem.Value.type "tuple") none (PySem.Data.seq (List.toArray []) 0) (List.toArray []))) ::
  ((nat_lit 191), (PySem.Obj.mk (PySem.Value.type "code") none (PySem.Data.fields (List.toArray [(PySem.Value.str (PySem.Str.ofString "parse_flags") 485), (PySem.Value.str (PySem.Str.ofString "parse_flags") 486), (PySem.Value.str (PySem.Str.ofString "/claim/cut.py") 487), (PySem.Value.int 80 0), (PySem.Value.int 1 0), (PySem.Value.int 0 0), (PySem.Value.int 0 0), (PySem.Value.int 3 0), (PySem.Value.ref 186), (PySem.Value.bool Bool.true), (PySem.Value.int 181 0), (PySem.Value.ref 187), PySem.Value.none, (PySem.Value.ref 188), (PySem.Value.ref 189), (PySem.Value.ref 190), (PySem.Value.int 490 0), (PySem.Value.int 80 0), (PySem.Value.str (PySem.Str.ofString "/claim/cut.py") 491)])) (List.toArray []))) ::
  ((nat_lit 192), (PySem.Obj.mk (PySem.Value.type "function") none (PySem.Data.func (PySem.FuncData.mk (PySem.Str.ofString "parse_flags") (PySem.Str.ofString "parse_flags") (fnT 30).1 (fnT 30).2.1 (fnT 30).2.2 3 [] PySem.Value.none PySem.Value.none PySem.Value.none (PySem.Value.str (PySem.Str.ofString "js.reparse") 430) none (PySem.Value.ref 191) PySem.Value.none 0)) (List.toArray []))) ::
  ((nat_lit 193), (PySem.Obj.mk (PySem.Value.type "tuple") none (PySem.Data.seq (List.toArray []) 0) (List.toArray []))) ::
  ((nat_lit 195), (PySem.Obj.mk (PySem.Value.type "tuple") none (PySem.Data.seq (List.toArray [(PySem.Value.str (PySem.Str.ofString "sign") 496)]) 0) (List.toArray []))) ::
  ((nat_lit 196), (PySem.Obj.mk (PySem.Value.type "tuple") none (PySem.Data.seq (List.toArray []) 0) (List.toArray []))) ::
  ((nat_lit 198), (PySem.Obj.mk (PySem.Value.type "code") none (PySem.Data.fields (List.toArray [(PySem.Value.str (PySem.Str.ofString "is_decimal") 493), (PySem.Value.str (PySem.Str.ofString "is_decimal") 494), (PySem.Value.str (PySem.Str.ofString "/claim/cut.py") 495), (PySem.Value.int 85 0), (PySem.Value.int 1 0), (PySem.Value.int 0 0), (PySem.Value.int 0 0), (PySem.Value.int 3 0), (PySem.Value.ref 193), (PySem.Value.bool Bool.true), (PySem.Value.int 181 0), (PySem.Value.ref 194), PySem.Value.none, (PySem.Value.ref 195), (PySem.Value.ref 196), (PySem.Value.ref 197), (PySem.Value.int 497 0), (PySem.Value.int 85 0), (PySem.Value.str (PySem.Str.ofString "/claim/cut.py") 498)])) (List.toArray []))) ::
  ((nat_lit 199), (PySem.Obj.mk (PySem.Value.type "function") none (PySem.Data.func (PySem.FuncData.mk (PySem.Str.ofString "is_decimal") (PySem.Str.ofString "is_decimal") (fnT 31).1 (fnT 31).2.1 (fnT 31).2.2 3 [] PySem.Value.none PySem.Value.none PySem.Value.none (PySem.Value.str (PySem.Str.ofString "js.reparse") 430) none (PySem.Value.ref 198) PySem.Value.none 0)) (List.toArray []))) ::
  ((nat_lit 207), (PySem.Obj.mk (PySem.Value.type "tuple") none (PySem.Data.seq (List.toArray []) 0) (List.toArray []))) ::
  ((nat_lit 209), (PySem.Obj.mk (PySem.Value.type "tuple") none (PySem.Data.seq (List.toArray [(PySem.Value.str (PySem.Str.ofString "self") 515), (PySem.Value.str (PySem.Str.ofString "text") 516)]) 0) (List.toArray []))) ::
  ((nat_lit 210), (PySem.Obj.mk (PySem.Value.type "tuple") none (PySem.Data.seq (List.toArray []) 0) (List.toArray []))) ::
  ((nat_lit 212), (PySem.Obj.mk (PySem.Value.type "code") none (PySem.Data.fields (List.toArray [(PySem.Value.str (PySem.Str.ofString "__init__") 512), (PySem.Value.str (PySem.Str.ofString "PatternReader.__init__") 513), (PySem.Value.str (PySem.Str.ofString "/claim/cut.py") 514), (PySem.Value.int 89 0), (PySem.Value.int 2 0), (PySem.Value.int 0 0), (PySem.Value.int 0 0), (PySem.Value.int 3 0), (PySem.Value.ref 207), (PySem.Value.bool Bool.true), (PySem.Value.int 181 0), (PySem.Value.ref 208), PySem.Value.none, (PySem.Value.ref 209), (PySem.Value.ref 210), (PySem.Value.ref 211), (PySem.Value.int 517 0), (PySem.Value.int 89 0), (PySem.Value.str (PySem.Str.ofString "/claim/cut.py") 518)])) (List.toArray []))) ::
  ((nat_lit 213), (PySem.Obj.mk (PySem.Value.type "function") none (PySem.Data.func (PySem.FuncData.mk (PySem.Str.ofString "__init__") (PySem.Str.ofString "PatternReader.__init__") (fnM 32 0).1 (fnM 32 0).2.1 (fnM 32 0).2.2 3 [] PySem.Value.none PySem.Value.none PySem.Value.none (PySem.Value.str (PySem.Str.ofString "js.reparse") 430) none (PySem.Value.ref 212) PySem.Value.none 0)) (List.toArray []))) ::
  ((nat_lit 214), (PySem.Obj.mk (PySem.Value.type "tuple") none (PySem.Data.seq (List.toArray []) 0) (List.toArray []))) ::
  ((nat_lit 216), (PySem.Obj.mk (PySem.Value.type "tuple") none (PySem.Data.seq (List.toArray [(PySem.Value.str (PySem.Str.ofString "self") 523)]) 0) (List.toArray []))) ::
  ((nat_lit 217), (PySem.Obj.mk (PySem.Value.type "tuple") none (PySem.Data.seq (List.toArray []) 0) (List.toArray []))) ::
  ((nat_lit 219), (PySem.Obj.mk (PySem.Value.type "code") none (PySem.Data.fields (List.toArray [(PySem.Value.str (PySem.Str.ofString "sign") 520), (PySem.Value.str (PySem.Str.ofString "PatternReader.sign") 521), (PySem.Value.str (PySem.Str.ofString "/claim/cut.py") 522), (PySem.Value.int 96 0), (PySem.Value.int 1 0), (PySem.Value.int 0 0), (PySem.Value.int 0 0), (PySem.Value.int 3 0), (PySem.Value.ref 214), (PySem.Value.bool Bool.true), (PySem.Value.int 181 0), (PySem.Value.ref 215), PySem.Value.none, (PySem.Value.ref 216), (PySem.Value.ref 217), (PySem.Value.ref 218), (PySem.Value.int 524 0), (PySem.Value.int 96 0), (PySem.Value.str (PySem.Str.ofString "/claim/cut.py") 525)])) (List.toArray []))) ::
  ((nat_lit 220), (PySem.Obj.mk (PySem.Value.type "function") none (PySem.Data.func (PySem.FuncData.mk (PySem.Str.ofString "sign") (PySem.Str.ofString "PatternReader.sign") (fnM 32 1).1 (fnM 32 1).2.1 (fnM 32 1).2.2 3 [] PySem.Value.none PySem.Value.none PySem.Value.none (PySem.Value.str (PySem.Str.ofString "js.reparse") 430) none (PySem.Value.ref 219) PySem.Value.none 0)) (List.toArray []))) ::
  ((nat_lit 221), (PySem.Obj.mk (PySem.Value.type "tuple") none (PySem.Data.seq (List.toArray []) 0) (List.toArray []))) ::
  ((nat_lit 223), (PySem.Obj.mk (PySem.Value.type "tuple") none (PySem.Data.seq (List.toArray [(PySem.Value.str (PySem.Str.ofString "self") 530), (PySem.Value.str (PySem.Str.ofString "found") 531)]) 0) (List.toArray []))) ::
  ((nat_lit 224), (PySem.Obj.mk (PySem.Value.type "tuple") none (PySem.Data.seq (List.toArray []) 0) (List.toArray []))) ::
  ((nat_lit 226), (PySem.Obj.mk (PySem.Value.type "code") none (PySem.Data.fields (List.toArray [(PySem.Value.str (PySem.Str.ofString "take") 527), (PySem.Value.str (PySem.Str.ofString "PatternReader.take") 528), (PySem.Value.str (PySem.Str.ofString "/claim/cut.py") 529), (PySem.Value.int 99 0), (PySem.Value.int 1 0), (PySem.Value.int 0 0), (PySem.Value.int 0 0), (PySem.Value.int 3 0), (PySem.Value.ref 221), (PySem.Value.bool Bool.true), (PySem.Value.int 181 0), (PySem.Value.ref 222), PySem.Value.none, (PySem.Value.ref 223), (PySem.Value.ref 224), (PySem.Value.ref 225), (PySem.Value.int 532 0), (PySem.Value.int 99 0), (PySem.Value.str (PySem.Str.ofString "/claim/cut.py") 533)])) (List.toArray []))) ::
  ((nat_lit 227), (PySem.Obj.mk (PySem.Value.type "function") none (PySem.Data.func (PySem.FuncData.mk (PySem.Str.ofString "take") (PySem.Str.ofString "PatternReader.take") (fnM 32 2).1 (fnM 32 2).2.1 (fnM 32 2).2.2 3 [] PySem.Value.none PySem.Value.none PySem.Value.none (PySem.Value.str (PySem.Str.ofString "js.reparse") 430) none (PySem.Value.ref 226) PySem.Value.none 0)) (List.toArray []))) ::
  ((nat_lit 228), (PySem.Obj.mk (PySem.Value.type "tuple") none (PySem.Data.seq (List.toArray []) 0) (List.toArray []))) ::
  ((nat_lit 230), (PySem.Obj.mk (PySem.Value.type "tuple") none (PySem.Data.seq (List.toArray [(PySem.Value.str (PySem.Str.ofString "self") 538), (PySem.Value.str (PySem.Str.ofString "word") 539)]) 0) (List.toArray []))) ::
  ((nat_lit 231), (PySem.Obj.mk (PySem.Value.type "tuple") none (PySem.Data.seq (List.toArray []) 0) (List.toArray []))) ::
  ((nat_lit 233), (PySem.Obj.mk (PySem.Value.type "code") none (PySem.Data.fields (List.toArray [(PySem.Value.str (PySem.Str.ofString "skip") 535), (PySem.Value.str (PySem.Str.ofString "PatternReader.skip") 536), (PySem.Value.str (PySem.Str.ofString "/claim/cut.py") 537), (PySem.Value.int 104 0), (PySem.Value.int 2 0), (PySem.Value.int 0 0), (PySem.Value.int 0 0), (PySem.Value.int 3 0), (PySem.Value.ref 228), (PySem.Value.bool Bool.true), (PySem.Value.int 181 0), (PySem.Value.ref 229), PySem.Value.none, (PySem.Value.ref 230), (PySem.Value.ref 231), (PySem.Value.ref 232), (PySem.Value.int 540 0), (PySem.Value.int 104 0), (PySem.Value.str (PySem.Str.ofString "/claim/cut.py") 541)])) (List.toArray []))) ::
  ((nat_lit 234), (PySem.Obj.mk (PySem.Value.type "function") none (PySem.Data.func (PySem.FuncData.mk (PySem.Str.ofString "skip") (PySem.Str.ofString "PatternReader.skip") (fnM 32 3).1 (fnM 32 3).2.1 (fnM 32 3).2.2 3 [] PySem.Value.none PySem.Value.none PySem.Value.none (PySem.Value.str (PySem.Str.ofString "js.reparse") 430) none (PySem.Value.ref 233) PySem.Value.none 0)) (List.toArray []))) ::
  ((nat_lit 235), (PySem.Obj.mk (PySem.Value.type "tuple") none (PySem.Data.seq (List.toArray []) 0) (List.toArray []))) ::
  ((nat_lit 237), (PySem.Obj.mk (PySem.Value.type "tuple") none (PySem.Data.seq (List.toArray [(PySem.Value.str (PySem.Str.ofString "self") 546), (PySem.Value.str (PySem.Str.ofString "found") 547)]) 0) (List.toArray []))) ::
  ((nat_lit 238), (PySem.Obj.mk (PySem.Value.type "tuple") none (PySem.Data.seq (List.toArray []) 0) (List.toArray []))) ::
  ((nat_lit 240), (PySem.Obj.mk (PySem.Value.type "code") none (PySem.Data.fields (List.toArray [(PySem.Value.str (PySem.Str.ofString "disjunction") 543), (PySem.Value.str (PySem.Str.ofString "PatternReader.disjunction") 544), (PySem.Value.str (PySem.Str.ofString "/claim/cut.py") 545), (PySem.Value.int 110 0), (PySem.Value.int 1 0), (PySem.Value.int 0 0), (PySem.Value.int 0 0), (PySem.Value.int 3 0), (PySem.Value.ref 235), (PySem.Value.bool Bool.true), (PySem.Value.int 181 0), (PySem.Value.ref 236), PySem.Value.none, (PySem.Value.ref 237), (PySem.Value.ref 238), (PySem.Value.ref 239), (PySem.Value.int 548 0), (PySem.Value.int 110 0), (PySem.Value.str (PySem.Str.ofString "/claim/cut.py") 549)])) (List.toArray []))) ::
  ((nat_lit 241), (PySem.Obj.mk (PySem.Value.type "function") none (PySem.Data.func (PySem.FuncData.mk (PySem.Str.ofString "disjunction") (PySem.Str.ofString "PatternReader.disjunction") (fnM 32 4).1 (fnM 32 4).2.1 (fnM 32 4).2.2 3 [] PySem.Value.none PySem.Value.none PySem.Value.none (PySem.Value.str (PySem.Str.ofString "js.reparse") 430) none (PySem.Value.ref 240) PySem.Value.none 0)) (List.toArray []))) ::
  ((nat_lit 242), (PySem.Obj.mk (PySem.Value.type "tuple") none (PySem.Data.seq (List.toArray []) 0) (List.toArray []))) ::
  ((nat_lit 244), (PySem.Obj.mk (PySem.Value.type "tuple") none (PySem.Data.seq (List.toArray [(PySem.Value.str (PySem.Str.ofString "self") 554), (PySem.Value.str (PySem.Str.ofString "found") 555)]) 0) (List.toArray []))) ::
  ((nat_lit 245), (PySem.Obj.mk (PySem.Value.type "tuple") none (PySem.Data.seq (List.toArray []) 0) (List.toArray []))) ::
  ((nat_lit 247), (PySem.Obj.mk (PySem.Value.type "code") none (PySem.Data.fields (List.toArray [(PySem.Value.str (PySem.Str.ofString "alternative") 551), (PySem.Value.str (PySem.Str.ofString "PatternReader.alternative") 552), (PySem.Value.str (PySem.Str.ofString "/claim/cut.py") 553), (PySem.Value.int 116 0), (PySem.Value.int 1 0), (PySem.Value.int 0 0), (PySem.Value.int 0 0), (PySem.Value.int 3 0), (PySem.Value.ref 242), (PySem.Value.bool Bool.true), (PySem.Value.int 181 0), (PySem.Value.ref 243), PySem.Value.none, (PySem.Value.ref 244), (PySem.Value.ref 245), (PySem.Value.ref 246), (PySem.Value.int 556 0), (PySem.Value.int 116 0), (PySem.Value.str (PySem.Str.ofString "/claim/cut.py") 557)])) (List.toArray []))) ::
  ((nat_lit 248), (PySem.Obj.mk (PySem.Value.type "function") none (PySem.Data.func (PySem.FuncData.mk (PySem.Str.ofString "alternative") (PySem.Str.ofString "PatternReader.alternative") (fnM 32 5).1 (fnM 32 5).2.1 (fnM 32 5).2.2 3 [] PySem.Value.none PySem.Value.none PySem.Value.none (PySem.Value.str (PySem.Str.ofString "js.reparse") 430) none (PySem.Value.ref 247) PySem.Value.none 0)) (List.toArray []))) ::
  ((nat_lit 249), (PySem.Obj.mk (PySem.Value.type "tuple") none (PySem.Data.seq (List.toArray []) 0) (List.toArray []))) ::
  ((nat_lit 251), (PySem.Obj.mk (PySem.Value.type "tuple") none (PySem.Data.seq (List.toArray [(PySem.Value.str (PySem.Str.ofString "self") 562), (PySem.Value.str (PySem.Str.ofString "word") 563), (PySem.Value.str (PySem.Str.ofString "tree") 564), (PySem.Value.str (PySem.Str.ofString "first") 565), (PySem.Value.str (PySem.Str.ofString "atom") 566), (PySem.Value.str (PySem.Str.ofString "often") 567)]) 0) (List.toArray []))) ::
  ((nat_lit 252), (PySem.Obj.mk (PySem.Value.type "tuple") none (PySem.Data.seq (List.toArray []) 0) (List.toArray []))) ::
  ((nat_lit 254), (PySem.Obj.mk (PySem.Value.type "code") none (PySem.Data.fields (List.toArray [(PySem.Value.str (PySem.Str.ofString "term") 559), (PySem.Value.str (PySem.Str.ofString "PatternReader.term") 560), (PySem.Value.str (PySem.Str.ofString "/claim/cut.py") 561), (PySem.Value.int 122 0), (PySem.Value.int 1 0), (PySem.Value.int 0 0), (PySem.Value.int 0 0), (PySem.Value.int 3 0), (PySem.Value.ref 249), (PySem.Value.bool Bool.true), (PySem.Value.int 181 0), (PySem.Value.ref 250), PySem.Value.none, (PySem.Value.ref 251), (PySem.Value.ref 252), (PySem.Value.ref 253), (PySem.Value.int 568 0), (PySem.Value.int 122 0), (PySem.Value.str (PySem.Str.ofString "/claim/cut.py") 569)])) (List.toArray []))) ::
  ((nat_lit 255), (PySem.Obj.mk (PySem.Value.type "function") none (PySem.Data.func (PySem.FuncData.mk (PySem.Str.ofString "term") (PySem.Str.ofString "PatternReader.term") (fnM 32 6).1 (fnM 32 6).2.1 (fnM 32 6).2.2 3 [] PySem.Value.none PySem.Value.none PySem.Value.none (PySem.Value.str (PySem.Str.ofString "js.reparse") 430) none (PySem.Value.ref 254) PySem.Value.none 0)) (List.toArray []))) ::
  ((nat_lit 256), (PySem.Obj.mk (PySem.Value.type "tuple") none (PySem.Data.seq (List.toArray []) 0) (List.toArray []))) ::
  ((nat_lit 263), (PySem.Obj.mk (PySem.Value.type "tuple") none (PySem.Data.seq (List.toArray []) 0) (List.toArray []))) ::
  ((nat_lit 265), (PySem.Obj.mk (PySem.Value.type "tuple") none (PySem.Data.seq (List.toArray [(PySem.Value.str (PySem.Str.ofString "self") 582), (PySem.Value.str (PySem.Str.ofString "least") 583), (PySem.Value.str (PySem.Str.ofString "low") 584), (PySem.Value.str (PySem.Str.ofString "most") 585), (PySem.Value.str (PySem.Str.ofString "high") 586)]) 0) (List.toArray []))) ::
  ((nat_lit 266), (PySem.Obj.mk (PySem.Value.type "tuple") none (PySem.Data.seq (List.toArray []) 0) (List.toArray []))) ::
  ((nat_lit 268), (PySem.Obj.mk (PySem.Value.type "code") none (PySem.Data.fields (List.toArray [(PySem.Value.str (PySem.Str.ofString "often") 579), (PySem.Value.str (PySem.Str.ofString "PatternReader.often") 580), (PySem.Value.str (PySem.Str.ofString "/claim/cut.py") 581), (PySem.Value.int 147 0), (PySem.Value.int 1 0), (PySem.Value.int 0 0), (PySem.Value.int 0 0), (PySem.Value.int 3 0), (PySem.Value.ref 263), (PySem.Value.bool Bool.true), (PySem.Value.int 181 0), (PySem.Value.ref 264), PySem.Value.none, (PySem.Value.ref 265), (PySem.Value.ref 266), (PySem.Value.ref 267), (PySem.Value.int 587 0), (PySem.Value.int 147 0), (PySem.Value.str (PySem.Str.ofString "/claim/cut.py") 588)])) (List.toArray []))) ::
  ((nat_lit 269), (PySem.Obj.mk (PySem.Value.type "function") none (PySem.Data.func (PySem.FuncData.mk (PySem.Str.ofString "often") (PySem.Str.ofString "PatternReader.often") (fnM 32 8).1 (fnM 32 8).2.1 (fnM 32 8).2.2 3 [] PySem.Value.none PySem.Value.none PySem.Value.none (PySem.Value.str (PySem.Str.ofString "js.reparse") 430) none (PySem.Value.ref 268) PySem.Value.none 0)) (List.toArray []))) ::
  ((nat_lit 270), (PySem.Obj.mk (PySem.Value.type "tuple") none (PySem.Data.seq (List.toArray []) 0) (List.toArray []))) ::
  ((nat_lit 272), (PySem.Obj.mk (PySem.Value.type "tuple") none (PySem.Data.seq (List.toArray [(PySem.Value.str (PySem.Str.ofString "self") 593), (PySem.Value.str (PySem.Str.ofString "begin") 594), (PySem.Value.str (PySem.Str.ofString "found") 595)]) 0) (List.toArray []))) ::
  ((nat_lit 273), (PySem.Obj.mk (PySem.Value.type "tuple") none (PySem.Data.seq (List.toArray []) 0) (List.toArray []))) ::
  ((nat_lit 275), (PySem.Obj.mk (PySem.Value.type "code") none (PySem.Data.fields (List.toArray [(PySem.Value.str (PySem.Str.ofString "counted") 590), (PySem.Value.str (PySem.Str.ofString "PatternReader.counted") 591), (PySem.Value.str (PySem.Str.ofString "/claim/cut.py") 592), (PySem.Value.int 162 0), (PySem.Value.int 1 0), (PySem.Value.int 0 0), (PySem.Value.int 0 0), (PySem.Value.int 3 0), (PySem.Value.ref 270), (PySem.Value.bool Bool.true), (PySem.Value.int 181 0), (PySem.Value.ref 271), PySem.Value.none, (PySem.Value.ref 272), (PySem.Value.ref 273), (PySem.Value.ref 274), (PySem.Value.int 596 0), (PySem.Value.int 162 0), (PySem.Value.str (PySem.Str.ofString "/claim/cut.py") 597)])) (List.toArray []))) ::
  ((nat_lit 276), (PySem.Obj.mk (PySem.Value.type "function") none (PySem.Data.func (PySem.FuncData.mk (PySem.Str.ofString "counted") (PySem.Str.ofString "PatternReader.counted") (fnM 32 9).1 (fnM 32 9).2.1 (fnM 32 9).2.2 3 [] PySem.Value.none PySem.Value.none PySem.Value.none (PySem.Value.str (PySem.Str.ofString "js.reparse") 430) none (PySem.Value.ref 275) PySem.Value.none 0)) (List.toArray []))) ::
  ((nat_lit 277), (PySem.Obj.mk (PySem.Value.type "tuple") none (PySem.Data.seq (List.toArray []) 0) (List.toArray []))) ::
  ((nat_lit 279), (PySem.Obj.mk (PySem.Value.type "tuple") none (PySem.Data.seq (List.toArray [(PySem.Value.str (PySem.Str.ofString "self") 602), (PySem.Value.str (PySem.Str.ofString "begin") 603), (PySem.Value.str (PySem.Str.ofString "found") 604)]) 0) (List.toArray []))) ::
  ((nat_lit 280), (PySem.Obj.mk (PySem.Value.type "tuple") none (PySem.Data.seq (List.toArray []) 0) (List.toArray []))) ::
  ((nat_lit 282), (PySem.Obj.mk (PySem.Value.type "code") none (PySem.Data.fields (List.toArray [(PySem.Value.str (PySem.Str.ofString "number") 599), (PySem.Value.str (PySem.Str.ofString "PatternReader.number") 600), (PySem.Value.str (PySem.Str.ofString "/claim/cut.py") 601), (PySem.Value.int 167 0), (PySem.Value.int 1 0), (PySem.Value.int 0 0), (PySem.Value.int 0 0), (PySem.Value.int 3 0), (PySem.Value.ref 277), (PySem.Value.bool Bool.true), (PySem.Value.int 181 0), (PySem.Value.ref 278), PySem.Value.none, (PySem.Value.ref 279), (PySem.Value.ref 280), (PySem.Value.ref 281), (PySem.Value.int 605 0), (PySem.Value.int 167 0), (PySem.Value.str (PySem.Str.ofString "/claim/cut.py") 606)])) (List.toArray []))) ::
  ((nat_lit 283), (PySem.Obj.mk (PySem.Value.type "function") none (PySem.Data.func (PySem.FuncData.mk (PySem.Str.ofString "number") (PySem.Str.ofString "PatternReader.number") (fnM 32 10).1 (fnM 32 10).2.1 (fnM 32 10).2.2 3 [] PySem.Value.none PySem.Value.none PySem.Value.none (PySem.Value.str (PySem.Str.ofString "js.reparse") 430) none (PySem.Value.ref 282) PySem.Value.none 0)) (List.toArray []))) ::
  ((nat_lit 284), (PySem.Obj.mk (PySem.Value.type "tuple") none (PySem.Data.seq (List.toArray []) 0) (List.toArray []))) ::
  ((nat_lit 286), (PySem.Obj.mk (PySem.Value.type "tuple") none (PySem.Data.seq (List.toArray [(PySem.Value.str (PySem.Str.ofString "self") 611), (PySem.Value.str (PySem.Str.ofString "sign") 612), (PySem.Value.str (PySem.Str.ofString "number") 613)]) 0) (List.toArray []))) ::
  ((nat_lit 287), (PySem.Obj.mk (PySem.Value.type "tuple") none (PySem.Data.seq (List.toArray []) 0) (List.toArray []))) ::
  ((nat_lit 289), (PySem.Obj.mk (PySem.Value.type "code") none (PySem.Data.fields (List.toArray [(PySem.Value.str (PySem.Str.ofString "atom") 608), (PySem.Value.str (PySem.Str.ofString "PatternReader.atom") 609), (PySem.Value.str (PySem.Str.ofString "/claim/cut.py") 610), (PySem.Value.int 175 0), (PySem.Value.int 1 0), (PySem.Value.int 0 0), (PySem.Value.int 0 0), (PySem.Value.int 3 0), (PySem.Value.ref 284), (PySem.Value.bool Bool.true), (PySem.Value.int 181 0), (PySem.Value.ref 285), PySem.Value.none, (PySem.Value.ref 286), (PySem.Value.ref 287), (PySem.Value.ref 288), (PySem.Value.int 614 0), (PySem.Value.int 175 0), (PySem.Value.str (PySem.Str.ofString "/claim/cut.py") 615)])) (List.toArray []))) ::
  ((nat_lit 290), (PySem.Obj.mk (PySem.Value.type "function") none (PySem.Data.func (PySem.FuncData.mk (PySem.Str.ofString "atom") (PySem.Str.ofString "PatternReader.atom") (fnM 32 11).1 (fnM 32 11).2.1 (fnM 32 11).2.2 3 [] PySem.Value.none PySem.Value.none PySem.Value.none (PySem.Value.str (PySem.Str.ofString "js.reparse") 430) none (PySem.Value.ref 289) PySem.Value.none 0)) (List.toArray []))) ::
  ((nat_lit 327), (PySem.Obj.mk (PySem.Value.type "dict") none (PySem.Data.dict (List.toArray [(PySem.DictEntry.mk (PySem.PyData.keyHash P (PySem.Str.ofString "__module__")) (PySem.Value.str (PySem.Str.ofString "__module__") 507) (PySem.Value.str (PySem.Str.ofString "js.reparse") 430)), (PySem.DictEntry.mk (PySem.PyData.keyHash P (PySem.Str.ofString "__firstlineno__")) (PySem.Value.str (PySem.Str.ofString "__firstlineno__") 511) (PySem.Value.int 87 510)), (PySem.DictEntry.mk (PySem.PyData.keyHash P (PySem.Str.ofString "__init__")) (PySem.Value.str (PySem.Str.ofString "__init__") 519) (PySem.Value.ref 213)), (PySem.DictEntry.mk (PySem.PyData.keyHash P (PySem.Str.ofString "sign")) (PySem.Value.str (PySem.Str.ofString "sign") 526) (PySem.Value.ref 220)), (PySem.DictEntry.mk (PySem.PyData.keyHash P (PySem.Str.ofString "take")) (PySem.Value.str (PySem.Str.ofString "take") 534) (PySem.Value.ref 227)), (PySem.DictEntry.mk (PySem.PyData.keyHash P (PySem.Str.ofString "skip")) (PySem.Value.str (PySem.Str.ofString "skip") 542) (PySem.Value.ref 234)), (PySem.DictEntry.mk (PySem.PyData.keyHash P (PySem.Str.ofString "disjunction")) (PySem.Value.str (PySem.Str.ofString "disjunction") 550) (PySem.Value.ref 241)), (PySem.DictEntry.mk (PySem.PyData.keyHash P (PySem.Str.ofString "alternative")) (PySem.Value.str (PySem.Str.ofString "alternative") 558) (PySem.Value.ref 248)), (PySem.DictEntry.mk (PySem.PyData.keyHash P (PySem.Str.ofString "term")) (PySem.Value.str (PySem.Str.ofString "term") 570) (PySem.Value.ref 255)), (PySem.DictEntry.mk (PySem.PyData.keyHash P (PySem.Str.ofString "within")) (PySem.Value.str (PySem.Str.ofString "within") 578) (PySem.Value.ref 262)), (PySem.DictEntry.mk (PySem.PyData.keyHash P (PySem.Str.ofString "often")) (PySem.Value.str (PySem.Str.ofString "often") 589) (PySem.Value.ref 269)), (PySem.DictEntry.mk (PySem.PyData.keyHash P (PySem.Str.ofString "counted")) (PySem.Value.str (PySem.Str.ofString "counted") 598) (PySem.Value.ref 276)), (PySem.DictEntry.mk (PySem.PyData.keyHash P (PySem.Str.ofString "number")) (PySem.Value.str (PySem.Str.ofString "number") 607) (PySem.Value.ref 283)), (PySem.DictEntry.mk (PySem.PyData.keyHash P (PySem.Str.ofString "atom")) (PySem.Value.str (PySem.Str.ofString "atom") 616) (PySem.Value.ref 290)), (PySem.DictEntry.mk (PySem.PyData.keyHash P (PySem.Str.ofString "atom_escape")) (PySem.Value.str (PySem.Str.ofString "atom_escape") 625) (PySem.Value.ref 297)), (PySem.DictEntry.mk (PySem.PyData.keyHash P (PySem.Str.ofString "escaped_sign")) (PySem.Value.str (PySem.Str.ofString "escaped_sign") 636) (PySem.Value.ref 304)), (PySem.DictEntry.mk (PySem.PyData.keyHash P (PySem.Str.ofString "sign_class")) (PySem.Value.str (PySem.Str.ofString "sign_class") 646) (PySem.Value.ref 311)), (PySem.DictEntry.mk (PySem.PyData.keyHash P (PySem.Str.ofString "class_range")) (PySem.Value.str (PySem.Str.ofString "class_range") 655) (PySem.Value.ref 318)), (PySem.DictEntry.mk (PySem.PyData.keyHash P (PySem.Str.ofString "class_atom")) (PySem.Value.str (PySem.Str.ofString "class_atom") 665) (PySem.Value.ref 325)), (PySem.DictEntry.mk (PySem.PyData.keyHash P (PySem.Str.ofString "__static_attributes__")) (PySem.Value.str (PySem.Str.ofString "__static_attributes__") 671) (PySem.Value.ref 326)), (PySem.DictEntry.mk (PySem.PyData.keyHash P (PySem.Str.ofString "__dict__")) (PySem.Value.str (PySem.Str.ofString "__dict__") 673) (PySem.Value.ref 329)), (PySem.DictEntry.mk (PySem.PyData.keyHash P (PySem.Str.ofString "__weakref__")) (PySem.Value.str (PySem.Str.ofString "__weakref__") 675) (PySem.Value.ref 330)), (PySem.DictEntry.mk (PySem.PyData.keyHash P (PySem.Str.ofString "__doc__")) (PySem.Value.str (PySem.Str.ofString "__doc__") 676) PySem.Value.none)]) 4) (List.toArray []))) ::
  ((nat_lit 328), (PySem.Obj.mk (PySem.Value.type "type") none (PySem.Data.cls (PySem.ClassData.mk (PySem.Str.ofString "PatternReader") [(PySem.Value.type "object")] [(PySem.Value.ref 328), (PySem.Value.type "object")] 327 (PySem.Str.ofString "PatternReader") Bool.true [] [] Bool.false none Bool.false)) (List.toArray [none, none, (some (PySem.Value.str (PySem.Str.ofString "PatternReader") 500)), (some (PySem.Value.str (PySem.Str.ofString "PatternReader") 508)), (some (PySem.Value.builtin "object.__new__")), (some (PySem.Value.bool Bool.true))]))) ::
  ((nat_lit 329), (PySem.Obj.mk (PySem.Value.type "getset_descriptor") none (PySem.Data.fields (List.toArray [(PySem.Value.str (PySem.Str.ofString "__dict__") 672), (PySem.Value.ref 328), (PySem.Value.builtin "function.__dict__"), (PySem.Value.builtin "function.__dict__#set")])) (List.toArray []))) ::
  ((nat_lit 330), (PySem.Obj.mk (PySem.Value.type "getset_descriptor") none (PySem.Data.fields (List.toArray [(PySem.Value.str (PySem.Str.ofString "__weakref__") 674), (PySem.Value.ref 328), (PySem.Value.builtin "ExceptionGroup.__weakref__"), PySem.Value.none])) (List.toArray []))) ::
  ((nat_lit 333), (PySem.Obj.mk (PySem.Value.type "tuple") none (PySem.Data.seq (List.toArray []) 0) (List.toArray []))) ::
  ((nat_lit 335), (PySem.Obj.mk (PySem.Value.type "tuple") none (PySem.Data.seq (List.toArray [(PySem.Value.str (PySem.Str.ofString "text") 682), (PySem.Value.str (PySem.Str.ofString "flags") 683), (PySem.Value.str (PySem.Str.ofString "reader") 684), (PySem.Value.str (PySem.Str.ofString "tree") 685)]) 0) (List.toArray []))) ::
  ((nat_lit 336), (PySem.Obj.mk (PySem.Value.type "tuple") none (PySem.Data.seq (List.toArray []) 0) (List.toArray []))) ::
  ((nat_lit 338), (PySem.Obj.mk (PySem.Value.type "code") none (PySem.Data.fields (List.toArray [(PySem.Value.str (PySem.Str.ofString "parse_pattern") 679), (PySem.Value.str (PySem.Str.ofString "parse_pattern") 680), (PySem.Value.str (PySem.Str.ofString "/claim/cut.py") 681), (PySem.Value.int 264 0), (PySem.Value.int 2 0), (PySem.Value.int 0 0), (PySem.Value.int 0 0), (PySem.Value.int 3 0), (PySem.Value.ref 333), (PySem.Value.bool Bool.true), (PySem.Value.int 181 0), (PySem.Value.ref 334), PySem.Value.none, (PySem.Value.ref 335), (PySem.Value.ref 336), (PySem.Value.ref 337), (PySem.Value.int 686 0), (PySem.Value.int 264 0), (PySem.Value.str (PySem.Str.ofString "/claim/cut.py") 687)])) (List.toArray []))) ::
  ((nat_lit 339), (PySem.Obj.mk (PySem.Value.type "function") none (PySem.Data.func (PySem.FuncData.mk (PySem.Str.ofString "parse_pattern") (PySem.Str.ofString "parse_pattern") (fnT 33).1 (fnT 33).2.1 (fnT 33).2.2 3 [] PySem.Value.none PySem.Value.none PySem.Value.none (PySem.Value.str (PySem.Str.ofString "js.reparse") 430) none (PySem.Value.ref 338) PySem.Value.none 0)) (List.toArray []))) ::
  ((nat_lit 340), (PySem.Obj.mk (PySem.Value.type "tuple") none (PySem.Data.seq (List.toArray []) 0) (List.toArray []))) ::
  ((nat_lit 342), (PySem.Obj.mk (PySem.Value.type "tuple") none (PySem.Data.seq (List.toArray [(PySem.Value.str (PySem.Str.ofString "number") 694), (PySem.Value.str (PySem.Str.ofString "noughts") 695)]) 0) (List.toArray []))) ::
  ((nat_lit 343), (PySem.Obj.mk (PySem.Value.type "tuple") none (PySem.Data.seq (List.toArray []) 0) (List.toArray []))) ::
  ((nat_lit 345), (PySem.Obj.mk (PySem.Value.type "code") none (PySem.Data.fields (List.toArray [(PySem.Value.str (PySem.Str.ofString "_law_figures") 691), (PySem.Value.str (PySem.Str.ofString "_law_figures") 692), (PySem.Value.str (PySem.Str.ofString "/claim/cut.py") 693), (PySem.Value.int 274 0), (PySem.Value.int 2 0), (PySem.Value.int 0 0), (PySem.Value.int 0 0), (PySem.Value.int 3 0), (PySem.Value.ref 340), (PySem.Value.bool Bool.true), (PySem.Value.int 181 0), (PySem.Value.ref 341), PySem.Value.none, (PySem.Value.ref 342), (PySem.Value.ref 343), (PySem.Value.ref 344), (PySem.Value.int 696 0), (PySem.Value.int 274 0), (PySem.Value.str (PySem.Str.ofString "/claim/cut.py") 697)])) (List.toArray []))) ::
  ((nat_lit 346), (PySem.Obj.mk (PySem.Value.type "function") none (PySem.Data.func (PySem.FuncData.mk (PySem.Str.ofString "_law_figures") (PySem.Str.ofString "_law_figures") (fnT 35).1 (fnT 35).2.1 (fnT 35).2.2 3 [] PySem.Value.none PySem.Value.none PySem.Value.none (PySem.Value.str (PySem.Str.ofString "law_rg0179_01") 689) none (PySem.Value.ref 345) PySem.Value.none 0)) (List.toArray []))) ::
  ((nat_lit 347), (PySem.Obj.mk (PySem.Value.type "tuple") none (PySem.Data.seq (List.toArray []) 0) (List.toArray []))) ::
  ((nat_lit 349), (PySem.Obj.mk (PySem.Value.type "tuple") none (PySem.Data.seq (List.toArray [(PySem.Value.str (PySem.Str.ofString "script") 702), (PySem.Value.str (PySem.Str.ofString "cells") 703), (PySem.Value.str (PySem.Str.ofString "one") 704), (PySem.Value.str (PySem.Str.ofString "other") 705), (PySem.Value.str (PySem.Str.ofString "low") 706), (PySem.Value.str (PySem.Str.ofString "high") 707), (PySem.Value.str (PySem.Str.ofString "due") 708), (PySem.Value.str (PySem.Str.ofString "found") 709), (PySem.Value.str (PySem.Str.ofString "wrong") 710)]) 0) (List.toArray []))) ::
  ((nat_lit 350), (PySem.Obj.mk (PySem.Value.type "tuple") none (PySem.Data.seq (List.toArray []) 0) (List.toArray []))) ::
  ((nat_lit 352), (PySem.Obj.mk (PySem.Value.type "code") none (PySem.Data.fields (List.toArray [(PySem.Value.str (PySem.Str.ofString "law") 699), (PySem.Value.str (PySem.Str.ofString "law") 700), (PySem.Value.str (PySem.Str.ofString "/claim/cut.py") 701), (PySem.Value.int 276 0), (PySem.Value.int 1 0), (PySem.Value.int 0 0), (PySem.Value.int 0 0), (PySem.Value.int 3 0), (PySem.Value.ref 347), (PySem.Value.bool Bool.true), (PySem.Value.int 181 0), (PySem.Value.ref 348), PySem.Value.none, (PySem.Value.ref 349), (PySem.Value.ref 350), (PySem.Value.ref 351), (PySem.Value.int 711 0), (PySem.Value.int 276 0), (PySem.Value.str (PySem.Str.ofString "/claim/cut.py") 712)])) (List.toArray []))) ::
  ((nat_lit 353), (PySem.Obj.mk (PySem.Value.type "function") none (PySem.Data.func (PySem.FuncData.mk (PySem.Str.ofString "law") (PySem.Str.ofString "law") (fnT 36).1 (fnT 36).2.1 (fnT 36).2.2 3 [] PySem.Value.none PySem.Value.none PySem.Value.none (PySem.Value.str (PySem.Str.ofString "law_rg0179_01") 689) none (PySem.Value.ref 352) PySem.Value.none 0)) (List.toArray []))) :: []
noncomputable def hrun (b : Bool) (w : World) (os : OsState) :=
  (topRunT treeTable PySem.Challenge.pw_rg0179_01 (w.withFollow "special-get-raises" b) 11 (some (.ref 6)) 4190 ⟨bootT (w.withFollow "special-get-raises" b).params, 11, (boot_heap (w.withFollow "special-get-raises" b).params).life, Array.mk [], boot_drawn, boot_toks, os⟩ (topStub PySem.Challenge.pw_rg0179_01)).map
    (fun s => lookAt PySem.Challenge.pw_rg0179_01 hd.view_39 [Str.ofString "LETTERS", Str.ofString "PARTS", Str.ofString "CONTROLS", Str.ofString "PLAIN"] (fun s => xlAt hd.view_39 [] s && recOk (RowW.records PySem.Challenge.rw_rg0179_01.row.toRowW) s) (fun s => [2, 3, 151, 153, 154, 156, 157, 158, 159, 160, 161, 164, 165, 166, 167, 168, 169, 170, 171, 172, 173, 174, 175, 176, 177, 178, 179, 181, 182, 184, 185, 186, 188, 189, 191, 192, 193, 195, 196, 198, 199, 207, 209, 210, 212, 213, 214, 216, 217, 219, 220, 221, 223, 224, 226, 227, 228, 230, 231, 233, 234, 235, 237, 238, 240, 241, 242, 244, 245, 247, 248, 249, 251, 252, 254, 255, 256, 263, 265, 266, 268, 269, 270, 272, 273, 275, 276, 277, 279, 280, 282, 283, 284, 286, 287, 289, 290, 327, 328, 329, 330, 333, 335, 336, 338, 339, 340, 342, 343, 345, 346, 347, 349, 350, 352, 353].map s.heap.get?) (boot_heap (w.withFollow "special-get-raises" b).params) s.abs)
noncomputable def hgood (b : Bool) (w : World) (xos : OsState) :=
  some (true, openGood hd.view_39 [Str.ofString "LETTERS", Str.ofString "PARTS", Str.ofString "CONTROLS", Str.ofString "PLAIN"], ((hd.heap_39 (w.withFollow "special-get-raises" b).params).map fun p => some p.2))
noncomputable def probe : Bool := (fun (_ _ : Bool → World → OsState → Option (Bool × _ × List (Option Obj))) => true) hrun hgood
theorem probe_ok : probe = true := by k_qdec
theorem hrun_f : ∀ w os, PySem.W.Fast.tw5428318764360743898 false w os = PySem.W.Fast.tw172523069759446859 false w os := fun w os => by kernel_rfl
theorem hrun_t : ∀ w os, PySem.W.Fast.tw5428318764360743898 true w os = PySem.W.Fast.tw172523069759446859 true w os := fun w os => by kernel_rfl
theorem hrun_all (b : Bool) (w : World) (os : OsState) : hrun b w os = hgood b w os := by
  have e1 := congrFun (congrFun (congrFun PySem.W.Fast.te5428318764360743898 b) w) os
  have e2 := congrFun (congrFun (congrFun PySem.W.Fast.te172523069759446859 b) w) os
  refine e1.trans (Eq.trans ?_ e2.symm)
  cases b
  · exact hrun_f w os
  · exact hrun_t w os
theorem hleft : LeftO PySem.Challenge.pw_rg0179_01 hd.view_39 [Str.ofString "LETTERS", Str.ofString "PARTS", Str.ofString "CONTROLS", Str.ofString "PLAIN"] (fun s => xlAt hd.view_39 [] s && recOk (RowW.records PySem.Challenge.rw_rg0179_01.row.toRowW) s) (fun s : Shared => ([ 2, 3, 151, 153, 154, 156, 157, 158, 159, 160, 161, 164, 165, 166, 167, 168, 169, 170, 171, 172, 173, 174, 175, 176, 177, 178, 179, 181, 182, 184, 185, 186, 188, 189, 191, 192, 193, 195, 196, 198, 199, 207, 209, 210, 212, 213, 214, 216, 217, 219, 220, 221, 223, 224, 226, 227, 228, 230, 231, 233, 234, 235, 237, 238, 240, 241, 242, 244, 245, 247, 248, 249, 251, 252, 254, 255, 256, 263, 265, 266, 268, 269, 270, 272, 273, 275, 276, 277, 279, 280, 282, 283, 284, 286, 287, 289, 290, 327, 328, 329, 330, 333, 335, 336, 338, 339, 340, 342, 343, 345, 346, 347, 349, 350, 352, 353] : List Addr).map s.heap.get?) (fun w : World => (hd.heap_39 w.params).map fun p => some p.2) 4190 :=
  left_tree "special-get-raises" (boot_open (by kernel_rfl) (by decide +kernel) (fun s => by kernel_rfl)) (fun P => boot_abs P) boot_size (fun b w os => hrun_all b w os)
end Mine
end PartHD
section PartP1
open PySem PySem.W PySem.Spec PySem.Calls PyProof.Rows
namespace Mine
theorem range_take (l : List Nat) (a : Nat) : ∀ c : Nat, a + c ≤ l.length → ((List.range c).map (fun k => a + k)).filterMap (fun i => l[i]?) = (l.drop a).take c := by
  intro c
  induction c with
  | zero => intro _; simp
  | succ c ih =>
    intro h
    rw [List.range_succ, List.map_append, List.filterMap_append, ih (by omega), List.take_add_one]
    congr 1
    have : a + c < l.length := by omega
    simp [List.getElem?_eq_getElem this]
theorem indices_at {q : Int} (h0 : 0 ≤ q) (n N : Nat) : PySem.Builtin.Str.strSliceIndices (some q) (some (q + n)) 1 N = (List.range (min (q.toNat + n) N - min q.toNat N)).map (fun k => min q.toNat N + k) := by
  unfold PySem.Builtin.Str.strSliceIndices sliceRange
  have h1 : ¬ q < 0 := by omega
  have h2 : ¬ q + n < 0 := by omega
  have h3 : (1 : Int) > 0 := by decide
  simp only [h1, h2, h3, if_true, if_false]
  have e1 : max 0 (min q (N : Int)) = ((min q.toNat N : Nat) : Int) := by omega
  have e2 : max 0 (min (q + n) (N : Int)) = ((min (q.toNat + n) N : Nat) : Int) := by omega
  rw [e1, e2]
  have e3 : (if ((min q.toNat N : Nat) : Int) < ((min (q.toNat + n) N : Nat) : Int) then (((min (q.toNat + n) N : Nat) : Int) - ((min q.toNat N : Nat) : Int) + 1 - 1) / 1 else 0).toNat = min (q.toNat + n) N - min q.toNat N := by
    split
    · rw [Int.ediv_one]; omega
    · omega
  rw [e3]
  refine List.map_congr_left fun k _ => ?_
  omega
theorem slice_at {T : Str} {q : Int} {l : List Nat} (h0 : 0 ≤ q) (hl : T.cps.toList.drop q.toNat = l) (n : Nat) : Txt.slice T (some q) (some (q + n)) = ⟨(l.take n).toArray⟩ := by
  subst hl
  have key : ((PySem.Builtin.Str.strSliceIndices (some q) (some (q + n)) 1 T.length).filterMap (T.cps[·]?)) = (T.cps.toList.drop q.toNat).take n := by
    rw [indices_at h0]
    have hf : (fun (i : Nat) => T.cps[i]?) = (fun (i : Nat) => T.cps.toList[i]?) := by funext i; simp
    have hN : T.length = T.cps.toList.length := by simp [Str.length]
    rw [hf, hN, range_take _ _ _ (by omega)]
    rcases Nat.le_total q.toNat T.cps.toList.length with h | h
    · rw [Nat.min_eq_left h]
      apply List.ext_getElem?
      intro i
      rw [List.getElem?_take, List.getElem?_take]
      split <;> split <;> first | rfl | (exfalso; omega) | skip
      · rw [List.getElem?_eq_none]; rw [List.length_drop]; omega
    · rw [Nat.min_eq_right h, List.drop_of_length_le h, List.drop_of_length_le (Nat.le_refl _)]
      simp
  unfold Txt.slice
  split
  · rename_i h
    have hlen : (PySem.Builtin.Str.strSliceIndices (some q) (some (q + n)) 1 T.length).length = T.length := by simpa using h
    rw [indices_at h0] at hlen
    simp only [List.length_map, List.length_range] at hlen
    have hN : T.length = T.cps.toList.length := by simp [Str.length]
    have : T.cps.toList = (T.cps.toList.drop q.toNat).take n := by
      rcases Nat.eq_zero_or_pos T.length with hz | hz
      · have : T.cps.toList = [] := List.eq_nil_of_length_eq_zero (by omega)
        rw [this]; simp
      · have hq : q.toNat = 0 := by omega
        rw [hq, List.drop_zero, List.take_of_length_le (by omega)]
    rw [← this]
  · rw [key]
theorem drop_takeWhile {α : Type} (p : α → Bool) : ∀ l : List α, l.drop (l.takeWhile p).length = l.dropWhile p
  | [] => rfl
  | a :: l => by
    by_cases h : p a = true
    · simp [h, drop_takeWhile p l]
    · simp [h]
theorem lstrip_is (x : Str) : Txt.lstripChars x (Str.ofString "0") = ⟨(x.cps.toList.dropWhile (· == 48)).toArray⟩ := by
  have hg : (Str.ofString "0").cps.contains = (fun c : Nat => c == 48) := by
    have e : Str.ofString "0" = ⟨#[48]⟩ := by decide +kernel
    rw [e]; funext c; simp [Array.contains]
  unfold Txt.lstripChars
  rw [PyProof.Rows.stripBy_eq, hg]
  have e1 : PySem.stripHi (fun c : Nat => c == 48) false x (PySem.stripLo (fun c : Nat => c == 48) true x) = x.length := rfl
  rw [e1]
  apply Str.ext'
  apply Array.ext'
  rw [StrLaws.strSub_toList]
  have e2 : PySem.stripLo (fun c : Nat => c == 48) true x = (x.cps.toList.takeWhile (fun c : Nat => c == 48)).length := rfl
  rw [e2, drop_takeWhile]
  show _ = List.dropWhile _ _
  refine List.take_of_length_le ?_
  have h1 := congrArg List.length (drop_takeWhile (fun c : Nat => c == 48) x.cps.toList)
  rw [List.length_drop] at h1
  have : x.length = x.cps.toList.length := by simp [Str.length]
  omega
end Mine
end PartP1
section PartC1
open PySem PySem.W PySem.Spec PySem.Calls PyProof.Rows
set_option maxRecDepth 100000
set_option maxHeartbeats 8000000
namespace Mine
theorem primeIt : (Mine.hd.heap_39 = Mine.hd.heap_39 ∧ PySem.Challenge.rw_rg0179_01 = PySem.Challenge.rw_rg0179_01) := by
  k_fill; exact ⟨rfl, rfl⟩

abbrev rdict (H1 H2 H3 H4 H5 : Int) (k1 k2 k3 k4 k5 : Tok) (T : Str) (tT : Tok) (q : Int) (tp : Tok) (g : Int) (tg : Tok) (f : Int) (tf : Tok) (e : Int) (te : Tok) : Obj :=
  dictOf [⟨H1, .str (Str.ofString "text") k1, .str T tT⟩, ⟨H2, .str (Str.ofString "at") k2, .int q tp⟩, ⟨H3, .str (Str.ofString "groups") k3, .int g tg⟩, ⟨H4, .str (Str.ofString "farthest_back") k4, .int f tf⟩, ⟨H5, .str (Str.ofString "depth") k5, .int e te⟩] 5

abbrev Tell (n : Nat) (f : Addr) (vs : List Value) (news : List (Addr × Obj)) (P : Value → List (Addr × Obj) → Prop) : Prop :=
  ∀ (prog : Program) (w : World) (p : Program) (loose : List Str) (mean : ExcName → Option Value) (mg mb : Str → Option Value)
    (dp un : Nat) (gd : Option (List Code)) (cn : Str) (cs : Scope) (a : Addr) (ccd : Value) (cl : List (Str × Addr)) (outer : List Env) (A₀ : Around) (base h₀ : Heap) (L : Addr) (m : Str → Option Value) (s : Shared) (Q E : Value → Shared → Prop)
    (xB : Below A₀ base outer h₀) (xF : Fr h₀ L s.heap m) (xX : (hd.heap_39 w.params).In h₀) (xN : News h₀ L s.heap news) (xT : Top p loose mean mg mb h₀) (xhk : cs.kind = .function)
    (xhd : dp + n < recursionLimit) (xhu : un + 8 * n < cLine)
    (xhret : ∀ (v : Value) (news' : List (Addr × Obj)) (h' : Heap) (tk' : Nat), P v news' → Fr h₀ L h' m → News h₀ L h' news' → Q v { s with heap := h', toks := tk' }),
    wpAny (model prog w) (ktrTop dp un gd cn cs L a ccd cl outer) (call (.ref f) vs) Q E s

structure At (T : Str) (q : Int) (l : List Nat) : Prop where
  pos : 0 ≤ q
  rest : T.cps.toList.drop q.toNat = l
  size : T.length ≤ 1000

local macro_rules | `(tactic| k_room) => `(tactic| ktr_room)
local macro_rules | `(tactic| k_mem) => `(tactic| first | assumption | exact List.mem_cons_self | (refine List.mem_cons_of_mem _ ?_; k_mem))
local macro_rules | `(tactic| k_all) => `(tactic| first | assumption | exact List.forall_mem_nil _ | (refine' List.forall_mem_cons.mpr ⟨?a, ?b⟩; (case a => k_ne); (case b => k_all)))
section
variable {H1 H2 H3 H4 H5 : Int} {k1 k2 k3 k4 k5 : Tok} {T : Str} {tT : Tok} {q : Int} {tp : Tok} {g : Int} {tg : Tok} {f : Int} {tf : Tok} {e : Int} {te : Tok} {r d : Addr} {l : List Nat} {x : Str}

theorem sign_ok {news : List (Addr × Obj)} (hr : (r, instObj 328 d) ∈ news) (hD : (d, rdict H1 H2 H3 H4 H5 k1 k2 k3 k4 k5 T tT q tp g tg f tf e te) ∈ news)
    (hA : At T q l) (hx : (⟨(l.take 1).toArray⟩ : Str) = x) :
    Tell 2 220 [.ref r] news (fun v news' => ∃ t, v = .str x t ∧ news' = news) := by
  intro prog w p loose mean mg mb dp un gd cn cs a ccd cl outer A₀ base h₀ L m s Q E B F X N TT hk hd hu hret
  have hT : T.length ≤ 1048576 := Nat.le_trans hA.size (by decide)
  have hS : Txt.slice T (some q) (some (q + 1)) = x := (slice_at hA.pos hA.rest 1).trans hx
  have h0 := hA.pos
  refine wpAny_call ?_
  k_dflt cell_enter
  k_steps
  rw [hS]
  exact hret _ _ _ _ ⟨_, rfl, rfl⟩ (by assumption) (by assumption)

def isDec : List Nat → Bool
  | [] => false
  | c :: _ => decide (48 ≤ c) && decide (c ≤ 57)
theorem ch0 : (Str.ofString "0").cps.toList = [48] := by decide +kernel
theorem ch9 : (Str.ofString "9").cps.toList = [57] := by decide +kernel
theorem lt0 (c : Nat) : [c] < (Str.ofString "0").cps.toList ↔ c < 48 := by rw [ch0]; simp [List.cons_lt_cons_iff]
theorem lt9 (c : Nat) : (Str.ofString "9").cps.toList < [c] ↔ 57 < c := by rw [ch9]; simp [List.cons_lt_cons_iff]
theorem isdec_nil {t : Tok} {news : List (Addr × Obj)} :
    Tell 2 199 [.str ⟨#[]⟩ t] news (fun v news' => v = .bool false ∧ news' = news) := by
  intro prog w p loose mean mg mb dp un gd cn cs a ccd cl outer A₀ base h₀ L m s Q E B F X N TT hk hd hu hret
  have hT : (⟨#[]⟩ : Str).length ≤ 1048576 := Nat.zero_le _
  refine wpAny_call ?_
  k_dflt cell_enter
  k_steps
  all_goals first
    | exact hret _ _ _ _ ⟨rfl, rfl⟩ (by assumption) (by assumption)
    | (exfalso; simp_all; done)
    | (exfalso; simp [Str.length] at *; done)
    | trace_state
theorem isdec_cons {c : Nat} {t : Tok} {news : List (Addr × Obj)} :
    Tell 2 199 [.str ⟨#[c]⟩ t] news (fun v news' => v = .bool (decide (48 ≤ c) && decide (c ≤ 57)) ∧ news' = news) := by
  intro prog w p loose mean mg mb dp un gd cn cs a ccd cl outer A₀ base h₀ L m s Q E B F X N TT hk hd hu hret
  have hT : (⟨#[c]⟩ : Str).length ≤ 1048576 := by show 1 ≤ 1048576; decide
  have hlen : (((⟨#[c]⟩ : Str).length : Int) == 1) = true := rfl
  refine wpAny_call ?_
  k_dflt cell_enter
  k_steps
  all_goals (simp only [lt0, lt9] at *)
  all_goals first
    | exact hret _ _ _ _ ⟨congrArg Value.bool (by first | rfl | (rw [← decide_not, ← Bool.decide_and]; apply decide_eq_decide.mpr; omega)), rfl⟩ (by assumption) (by assumption)
    | (exfalso; exact absurd hlen (by assumption))
    | trace_state

theorem tell_use {n : Nat} {f : Addr} {vs : List Value} {news : List (Addr × Obj)} {P : Value → List (Addr × Obj) → Prop} (C : Tell n f vs news P) {prog : Program} {w : World} {p : Program} {loose : List Str} {mean : ExcName → Option Value} {mg mb : Str → Option Value}
    {dp un : Nat} {gd : Option (List Code)} {cn : Str} {cs : Scope} {a : Addr} {ccd : Value} {cl : List (Str × Addr)} {outer : List Env} {A₀ : Around} {base h₀ : Heap} {L : Addr} {m : Str → Option Value} {s : Shared} {Q E : Value → Shared → Prop}
    (B : Below A₀ base outer h₀) (F : Fr h₀ L s.heap m) (X : (hd.heap_39 w.params).In h₀) (N : News h₀ L s.heap news) (T : Top p loose mean mg mb h₀) (hk : cs.kind = .function)
    (hd : dp + n < recursionLimit) (hu : un + 8 * n < cLine)
    (hret : ∀ (v : Value) (news' : List (Addr × Obj)) (h' : Heap) (tk' : Nat), P v news' → Fr h₀ L h' m → News h₀ L h' news' → Q v { s with heap := h', toks := tk' }) :
    wpAny (model prog w) (ktrTop dp un gd cn cs L a ccd cl outer) (call (.ref f) vs) Q E s := C _ _ _ _ _ _ _ _ _ _ _ _ _ _ _ _ _ _ _ _ _ _ _ _ B F X N T hk hd hu hret

theorem tell_use2 {n : Nat} {f : Addr} {vs : List Value} {news : List (Addr × Obj)} {P : Value → List (Addr × Obj) → Prop} (C : Tell n f vs news P) {prog : Program} {w : World} {p : Program} {loose : List Str} {mean : ExcName → Option Value} {mg mb : Str → Option Value}
    {dp un : Nat} {gd : Option (List Code)} {cn : Str} {cs : Scope} {a : Addr} {ccd : Value} {cl : List (Str × Addr)} {outer : List Env} {A A₀ : Around} {base h₀ : Heap} {L : Addr} {m : Str → Option Value} {s : Shared} {Q E : Value → Shared → Prop}
    (F : Fr h₀ L s.heap m) (X : (hd.heap_39 w.params).In h₀) (N : News h₀ L s.heap news) (T : Top p loose mean mg mb h₀) (B : Below A₀ base outer h₀) (hA : A = ktrTop dp un gd cn cs L a ccd cl outer) (hk : cs.kind = .function)
    (hd : dp + n < recursionLimit) (hu : un + 8 * n < cLine)
    (hret : ∀ (v : Value) (news' : List (Addr × Obj)) (h' : Heap) (tk' : Nat), P v news' → Fr h₀ L h' m → News h₀ L h' news' → Q v { s with heap := h', toks := tk' }) :
    wpAny (model prog w) A (call (.ref f) vs) Q E s := by
  subst hA
  exact C _ _ _ _ _ _ _ _ _ _ _ _ _ _ _ _ _ _ _ _ _ _ _ _ B F X N T hk hd hu hret
local macro_rules | `(tactic| walk_at "call ref") => `(tactic| (k_here; k_dflt (refine' tell_use (sign_ok ?hr ?hD ?hA ?hx) ?k1 ?k2 ?k3 ?k4 ?k5 ?k6 ?k7 ?k8 ?_; (case k1 => k_asm); (case k2 => k_asm); (case k3 => k_asm); (case k4 => k_asm); (case k5 => k_asm); (case k6 => first | exact rfl | assumption); (case k7 => ktr_room); (case k8 => ktr_units); (case hr => k_mem); (case hD => k_mem); (case hA => assumption); (case hx => exact rfl); intro v9 n9 h9 tk9 hP9 F9 N9; obtain ⟨t9, e9, e9'⟩ := hP9; subst e9; subst e9'; (try dsimp only); (try k_fold))))

theorem take_ok {rest : List (Addr × Obj)} (hne : ∀ p ∈ rest, p.1 ≠ d) (hr : (r, instObj 328 d) ∈ rest) (hA : At T q l) :
    Tell 4 227 [.ref r] ((d, rdict H1 H2 H3 H4 H5 k1 k2 k3 k4 k5 T tT q tp g tg f tf e te) :: rest)
      (fun v news' => ∃ t tp', v = .str ⟨(l.take 1).toArray⟩ t ∧ news' = (d, rdict H1 H2 H3 H4 H5 k1 k2 k3 k4 k5 T tT (q + 1) tp' g tg f tf e te) :: rest) := by
  intro prog w p loose mean mg mb dp un gd cn cs a ccd cl outer A₀ base h₀ L m s Q E B F X N TT hk hd hu hret
  refine wpAny_call ?_
  k_dflt cell_enter
  k_steps
  all_goals exact hret _ _ _ _ ⟨_, _, rfl, rfl⟩ (by assumption) (by assumption)

theorem strne_false {x y : Str} (h : (x != y) = false) : x = y := by simpa using h
theorem strne_true {x y : Str} (h : (x != y) = true) : x ≠ y := by simpa using h
theorem skip_no {rest : List (Addr × Obj)} {W : Str} {tw : Tok} (hne : ∀ p ∈ rest, p.1 ≠ d) (hr : (r, instObj 328 d) ∈ rest) (hA : At T q l) (hW : W.length ≤ 1000) (hn : l.take W.length ≠ W.cps.toList) :
    Tell 2 234 [.ref r, .str W tw] ((d, rdict H1 H2 H3 H4 H5 k1 k2 k3 k4 k5 T tT q tp g tg f tf e te) :: rest)
      (fun v news' => v = .bool false ∧ news' = (d, rdict H1 H2 H3 H4 H5 k1 k2 k3 k4 k5 T tT q tp g tg f tf e te) :: rest) := by
  intro prog w p loose mean mg mb dp un gd cn cs a ccd cl outer A₀ base h₀ L m s Q E B F X N TT hk hd hu hret
  have hT : T.length ≤ 1048576 := Nat.le_trans hA.size (by decide)
  have hW2 : W.length ≤ 1048576 := Nat.le_trans hW (by decide)
  have hS : Txt.slice T (some q) (some (q + (W.length : Int))) ≠ W := by
    rw [slice_at hA.pos hA.rest W.length]
    intro h
    refine hn ?_
    have h2 := congrArg (fun z : Str => z.cps.toList) h
    simpa using h2
  have h0 := hA.pos
  refine wpAny_call ?_
  k_dflt cell_enter
  k_steps
  all_goals first
    | exact hret _ _ _ _ ⟨rfl, rfl⟩ (by assumption) (by assumption)
    | exact absurd (strne_false (by assumption)) hS
theorem skip_yes {rest : List (Addr × Obj)} {W : Str} {tw : Tok} (hne : ∀ p ∈ rest, p.1 ≠ d) (hr : (r, instObj 328 d) ∈ rest) (hA : At T q l) (hW : W.length ≤ 1000) (hn : l.take W.length = W.cps.toList) :
    Tell 2 234 [.ref r, .str W tw] ((d, rdict H1 H2 H3 H4 H5 k1 k2 k3 k4 k5 T tT q tp g tg f tf e te) :: rest)
      (fun v news' => ∃ tp', v = .bool true ∧ news' = (d, rdict H1 H2 H3 H4 H5 k1 k2 k3 k4 k5 T tT (q + W.length) tp' g tg f tf e te) :: rest) := by
  intro prog w p loose mean mg mb dp un gd cn cs a ccd cl outer A₀ base h₀ L m s Q E B F X N TT hk hd hu hret
  have hT : T.length ≤ 1048576 := Nat.le_trans hA.size (by decide)
  have hW2 : W.length ≤ 1048576 := Nat.le_trans hW (by decide)
  have hS : Txt.slice T (some q) (some (q + (W.length : Int))) = W := by
    rw [slice_at hA.pos hA.rest W.length, hn]
  have h0 := hA.pos
  refine wpAny_call ?_
  k_dflt cell_enter
  k_steps
  all_goals first
    | exact hret _ _ _ _ ⟨_, rfl, rfl⟩ (by assumption) (by assumption)
    | exact absurd hS (strne_true (by assumption))
end
end Mine
end PartC1
section PartC2
open PySem PySem.W PySem.Spec PySem.Calls PyProof.Rows
set_option maxRecDepth 100000
set_option maxHeartbeats 8000000
namespace Mine
theorem sgn_cons {c : Nat} {l : List Nat} : (⟨(List.take 1 (c :: l)).toArray⟩ : Str) = ⟨#[c]⟩ := rfl
theorem sgn_nil : (⟨(List.take 1 ([] : List Nat)).toArray⟩ : Str) = ⟨#[]⟩ := rfl
theorem At.tail {T : Str} {q : Int} {c : Nat} {l : List Nat} (h : At T q (c :: l)) : At T (q + 1) l := by
  refine ⟨by have := h.pos; omega, ?_, h.size⟩
  have e : (q + 1).toNat = q.toNat + 1 := by have := h.pos; omega
  rw [e, ← List.drop_drop, h.rest]; rfl
local macro_rules | `(tactic| k_room) => `(tactic| ktr_room)
local macro_rules | `(tactic| k_mem) => `(tactic| first | assumption | exact List.mem_cons_self | (refine List.mem_cons_of_mem _ ?_; k_mem))
local macro_rules | `(tactic| k_all) => `(tactic| first | assumption | exact List.forall_mem_nil _ | (refine' List.forall_mem_cons.mpr ⟨?a, ?b⟩; (case a => k_ne); (case b => k_all)))
local macro_rules | `(tactic| walk_at "call ref") => `(tactic| (k_here; k_dflt (refine' tell_use (sign_ok ?hr ?hD ?hA ?hx) ?k1 ?k2 ?k3 ?k4 ?k5 ?k6 ?k7 ?k8 ?_; (case k1 => k_asm); (case k2 => k_asm); (case k3 => k_asm); (case k4 => k_asm); (case k5 => k_asm); (case k6 => first | exact rfl | assumption); (case k7 => ktr_room); (case k8 => ktr_units); (case hr => k_mem); (case hD => k_mem); (case hA => assumption); (case hx => first | exact sgn_cons | exact sgn_nil); intro v9 n9 h9 tk9 hP9 F9 N9; obtain ⟨t9, e9, e9'⟩ := hP9; subst e9; subst e9'; (try dsimp only); (try k_fold))))
local macro_rules | `(tactic| walk_at "call ref") => `(tactic| (k_here; k_dflt (refine' tell_use isdec_cons ?k1 ?k2 ?k3 ?k4 ?k5 ?k6 ?k7 ?k8 ?_; (case k1 => k_asm); (case k2 => k_asm); (case k3 => k_asm); (case k4 => k_asm); (case k5 => k_asm); (case k6 => first | exact rfl | assumption); (case k7 => ktr_room); (case k8 => ktr_units); intro v9 n9 h9 tk9 hP9 F9 N9; obtain ⟨e9, e9'⟩ := hP9; subst e9; subst e9'; (try dsimp only); (try k_fold))))
local macro_rules | `(tactic| walk_at "call ref") => `(tactic| (k_here; k_dflt (refine' tell_use isdec_nil ?k1 ?k2 ?k3 ?k4 ?k5 ?k6 ?k7 ?k8 ?_; (case k1 => k_asm); (case k2 => k_asm); (case k3 => k_asm); (case k4 => k_asm); (case k5 => k_asm); (case k6 => first | exact rfl | assumption); (case k7 => ktr_room); (case k8 => ktr_units); intro v9 n9 h9 tk9 hP9 F9 N9; obtain ⟨e9, e9'⟩ := hP9; subst e9; subst e9'; (try dsimp only); (try k_fold))))
local macro_rules | `(tactic| walk_at "call ref") => `(tactic| (k_here; k_dflt (refine' tell_use (take_ok ?hne ?hr ?hA) ?k1 ?k2 ?k3 ?k4 ?k5 ?k6 ?k7 ?k8 ?_; (case k1 => k_asm); (case k2 => k_asm); (case k3 => k_asm); (case k4 => k_asm); (case k5 => k_asm); (case k6 => first | exact rfl | assumption); (case k7 => ktr_room); (case k8 => ktr_units); (case hne => assumption); (case hr => k_mem); (case hA => assumption); intro v9 n9 h9 tk9 hP9 F9 N9; obtain ⟨t9, tp9, e9, e9'⟩ := hP9; subst e9; subst e9'; (try dsimp only); (try k_fold))))
def numFrom (a : Int) (ds : List Nat) : Int := ds.foldl (fun (a : Int) (c : Nat) => min (10 * a + (c : Int) - 48) 1000000000) a
section
variable {H1 H2 H3 H4 H5 : Int} {k1 k2 k3 k4 k5 : Tok} {T : Str} {tT : Tok} {q : Int} {tp : Tok} {g : Int} {tg : Tok} {f : Int} {tf : Tok} {e : Int} {te : Tok} {r d : Addr} {l : List Nat} {x : Str}
def NumEnd (mE : Str → Option Value) (H1 H2 H3 H4 H5 : Int) (k1 k2 k3 k4 k5 : Tok) (T : Str) (tT : Tok) (q g : Int) (tg : Tok) (f : Int) (tf : Tok) (e : Int) (te : Tok) (d : Addr) (rest : List (Addr × Obj)) (s : Shared) (h₀ : Heap) (L : Addr) (v : Int) (fl : Flow) (s₃ : Shared) : Prop :=
  fl = .next ∧ ∃ h' tk m₂ t2 tp2, s₃ = { s with heap := h', toks := tk } ∧ Fr h₀ L h' m₂ ∧ m₂ = (fun y => if y = Str.ofString "found" then some (.int v t2) else mE y) ∧ News h₀ L h' ((d, rdict H1 H2 H3 H4 H5 k1 k2 k3 k4 k5 T tT (q + 1) tp2 g tg f tf e te) :: rest)
theorem upd_upd {x : Str} {a b : Option Value} {m : Str → Option Value} : (fun y => if y = x then a else (if y = x then b else m y)) = (fun y => if y = x then a else m y) := by
  funext y; by_cases h : y = x <;> simp [h]
theorem numEnd_mk {mE : Str → Option Value} {rest : List (Addr × Obj)} {s : Shared} {h₀ h' : Heap} {L : Addr} {v v' : Int} {b : Option Value} {t2 tp2 : Tok} {tk : Nat}
    (hv : v' = v) (F : Fr h₀ L h' (fun y => if y = Str.ofString "found" then some (.int v' t2) else (if y = Str.ofString "found" then b else mE y))) (N : News h₀ L h' ((d, rdict H1 H2 H3 H4 H5 k1 k2 k3 k4 k5 T tT (q + 1) tp2 g tg f tf e te) :: rest)) :
    NumEnd mE H1 H2 H3 H4 H5 k1 k2 k3 k4 k5 T tT q g tg f tf e te d rest s h₀ L v .next { s with heap := h', toks := tk } := by
  subst hv
  exact ⟨rfl, h', tk, _, t2, tp2, rfl, F, upd_upd, N⟩
theorem While_num {prog : Program} {w : World} {A : Around} {E : Value → Shared → Prop} {Q : Flow → Shared → Prop} {s : Shared} {env : Env} {h₀ : Heap} {L : Addr} {test : Expr} {body : List Stmt} {pos : Pos} {mE : Str → Option Value} {t0 : Tok}
    {rest : List (Addr × Obj)} (ds l' : List Nat) (F : Fr h₀ L s.heap mE) (N : News h₀ L s.heap ((d, rdict H1 H2 H3 H4 H5 k1 k2 k3 k4 k5 T tT q tp g tg f tf e te) :: rest)) (hm : mE (Str.ofString "found") = some (.int 0 t0))
    (hA : At T q (ds ++ l')) (hds : ∀ c ∈ ds, 48 ≤ c ∧ c ≤ 57)
    (hend : ∀ t' tp' h₁ tk₁, Fr h₀ L h₁ (fun y => if y = Str.ofString "found" then some (.int (numFrom 0 ds) t') else mE y) → News h₀ L h₁ ((d, rdict H1 H2 H3 H4 H5 k1 k2 k3 k4 k5 T tT (q + ds.length) tp' g tg f tf e te) :: rest) → At T (q + ds.length) l' →
      wpAny (model prog w) A (isTrue test env (eval test env)) (fun b s₂ => if b = true then False else Q .next s₂) E { s with heap := h₁, toks := tk₁ })
    (hstep : ∀ c ds' fd t' q' tp' h₁ tk₁, Fr h₀ L h₁ (fun y => if y = Str.ofString "found" then some (.int fd t') else mE y) → News h₀ L h₁ ((d, rdict H1 H2 H3 H4 H5 k1 k2 k3 k4 k5 T tT q' tp' g tg f tf e te) :: rest) → At T q' (c :: ds') → At T (q' + 1) ds' →
      48 ≤ c → c ≤ 57 → 0 ≤ fd → fd ≤ 1000000000 →
      wpAny (model prog w) A (isTrue test env (eval test env)) (fun b s₂ => if b = true then wpAny (model prog w) A (execs body env) (NumEnd mE H1 H2 H3 H4 H5 k1 k2 k3 k4 k5 T tT q' g tg f tf e te d rest s h₀ L (min (10 * fd + (c : Int) - 48) 1000000000)) E s₂ else False) E { s with heap := h₁, toks := tk₁ })
    (hE : PassesOwn (model prog w) A env E) : wpAny (model prog w) A (exec (.While test body [] pos) env) Q E s := by
  refine While_inv (J := fun n m₁ news₁ => ∃ ds' fd t' q' tp', n = ds'.length ∧ m₁ = (fun y => if y = Str.ofString "found" then some (.int fd t') else mE y) ∧ news₁ = (d, rdict H1 H2 H3 H4 H5 k1 k2 k3 k4 k5 T tT q' tp' g tg f tf e te) :: rest ∧ At T q' (ds' ++ l') ∧ numFrom fd ds' = numFrom 0 ds ∧ q' + ds'.length = q + ds.length ∧ (∀ c ∈ ds', 48 ≤ c ∧ c ≤ 57) ∧ 0 ≤ fd ∧ fd ≤ 1000000000) (n₀ := ds.length) F N ⟨ds, 0, t0, q, tp, rfl, ?_, rfl, hA, rfl, rfl, hds, by decide, by decide⟩ ?_ hE
  · funext y
    by_cases h : y = Str.ofString "found"
    · subst h; rw [if_pos rfl, hm]
    · rw [if_neg h]
  · rintro n m₁ news₁ h₁ tk₁ F1 N1 ⟨ds', fd, t', q', tp', rfl, rfl, rfl, hA', hV, hq, hd', h0, h9⟩
    cases ds' with
    | nil =>
      have e1 : fd = numFrom 0 ds := hV
      have e2 : q' = q + ds.length := by rw [← hq]; simp
      subst e1; subst e2
      refine wpAny_mono (hend _ _ _ _ F1 N1 hA') (fun b s₂ h => ?_) fun _ _ h => h
      cases b with
      | true => simp at h
      | false => simpa using h
    | cons c ds' =>
      have hA2 : At T q' (c :: (ds' ++ l')) := hA'
      have hc := hd' c (List.mem_cons_self)
      refine wpAny_mono (hstep c (ds' ++ l') fd t' q' tp' _ _ F1 N1 hA2 hA2.tail hc.1 hc.2 h0 h9) (fun b s₂ h => ?_) fun _ _ h => h
      cases b with
      | false => simp at h
      | true =>
        simp only [if_true] at h ⊢
        refine wpAny_mono h (fun fl s₃ h3 => ?_) fun _ _ h => h
        obtain ⟨rfl, h', tk, m₂, t2, tp2, rfl, F2, rfl, N2⟩ := h3
        refine WhileStep.intro F2 N2 (n' := ds'.length) (by simp) ⟨ds', _, t2, q' + 1, tp2, rfl, rfl, rfl, hA2.tail, ?_, ?_, fun x hx => hd' x (List.mem_cons_of_mem _ hx), ?_, ?_⟩
        · rw [← hV]; rfl
        · rw [← hq, List.length_cons]; push_cast; omega
        · have := hc.1; omega
        · omega
theorem number_ok {rest : List (Addr × Obj)} {ds l' : List Nat} (hne : ∀ p ∈ rest, p.1 ≠ d) (hr : (r, instObj 328 d) ∈ rest) (hA : At T q (ds ++ l')) (hds : ∀ c ∈ ds, 48 ≤ c ∧ c ≤ 57) (h1 : ds ≠ []) (hl' : isDec l' = false) :
    Tell 6 283 [.ref r] ((d, rdict H1 H2 H3 H4 H5 k1 k2 k3 k4 k5 T tT q tp g tg f tf e te) :: rest)
      (fun v news' => ∃ t tp', v = .int (numFrom 0 ds) t ∧ news' = (d, rdict H1 H2 H3 H4 H5 k1 k2 k3 k4 k5 T tT (q + ds.length) tp' g tg f tf e te) :: rest) := by
  intro prog w p loose mean mg mb dp un gd cn cs a ccd cl outer A₀ base h₀ L m s Q E B F X N TT hk hd hu hret
  refine wpAny_call ?_
  k_dflt cell_enter
  repeat' ((fail_if_success (with_reducible show wpAny _ _ (exec (Stmt.While _ _ _ _) _) _ _ _)); (first | (k_unfold; (try dsimp only)) | walk1 | (dsimp only; walk1)))
  (rename Fr _ _ _ _ => F1); (rename News _ _ _ _ => N1)
  have N2 : News _ _ _ ((d, rdict H1 H2 H3 H4 H5 k1 k2 k3 k4 k5 T tT q tp g tg f tf e te) :: rest) := fun p hp => N1 p (List.mem_cons_of_mem _ hp)
  clear N1
  refine' While_num ds l' F1 N2 (by rfl) hA hds ?_ ?_ (by passes_own)
  · clear F1 N2
    have hpos : 0 < ds.length := List.length_pos_iff.mpr h1
    intro t' tp' h₁ tk₁ F1 N1 hA'
    cases l' with
    | nil =>
      k_steps
      all_goals first
        | exact hret _ _ _ _ ⟨_, _, rfl, rfl⟩ (by assumption) (by assumption)
        | (exfalso; omega)
    | cons c l' =>
      have hc : (decide (48 ≤ c) && decide (c ≤ 57)) = false := hl'
      k_steps
      all_goals first
        | exact hret _ _ _ _ ⟨_, _, rfl, rfl⟩ (by assumption) (by assumption)
        | (exfalso; omega)
        | trace_state
  · clear F1 N2
    intro c ds' fd t' q' tp' h₁ tk₁ F1 N1 hA1 hA2 h48 h57 h0 h9
    k_steps
    all_goals first
      | (refine' numEnd_mk ?V ?F ?N; (case N => assumption); (case F => assumption); (case V => first | (split <;> omega)))
      | trace_state
end
end Mine
end PartC2
section PartC3
open PySem PySem.W PySem.Spec PySem.Calls PyProof.Rows
set_option maxRecDepth 100000
set_option maxHeartbeats 8000000
namespace Mine
local macro_rules | `(tactic| k_room) => `(tactic| ktr_room)
local macro_rules | `(tactic| k_mem) => `(tactic| first | assumption | exact List.mem_cons_self | (refine List.mem_cons_of_mem _ ?_; k_mem))
local macro_rules | `(tactic| k_all) => `(tactic| first | assumption | exact List.forall_mem_nil _ | (refine' List.forall_mem_cons.mpr ⟨?a, ?b⟩; (case a => k_ne); (case b => k_all)))
local macro_rules | `(tactic| walk_at "call ref") => `(tactic| (k_here; k_dflt (refine' tell_use (number_ok ?hne ?hr ?hA ?hds ?h1 ?hl) ?k1 ?k2 ?k3 ?k4 ?k5 ?k6 ?k7 ?k8 ?_; (case k1 => k_asm); (case k2 => k_asm); (case k3 => k_asm); (case k4 => k_asm); (case k5 => k_asm); (case k6 => first | exact rfl | assumption); (case k7 => ktr_room); (case k8 => ktr_units); (case hne => assumption); (case hr => k_mem); (case hA => assumption); (case hds => assumption); (case h1 => assumption); (case hl => assumption); intro v9 n9 h9 tk9 hP9 F9 N9; obtain ⟨t9, tp9, e9, e9'⟩ := hP9; subst e9; subst e9'; (try dsimp only); (try k_fold))))
section
variable {H1 H2 H3 H4 H5 : Int} {k1 k2 k3 k4 k5 : Tok} {T : Str} {tT : Tok} {q : Int} {tp : Tok} {g : Int} {tg : Tok} {f : Int} {tf : Tok} {e : Int} {te : Tok} {r d : Addr} {l : List Nat} {x : Str}
theorem counted_ok {rest : List (Addr × Obj)} {ds l' : List Nat} (hne : ∀ p ∈ rest, p.1 ≠ d) (hr : (r, instObj 328 d) ∈ rest) (hA : At T q (ds ++ l')) (hds : ∀ c ∈ ds, 48 ≤ c ∧ c ≤ 57) (h1 : ds ≠ []) (hl' : isDec l' = false) :
    Tell 10 276 [.ref r] ((d, rdict H1 H2 H3 H4 H5 k1 k2 k3 k4 k5 T tT q tp g tg f tf e te) :: rest)
      (fun v news' => ∃ tup t t2 tp', v = .ref tup ∧ d < tup ∧ AllLt tup rest ∧ news' = (tup, { cls := .type "tuple", data := .seq [.int (numFrom 0 ds) t, .str ⟨(ds.dropWhile (· == 48)).toArray⟩ t2].toArray }) :: (d, rdict H1 H2 H3 H4 H5 k1 k2 k3 k4 k5 T tT (q + ds.length) tp' g tg f tf e te) :: rest) := by
  intro prog w p loose mean mg mb dp un gd cn cs a ccd cl outer A₀ base h₀ L m s Q E B F X N TT hk hd hu hret
  have hT : T.length ≤ 1048576 := Nat.le_trans hA.size (by decide)
  have h0 := hA.pos
  have hS : Txt.lstripChars (Txt.slice T (some q) (some (q + (ds.length : Int)))) (Str.ofString "0") = ⟨(ds.dropWhile (· == 48)).toArray⟩ := by
    rw [slice_at hA.pos hA.rest ds.length, lstrip_is]
    simp
  refine wpAny_call ?_
  k_dflt cell_enter
  k_steps
  simp only [hS] at *
  rename _ ∧ AllLt _ _ => l1
  exact hret _ _ _ _ ⟨_, _, _, _, rfl, l1.1, l1.2, rfl⟩ (by assumption) (by assumption)
end
end Mine
end PartC3
section PartC4
open PySem PySem.W PySem.Spec PySem.Calls PyProof.Rows
set_option maxRecDepth 100000
set_option maxHeartbeats 8000000
namespace Mine
abbrev fig (n k : Int) : Str := Txt.mul (Str.ofString "0") k ++ Str.ofString (toString n)
theorem figures_ok {n k : Int} {tn tk : Tok} {news : List (Addr × Obj)} (h0 : 0 ≤ n) (h1 : n < 100000000000000) (hk0 : 0 ≤ k) (hk1 : k < 5) :
    Tell 2 346 [.int n tn, .int k tk] news (fun v news' => ∃ t, v = .str (fig n k) t ∧ news' = news) := by
  intro prog w p loose mean mg mb dp un gd cn cs a ccd cl outer A₀ base h₀ L m s Q E B F X N TT hk hd hu hret
  refine wpAny_call ?_
  k_dflt cell_enter
  k_steps
  exact hret _ _ _ _ ⟨_, rfl, rfl⟩ (by assumption) (by assumption)
end Mine
end PartC4
section PartC5
open PySem PySem.W PySem.Spec PySem.Calls PyProof.Rows
set_option maxRecDepth 100000
set_option maxHeartbeats 8000000
namespace Mine
section
variable {h₀ h h' : Heap} {L d r : Addr} {o o' : Obj} {news nw : List (Addr × Obj)}
theorem upd_mem {l l' : List (Addr × Obj)} (U : Upd d o o' l l') : (d, o) ∈ l := by
  induction U with
  | head _ => exact List.mem_cons_self
  | tail _ _ ih => exact List.mem_cons_of_mem _ ih
theorem upd_back {l l' : List (Addr × Obj)} (U : Upd d o o' l l') : ∀ p ∈ l', p = (d, o') ∨ (p ∈ l ∧ p.1 ≠ d) := by
  induction U with
  | head hn =>
    intro p hp
    rcases List.mem_cons.mp hp with rfl | hp
    · exact .inl rfl
    · exact .inr ⟨List.mem_cons_of_mem _ hp, hn p hp⟩
  | tail hn _ ih =>
    intro p hp
    rcases List.mem_cons.mp hp with rfl | hp
    · exact .inr ⟨List.mem_cons_self, hn⟩
    · rcases ih p hp with e | e
      · exact .inl e
      · exact .inr ⟨List.mem_cons_of_mem _ e.1, e.2⟩
abbrev others (d : Addr) (l : List (Addr × Obj)) : List (Addr × Obj) := l.filter (fun p => p.1 != d)
theorem others_ne : ∀ p ∈ others d news, p.1 ≠ d := fun p hp => by
  have := (List.mem_filter.mp hp).2
  simpa using this
theorem news_front (N : News h₀ L h news) (hm : (d, o) ∈ news) : News h₀ L h ((d, o) :: others d news) := fun p hp => by
  rcases List.mem_cons.mp hp with rfl | hp
  · exact N _ hm
  · exact N _ (List.mem_filter.mp hp).1
theorem news_back (U : Upd d o o' news nw) (N : News h₀ L h ((d, o') :: others d news)) : News h₀ L h nw := fun p hp => by
  rcases upd_back U p hp with rfl | e
  · exact N _ List.mem_cons_self
  · exact N _ (List.mem_cons_of_mem _ (List.mem_filter.mpr ⟨e.1, by simpa using e.2⟩))
theorem news_same (N0 : News h₀ L h' news) (hm : (d, o) ∈ news) (N : News h₀ L h ((d, o) :: others d news)) : News h₀ L h news := fun p hp => by
  by_cases e : p.1 = d
  · obtain ⟨a, ob⟩ := p
    simp only at e
    subst e
    have h1 := (N0 _ hp).1
    have h2 := (N0 _ hm).1
    have : ob = o := Option.some.inj (h1.symm.trans h2)
    subst this
    exact N _ List.mem_cons_self
  · exact N _ (List.mem_cons_of_mem _ (List.mem_filter.mpr ⟨hp, by simpa using e⟩))
theorem lt_back (U : Upd d o o' news nw) {t : Addr} (h1 : d < t) (h2 : AllLt t (others d news)) : ∀ p ∈ nw, p.1 < t := fun p hp => by
  rcases upd_back U p hp with rfl | e
  · exact h1
  · have : ∀ {l : List (Addr × Obj)}, AllLt t l → ∀ p ∈ l, p.1 < t := by
      intro l
      induction l with
      | nil => intro _ p hp; exact nomatch hp
      | cons x l ih =>
        intro h p hp
        rcases List.mem_cons.mp hp with rfl | hp
        · exact h.1
        · exact ih h.2 p hp
    exact this h2 p (List.mem_filter.mpr ⟨e.1, by simpa using e.2⟩)
end
section
variable {H1 H2 H3 H4 H5 : Int} {k1 k2 k3 k4 k5 : Tok} {T : Str} {tT : Tok} {q : Int} {tp : Tok} {g : Int} {tg : Tok} {f : Int} {tf : Tok} {e : Int} {te : Tok} {r d : Addr} {l : List Nat} {x : Str} {news : List (Addr × Obj)} {nw : Tok → List (Addr × Obj)}
theorem inst_others {h₀ h : Heap} {L : Addr} (N : News h₀ L h news) (hr : (r, instObj 328 d) ∈ news) (hm : (d, rdict H1 H2 H3 H4 H5 k1 k2 k3 k4 k5 T tT q tp g tg f tf e te) ∈ news) : (r, instObj 328 d) ∈ others d news := by
  refine List.mem_filter.mpr ⟨hr, ?_⟩
  have : r ≠ d := by
    intro e
    subst e
    have h1 := (N _ hr).1
    have h2 := (N _ hm).1
    have := Option.some.inj (h1.symm.trans h2)
    have := congrArg Obj.cls this
    cases this
  simpa using this
theorem take_ext (hr : (r, instObj 328 d) ∈ news) (hA : At T q l) (hx : (⟨(l.take 1).toArray⟩ : Str) = x)
    (hU : ∀ tp', Upd d (rdict H1 H2 H3 H4 H5 k1 k2 k3 k4 k5 T tT q tp g tg f tf e te) (rdict H1 H2 H3 H4 H5 k1 k2 k3 k4 k5 T tT (q + 1) tp' g tg f tf e te) news (nw tp')) :
    Tell 4 227 [.ref r] news (fun v news' => ∃ t tp', v = .str x t ∧ news' = nw tp') := by
  intro prog w p loose mean mg mb dp un gd cn cs a ccd cl outer A₀ base h₀ L m s Q E B F X N TT hk hd hu hret
  have hm := upd_mem (hU 0)
  refine take_ok (rest := others d news) others_ne (inst_others N hr hm) hA prog w p loose mean mg mb dp un gd cn cs a ccd cl outer A₀ base h₀ L m s Q E B F X (news_front N hm) TT hk hd hu ?_
  rintro v news' h' tk' ⟨t, tp', rfl, rfl⟩ F' N'
  exact hret _ _ _ _ ⟨t, tp', by rw [hx], rfl⟩ F' (news_back (hU tp') N')
theorem skip_no_ext {W : Str} {tw : Tok} (hr : (r, instObj 328 d) ∈ news) (hm : (d, rdict H1 H2 H3 H4 H5 k1 k2 k3 k4 k5 T tT q tp g tg f tf e te) ∈ news) (hA : At T q l) (hW : W.length ≤ 1000) (hn : l.take W.length ≠ W.cps.toList) :
    Tell 2 234 [.ref r, .str W tw] news (fun v news' => v = .bool false ∧ news' = news) := by
  intro prog w p loose mean mg mb dp un gd cn cs a ccd cl outer A₀ base h₀ L m s Q E B F X N TT hk hd hu hret
  refine skip_no (rest := others d news) others_ne (inst_others N hr hm) hA hW hn prog w p loose mean mg mb dp un gd cn cs a ccd cl outer A₀ base h₀ L m s Q E B F X (news_front N hm) TT hk hd hu ?_
  rintro v news' h' tk' ⟨rfl, rfl⟩ F' N'
  exact hret _ _ _ _ ⟨rfl, rfl⟩ F' (news_same N hm N')
theorem skip_yes_ext {W : Str} {tw : Tok} {n : Nat} (hr : (r, instObj 328 d) ∈ news) (hA : At T q l) (hW : W.length ≤ 1000) (hn : l.take W.length = W.cps.toList) (hl : W.length = n)
    (hU : ∀ tp', Upd d (rdict H1 H2 H3 H4 H5 k1 k2 k3 k4 k5 T tT q tp g tg f tf e te) (rdict H1 H2 H3 H4 H5 k1 k2 k3 k4 k5 T tT (q + (n : Int)) tp' g tg f tf e te) news (nw tp')) :
    Tell 2 234 [.ref r, .str W tw] news (fun v news' => ∃ tp', v = .bool true ∧ news' = nw tp') := by
  subst hl
  intro prog w p loose mean mg mb dp un gd cn cs a ccd cl outer A₀ base h₀ L m s Q E B F X N TT hk hd hu hret
  have hm := upd_mem (hU 0)
  refine skip_yes (rest := others d news) others_ne (inst_others N hr hm) hA hW hn prog w p loose mean mg mb dp un gd cn cs a ccd cl outer A₀ base h₀ L m s Q E B F X (news_front N hm) TT hk hd hu ?_
  rintro v news' h' tk' ⟨tp', rfl, rfl⟩ F' N'
  exact hret _ _ _ _ ⟨tp', rfl, rfl⟩ F' (news_back (hU tp') N')
theorem counted_ext {ds l' : List Nat} {n : Int} (hr : (r, instObj 328 d) ∈ news) (hA : At T q (ds ++ l')) (hds : ∀ c ∈ ds, 48 ≤ c ∧ c ≤ 57) (h1 : ds ≠ []) (hl' : isDec l' = false) (hn : (ds.length : Int) = n)
    (hU : ∀ tp', Upd d (rdict H1 H2 H3 H4 H5 k1 k2 k3 k4 k5 T tT q tp g tg f tf e te) (rdict H1 H2 H3 H4 H5 k1 k2 k3 k4 k5 T tT (q + n) tp' g tg f tf e te) news (nw tp')) :
    Tell 10 276 [.ref r] news (fun v news' => ∃ tup t t2 tp', v = .ref tup ∧ (∀ p ∈ nw tp', p.1 < tup) ∧ news' = (tup, { cls := .type "tuple", data := .seq [.int (numFrom 0 ds) t, .str ⟨(ds.dropWhile (· == 48)).toArray⟩ t2].toArray }) :: nw tp') := by
  subst hn
  intro prog w p loose mean mg mb dp un gd cn cs a ccd cl outer A₀ base h₀ L m s Q E B F X N TT hk hd hu hret
  have hm := upd_mem (hU 0)
  refine counted_ok (rest := others d news) others_ne (inst_others N hr hm) hA hds h1 hl' prog w p loose mean mg mb dp un gd cn cs a ccd cl outer A₀ base h₀ L m s Q E B F X (news_front N hm) TT hk hd hu ?_
  rintro v news' h' tk' ⟨tup, t, t2, tp', rfl, l1, l2, rfl⟩ F' N'
  refine hret _ _ _ _ ⟨tup, t, t2, tp', rfl, lt_back (hU tp') l1 l2, rfl⟩ F' ?_
  intro p hp
  rcases List.mem_cons.mp hp with rfl | hp
  · exact N' _ List.mem_cons_self
  · exact news_back (hU tp') (fun p hp => N' p (List.mem_cons_of_mem _ hp)) p hp

theorem At.drop {ds l' : List Nat} (h : At T q (ds ++ l')) : At T (q + (ds.length : Int)) l' := by
  refine ⟨by have := h.pos; omega, ?_, h.size⟩
  have e : (q + (ds.length : Int)).toNat = q.toNat + ds.length := by have := h.pos; omega
  rw [e, ← List.drop_drop, h.rest]; simp
theorem sign1 {c : Nat} {l' : List Nat} (hr : (r, instObj 328 d) ∈ news) (hD : (d, rdict H1 H2 H3 H4 H5 k1 k2 k3 k4 k5 T tT q tp g tg f tf e te) ∈ news)
    (hA : At T q (c :: l')) (hx : (⟨#[c]⟩ : Str) = x) : Tell 2 220 [.ref r] news (fun v news' => ∃ t, v = .str x t ∧ news' = news) := sign_ok hr hD hA hx
theorem sign0 (hr : (r, instObj 328 d) ∈ news) (hD : (d, rdict H1 H2 H3 H4 H5 k1 k2 k3 k4 k5 T tT q tp g tg f tf e te) ∈ news)
    (hA : At T q []) (hx : (⟨#[]⟩ : Str) = x) : Tell 2 220 [.ref r] news (fun v news' => ∃ t, v = .str x t ∧ news' = news) := sign_ok hr hD hA hx
theorem take1 {c : Nat} {l' : List Nat} (hr : (r, instObj 328 d) ∈ news) (hA : At T q (c :: l')) (hx : (⟨#[c]⟩ : Str) = x)
    (hU : ∀ tp', Upd d (rdict H1 H2 H3 H4 H5 k1 k2 k3 k4 k5 T tT q tp g tg f tf e te) (rdict H1 H2 H3 H4 H5 k1 k2 k3 k4 k5 T tT (q + 1) tp' g tg f tf e te) news (nw tp')) :
    Tell 4 227 [.ref r] news (fun v news' => ∃ t tp', v = .str x t ∧ At T (q + 1) l' ∧ news' = nw tp') := by
  intro prog w p loose mean mg mb dp un gd cn cs a ccd cl outer A₀ base h₀ L m s Q E B F X N TT hk hd hu hret
  refine take_ext hr hA hx hU prog w p loose mean mg mb dp un gd cn cs a ccd cl outer A₀ base h₀ L m s Q E B F X N TT hk hd hu ?_
  rintro v news' h' tk' ⟨t, tp', rfl, rfl⟩ F' N'
  exact hret _ _ _ _ ⟨t, tp', rfl, hA.tail, rfl⟩ F' N'
theorem skipN {c : Nat} {l' : List Nat} {W : Str} {tw : Tok} (hr : (r, instObj 328 d) ∈ news) (hm : (d, rdict H1 H2 H3 H4 H5 k1 k2 k3 k4 k5 T tT q tp g tg f tf e te) ∈ news) (hA : At T q (c :: l')) (hW : W.length ≤ 1000) (hn : W.cps.toList.head? ≠ some c ∧ W.length ≠ 0) :
    Tell 2 234 [.ref r, .str W tw] news (fun v news' => v = .bool false ∧ news' = news) := by
  refine skip_no_ext hr hm hA hW ?_
  intro h
  refine hn.1 ?_
  rw [← h]
  cases hl : W.length with
  | zero => exact absurd hl hn.2
  | succ n => rfl
theorem skipE {W : Str} {tw : Tok} (hr : (r, instObj 328 d) ∈ news) (hm : (d, rdict H1 H2 H3 H4 H5 k1 k2 k3 k4 k5 T tT q tp g tg f tf e te) ∈ news) (hA : At T q []) (hW : W.length ≤ 1000) (hn : W.cps.toList ≠ []) :
    Tell 2 234 [.ref r, .str W tw] news (fun v news' => v = .bool false ∧ news' = news) := by
  refine skip_no_ext hr hm hA hW ?_
  intro h
  refine hn ?_
  rw [← h]; simp
theorem skipY {c : Nat} {l' : List Nat} {W : Str} {tw : Tok} (hr : (r, instObj 328 d) ∈ news) (hA : At T q (c :: l')) (hn : W.cps.toList = [c])
    (hU : ∀ tp', Upd d (rdict H1 H2 H3 H4 H5 k1 k2 k3 k4 k5 T tT q tp g tg f tf e te) (rdict H1 H2 H3 H4 H5 k1 k2 k3 k4 k5 T tT (q + 1) tp' g tg f tf e te) news (nw tp')) :
    Tell 2 234 [.ref r, .str W tw] news (fun v news' => ∃ tp', v = .bool true ∧ At T (q + 1) l' ∧ news' = nw tp') := by
  have hl : W.length = 1 := by
    have := congrArg List.length hn
    simpa [Str.length] using this
  intro prog w p loose mean mg mb dp un gd cn cs a ccd cl outer A₀ base h₀ L m s Q E B F X N TT hk hd hu hret
  refine skip_yes_ext (n := 1) hr hA (by omega) (by rw [hl, hn]; rfl) hl hU prog w p loose mean mg mb dp un gd cn cs a ccd cl outer A₀ base h₀ L m s Q E B F X N TT hk hd hu ?_
  rintro v news' h' tk' ⟨tp', rfl, rfl⟩ F' N'
  exact hret _ _ _ _ ⟨tp', rfl, hA.tail, rfl⟩ F' N'
theorem countedA {ds l' : List Nat} {n : Int} (hr : (r, instObj 328 d) ∈ news) (hA : At T q (ds ++ l')) (hds : ∀ c ∈ ds, 48 ≤ c ∧ c ≤ 57) (h1 : ds ≠ []) (hl' : isDec l' = false) (hn : (ds.length : Int) = n)
    (hU : ∀ tp', Upd d (rdict H1 H2 H3 H4 H5 k1 k2 k3 k4 k5 T tT q tp g tg f tf e te) (rdict H1 H2 H3 H4 H5 k1 k2 k3 k4 k5 T tT (q + n) tp' g tg f tf e te) news (nw tp')) :
    Tell 10 276 [.ref r] news (fun v news' => ∃ tup t t2 tp', v = .ref tup ∧ (∀ p ∈ nw tp', p.1 < tup) ∧ At T (q + n) l' ∧ news' = (tup, { cls := .type "tuple", data := .seq [.int (numFrom 0 ds) t, .str ⟨(ds.dropWhile (· == 48)).toArray⟩ t2].toArray }) :: nw tp') := by
  intro prog w p loose mean mg mb dp un gd cn cs a ccd cl outer A₀ base h₀ L m s Q E B F X N TT hk hd hu hret
  refine counted_ext hr hA hds h1 hl' hn hU prog w p loose mean mg mb dp un gd cn cs a ccd cl outer A₀ base h₀ L m s Q E B F X N TT hk hd hu ?_
  rintro v news' h' tk' ⟨tup, t, t2, tp', rfl, l1, rfl⟩ F' N'
  refine hret _ _ _ _ ⟨tup, t, t2, tp', rfl, l1, ?_, rfl⟩ F' N'
  subst hn
  exact hA.drop

theorem countedX {ds l' : List Nat} {n nl : Int} (hr : (r, instObj 328 d) ∈ news) (hA : At T q (ds ++ l')) (hds : ∀ c ∈ ds, 48 ≤ c ∧ c ≤ 57) (h1 : ds ≠ []) (hl' : isDec l' = false) (hn : (ds.length : Int) = n)
    (hx : (⟨(ds.dropWhile (· == 48)).toArray⟩ : Str) = x) (hv : numFrom 0 ds = nl)
    (hU : ∀ tp', Upd d (rdict H1 H2 H3 H4 H5 k1 k2 k3 k4 k5 T tT q tp g tg f tf e te) (rdict H1 H2 H3 H4 H5 k1 k2 k3 k4 k5 T tT (q + n) tp' g tg f tf e te) news (nw tp')) :
    Tell 10 276 [.ref r] news (fun v news' => ∃ tup t t2 tp', v = .ref tup ∧ (∀ p ∈ nw tp', p.1 < tup) ∧ At T (q + n) l' ∧ news' = (tup, { cls := .type "tuple", data := .seq [.int nl t, .str x t2].toArray }) :: nw tp') := by
  subst hx; subst hv
  exact countedA hr hA hds h1 hl' hn hU
end
end Mine
end PartC5
section PartC6
open PySem PySem.W PySem.Spec PySem.Calls PyProof.Rows
set_option maxRecDepth 100000
set_option maxHeartbeats 8000000
namespace Mine
local macro_rules | `(tactic| k_room) => `(tactic| ktr_room)
theorem flags_ok {tE : Tok} {news : List (Addr × Obj)} :
    Tell 2 192 [.str (Str.ofString "") tE] news (fun v news' => news' = news) := by
  intro prog w p loose mean mg mb dp un gd cn cs a ccd cl outer A₀ base h₀ L m s Q E B F X N TT hk hd hu hret
  refine wpAny_call ?_
  k_dflt cell_enter
  repeat' ((fail_if_success (with_reducible show wpAny _ _ (exec (Stmt.For _ _ _ _ _) _) _ _ _)); (first | (k_unfold; (try dsimp only)) | walk1 | (dsimp only; walk1)))
  walk_at "last exec For Name Name"
  repeat' ((fail_if_success (with_reducible show wpAny _ _ (pyIter _) _ _ _)); (first | (k_unfold; (try dsimp only)) | walk1 | (dsimp only; walk1)))
  walk_at "last pyIter str"
  k_steps
  all_goals first
    | exact hret _ _ _ _ rfl (by assumption) (fun p hp => (by assumption : News _ _ _ _) p (List.mem_cons_of_mem _ hp))
    | trace_state
end Mine
end PartC6
section PartTG
open PySem PySem.W PySem.Spec PySem.Calls PyProof.Rows
set_option maxRecDepth 100000
namespace Mine
section
variable {prog : Program} {w : World} {A : Around} {E : Value → Shared → Prop} {s : Shared}
def gtP (i1 i2 : Int) (x1 x2 : Str) : Bool := if i1 = i2 then decide (x2.cps.toList < x1.cps.toList) else decide (i2 < i1)
theorem tuple_gt_tree {a b : Addr} {oa ob : Obj} {na nb : Nat} {i1 i2 : Int} {x1 x2 : Str} {t1 t2 u1 u2 : Tok} {P : Fin → Shared → Prop}
    (hoa : s.heap.get? a = some oa) (hda : oa.data = .seq [.int i1 t1, .str x1 u1].toArray na) (hob : s.heap.get? b = some ob) (hdb : ob.data = .seq [.int i2 t2, .str x2 u2].toArray nb) (hT : s.TypeIs (.ref b) "tuple")
    (h : P (.done (.ret (.bool (gtP i1 i2 x1 x2)))) s) :
    wpAny (model prog w) A (Builtin.«tuple.__gt__» ⟨[.ref a, .ref b], []⟩) P E s := by
  show wpAny _ _ (isInstance (.ref b) (.type "tuple") >>= _) _ _ s
  refine wpAny_bind (wpAny_isInstance hT isSubtype_tuple_tuple ?_)
  simp only [Bool.not_true, Bool.false_eq_true, if_false]
  refine wpAny_bind (wpAny_tupleItemsOf hoa hda ?_)
  refine wpAny_bind (wpAny_tupleItemsOf hob hdb ?_)
  refine wpAny_bind ?_
  show wpAny _ _ (forIn [(Value.int i1 t1, Value.int i2 t2), (Value.str x1 u1, Value.str x2 u2)] _ _) _ _ s
  rw [List.forIn_cons]
  refine wpAny_bind (wpAny_bind (wpAny_eqBool_int ?_))
  by_cases e : i1 = i2
  · subst e
    rw [if_neg (by simp)]
    refine wpAny_pure ?_
    show wpAny _ _ (forIn [(Value.str x1 u1, Value.str x2 u2)] _ _) _ _ s
    rw [List.forIn_cons]
    refine wpAny_bind (wpAny_bind (wpAny_eqBool_str ?_))
    by_cases ex : x1 = x2
    · subst ex
      rw [if_neg (by simp)]
      refine wpAny_pure ?_
      show wpAny _ _ (forIn [] _ _) _ _ s
      rw [List.forIn_nil]
      refine wpAny_pure ?_
      refine wpAny_pure ?_
      have hg : gtP i1 i1 x1 x1 = false := by unfold gtP; simp
      rw [hg] at h
      exact h
    · rw [if_pos (by simp [ex])]
      refine wpAny_bind (wpAny_rule ?_)
      refine wpAny_bind ?_
      have hg : gtP i1 i1 x1 x2 = decide (x2.cps.toList < x1.cps.toList) := by unfold gtP; rw [if_pos rfl]
      rw [hg] at h
      refine (_root_.PySem.P.gt_str ?_ : wpAny (model prog w) A (compareOp .Gt (.str x1 u1) (.str x2 u2)) _ E s)
      refine wpAny_bind (wpAny_pure ?_)
      refine wpAny_pure ?_
      refine wpAny_pure ?_
      exact wpAny_pure h
  · rw [if_pos (by simp [e])]
    refine wpAny_bind (wpAny_rule ?_)
    refine wpAny_bind ?_
    have hg : gtP i1 i2 x1 x2 = decide (i2 < i1) := by unfold gtP; rw [if_neg e]
    rw [hg] at h
    refine (PyProof.Rows.gt_int ?_ : wpAny (model prog w) A (compareOp .Gt (.int i1 t1) (.int i2 t2)) _ E s)
    refine wpAny_bind (wpAny_pure ?_)
    refine wpAny_pure ?_
    refine wpAny_pure ?_
    exact wpAny_pure h
theorem tuple_gt {a b : Addr} {i1 i2 : Int} {x1 x2 : Str} {t1 t2 u1 u2 : Tok} {Q : Value → Shared → Prop} {h₀ : Heap} {L : Addr} {news : List (Addr × Obj)} (N : News h₀ L s.heap news)
    (ha : (a, ({ cls := .type "tuple", data := .seq [.int i1 t1, .str x1 u1].toArray } : Obj)) ∈ news) (hb : (b, ({ cls := .type "tuple", data := .seq [.int i2 t2, .str x2 u2].toArray } : Obj)) ∈ news)
    (hu : A.units < cLine) (h : Q (.bool (gtP i1 i2 x1 x2)) s) : wpAny (model prog w) A (compareOp .Gt (.ref a) (.ref b)) Q E s := by
  have hTa : s.TypeIs (.ref a) "tuple" := ⟨_, (N _ ha).1, rfl⟩
  have hTb : s.TypeIs (.ref b) "tuple" := ⟨_, (N _ hb).1, rfl⟩
  exact wpAny_richCompare_same_room (op := .Gt) hTa hTb F.slot_tuple_gt
      (wpAny_call_entry F.slot_tuple_gt hTa F.entry_tuple_gt (tuple_gt_tree (N _ ha).1 rfl (N _ hb).1 rfl hTb ⟨_, rfl, (fun e => nomatch e), h⟩) (F.args_tuple_gt_2 _ _)) hu
end
end Mine
end PartTG
section PartLF
open PySem PySem.W PySem.Spec PySem.Calls PyProof.Rows
set_option maxRecDepth 100000
namespace Mine
def cz (n : Int) : Str := ⟨((Str.ofString (toString n)).cps.toList.dropWhile (· == 48)).toArray⟩
def figB (n k : Int) : Bool :=
  let ds := (fig n k).cps.toList
  ds.all (fun c => decide (48 ≤ c ∧ c ≤ 57)) && !(ds.isEmpty) && decide (numFrom 0 ds = if 1000000000 < n then 1000000000 else n) && decide ((⟨(ds.dropWhile (· == 48)).toArray⟩ : Str) = cz n) && decide (ds.length ≤ 40) && decide ((cz n).length ≤ 40)
structure FigOf (S : Str) (n : Int) (ds : List Nat) : Prop where
  text : S = ⟨ds.toArray⟩
  digits : ∀ c ∈ ds, 48 ≤ c ∧ c ≤ 57
  some : ds ≠ []
  num : numFrom 0 ds = if 1000000000 < n then 1000000000 else n
  canon : (⟨(ds.dropWhile (· == 48)).toArray⟩ : Str) = cz n
  short : ds.length ≤ 40
  shortc : (cz n).length ≤ 1000
theorem figOf {n k : Int} (h : figB n k = true) : FigOf (fig n k) n (fig n k).cps.toList := by
  simp only [figB, Bool.and_eq_true, decide_eq_true_eq, List.all_eq_true, Bool.not_eq_true', List.isEmpty_eq_false_iff] at h
  obtain ⟨⟨⟨⟨⟨h1, h2⟩, h3⟩, h4⟩, h5⟩, h6⟩ := h
  refine ⟨by simp, h1, h2, h3, h4, h5, by omega⟩
def figsB (l : List Int) (ks : List Int) : Bool := l.all fun n => ks.all fun k => figB n k
theorem figs_of {l ks : List Int} {n k : Int} (hB : figsB l ks = true) (hn : n ∈ l) (hk : k ∈ ks) : ∃ ds, FigOf (fig n k) n ds :=
  ⟨_, figOf (List.all_eq_true.mp (List.all_eq_true.mp hB n hn) k hk)⟩
theorem m1 : figsB [0, 7, 1000000001, 1000000000, 99999999999999, 12] [0, 1, 2, 3, 4] = true := by decide +kernel
theorem m2 : figsB [7, 1000000000, 0, 1000000002, 99999999999998, 12] [0, 1, 2] = true := by decide +kernel
def gtB (l1 l2 : List Int) : Bool := l1.all fun a => l2.all fun b => decide (gtP ((cz a).length : Int) ((cz b).length : Int) (cz a) (cz b) = decide (b < a))
theorem m3 : gtB [0, 7, 1000000001, 1000000000, 99999999999999, 12] [7, 1000000000, 0, 1000000002, 99999999999998, 12] = true := by decide +kernel
theorem gt_of {l1 l2 : List Int} {a b : Int} (hB : gtB l1 l2 = true) (ha : a ∈ l1) (hb : b ∈ l2) : gtP ((cz a).length : Int) ((cz b).length : Int) (cz a) (cz b) = decide (b < a) :=
  of_decide_eq_true (List.all_eq_true.mp (List.all_eq_true.mp hB a ha) b hb)
theorem gt_self {x : Str} {i : Int} : gtP i i x x = false := by simp [gtP]
theorem at_text {A B : Str} {k : Int} {ds es : List Nat} (hA : A = ⟨ds.toArray⟩) (hB : B = ⟨es.toArray⟩) (h0 : k = 0 ∨ k = 1) (ha : ds.length ≤ 40) (hb : es.length ≤ 40) :
    At (Str.ofString "a{" ++ A ++ Str.ofString "," ++ B ++ Str.ofString "}" ++ Txt.mul (Str.ofString "?") k) 0 (97 :: 123 :: (ds ++ 44 :: (es ++ 125 :: (if k = 1 then [63] else [])))) := by
  subst hA; subst hB
  have q1 : (Str.ofString "a{").cps = #[97, 123] := by decide +kernel
  have q2 : (Str.ofString ",").cps = #[44] := by decide +kernel
  have q3 : (Str.ofString "}").cps = #[125] := by decide +kernel
  have q4 : (Txt.mul (Str.ofString "?") 0).cps = #[] := by decide +kernel
  have q5 : (Txt.mul (Str.ofString "?") 1).cps = #[63] := by decide +kernel
  rcases h0 with rfl | rfl
  · refine ⟨by decide, ?_, ?_⟩
    · simp [PySem.Str.cps_append, q1, q2, q3, q4]
    · simp [PySem.Str.length, PySem.Str.cps_append, q1, q2, q3, q4]; omega
  · refine ⟨by decide, ?_, ?_⟩
    · simp [PySem.Str.cps_append, q1, q2, q3, q5]
    · simp [PySem.Str.length, PySem.Str.cps_append, q1, q2, q3, q5]; omega
end Mine
end PartLF
section PartFD
open PySem PySem.W PySem.Spec PySem.Calls PyProof.Rows
set_option maxRecDepth 100000
namespace Mine
structure Fly (P : Obj → Prop) (base : Heap) (l : List Env) (e : Addr) (fl : Value) (h : Heap) : Prop where
  stays : base.StaysIn h
  newE : base.get? e = none
  frames : h.FunFrames base l
  tr : ∃ oe vs T oT ts, h.get? e = some oe ∧ P oe ∧ oe.data = .fields vs ∧ vs[1]? = some (.ref T) ∧ base.get? T = none ∧ T ≠ e ∧ h.get? T = some oT ∧ oT.data = .fields ts ∧ ts[3]? = some fl
section
variable {M : Model} {A : Around} {E : Value → Shared → Prop} {s : Shared} {P : Obj → Prop} {base : Heap} {env : Env} {outer l : List Env} {L e : Addr} {oe : Obj} {vs : Array Value} {head : Value} {hadNext : Bool} {Q : Unit → Shared → Prop}
theorem fd_entry (hP : ∀ o v, P o → P (o.mapFields (·.setIfInBounds 1 v))) (hfr : A.frames = some (env :: outer)) (hl : s.heap.FunFrames base (env :: outer)) (hf : env.frame = some L)
    (he : s.heap.get? e = some oe) (hp : P oe) (hkb : base.StaysIn s.heap) (hen : base.get? e = none) (hd : oe.data = .fields vs) (hsz : 1 < vs.size)
    (h : ∀ h', Fly P base (env :: outer) e (rawInt L) h' → s.heap.UpToSlots h' → Q () { s with heap := h' }) :
    wpAny M A (do let a ← frameOf env; let pl ← entryPlaceOf L hadNext; let b ← EntryCells.newEntry head a .none (rawInt L) .none pl; setField (.ref e) 1 b) Q E s := by
  have hene : e ∉ (env :: outer).filterMap (·.frame) := fun hm => by
    obtain ⟨_, o, ho, hnf⟩ := hl.mem hm
    rw [he] at ho; injection ho with ho; subst ho; exact hnf vs hd
  refine wpAny_bind (wpAny_frameOf_fun hfr hl hf fun h₁ hs₁ => ?_)
  refine wpAny_bind (wpAny_entryPlaceOf fun pl hpl => ?_)
  unfold EntryCells.newEntry newFields
  refine wpAny_bind (wpAny_newObj_type ?_ (hpl.sizeOk5 _ _ _ _ _))
  have he₁ : h₁.get? e = some oe := (hs₁.2.1 e hene).trans he
  have kb₁ : base.StaysIn h₁ := fun b o hbo => (hs₁.2.1 b fun hm => by rw [(hl.mem hm).1] at hbo; cases hbo).trans (hkb b o hbo)
  generalize hnew : ({ cls := .type "traceback", dict := none, data := .fields ([head, .ref L, .none, rawInt L, .none] ++ (if pl.isEmpty then List.replicate 6 Value.none else pl)).toArray } : Obj) = ot
  have hot : ot.data = .fields ([head, .ref L, .none, rawInt L, .none] ++ (if pl.isEmpty then List.replicate 6 Value.none else pl)).toArray := by rw [← hnew]
  have he₂ := Heap.get?_push_of_some (h := h₁) ot he₁
  refine wpAny_setField he₂ hd hsz ?_
  have hTe : h₁.objs.size ≠ e := Nat.ne_of_gt (Heap.lt_size he₁)
  have hd₃ := Obj.data_mapFields hd (·.setIfInBounds 1 (Value.ref h₁.objs.size))
  have he₃ := Heap.get?_update_self (Obj.mapFields (·.setIfInBounds 1 (Value.ref h₁.objs.size))) he₂ (Obj.isFreed_of_fields hd₃)
  have hT₃ : ((h₁.push ot).update e (Obj.mapFields (·.setIfInBounds 1 (Value.ref h₁.objs.size)))).get? h₁.objs.size = some ot :=
    (Heap.get?_update_other _ _ (Ne.symm hTe)).trans (Heap.get?_push_size h₁ (Obj.isFreed_of_fields hot))
  have keep : ∀ b o, b ≠ e → h₁.get? b = some o → ((h₁.push ot).update e (Obj.mapFields (·.setIfInBounds 1 (Value.ref h₁.objs.size)))).get? b = some o := fun b o hbe hb =>
    (Heap.get?_update_other _ _ (Ne.symm hbe)).trans (Heap.get?_push_of_some _ hb)
  have up : s.heap.UpToSlots ((h₁.push ot).update e (Obj.mapFields (·.setIfInBounds 1 (Value.ref h₁.objs.size)))) := fun b o hb hnf => by
    obtain ⟨sl, hs⟩ := hs₁.2.2 b o hb
    exact ⟨sl, keep b _ (fun q => by rw [q, he] at hb; injection hb with hb; subst hb; exact hnf vs hd) hs⟩
  refine h _ ⟨fun b o hbo => keep b o (fun q => by rw [q, hen] at hbo; cases hbo) (kb₁ b o hbo), hen, hl.of_keeps fun b o hb hnf => ?_, ?_⟩ up
  · obtain ⟨sl, hs⟩ := up b o hb hnf
    exact ⟨_, hs, rfl⟩
  · exact ⟨_, _, h₁.objs.size, _, _, he₃, hP _ _ hp, hd₃, by simp [hsz], kb₁.fresh, hTe, hT₃, hot, by simp⟩

theorem fd_clear {fl : Value} (hF : Fly P base l e fl s.heap) (h : ∀ h', Fly P base l e .none h' → s.heap.UpToSlots h' → Q () { s with heap := h' }) :
    wpAny M A (setFlight (.ref e) none) Q E s := by
  obtain ⟨hkb, hen, hl, oe, vs, T, oT, ts, he, hp, hd, h1, hnT, hTe, hT, hdT, h3⟩ := hF
  have hsz3 : 3 < ts.size := (Array.getElem?_eq_some_iff.mp h3).1
  have other : ∀ b, b ≠ T → (s.heap.update T (Obj.mapFields (·.setIfInBounds 3 ((none : Option Addr).elim Value.none fun f => rawInt f)))).get? b = s.heap.get? b :=
    fun b hb => Heap.get?_update_other _ _ (Ne.symm hb)
  have noRecord : ∀ b o, s.heap.get? b = some o → (∀ vs, o.data ≠ .fields vs) → b ≠ T := fun b o hb hnf q => by
    rw [q, hT] at hb; injection hb with hb; subst hb; exact hnf ts hdT
  unfold setFlight
  refine wpAny_bind (wpAny_field he hd h1 ?_)
  rw [if_pos (show (Value.ref T != Value.none) = true from by simp)]
  refine wpAny_setField hT hdT hsz3 (h _ ⟨fun b o hbo => (other b fun q => by rw [q, hnT] at hbo; cases hbo).trans (hkb b o hbo), hen,
    hl.of_keeps fun b o hb hnf => ⟨o, (other b (noRecord b o hb hnf)).trans hb, rfl⟩, ?_⟩ fun b o hb hnf => ⟨o.slots, (other b (noRecord b o hb hnf)).trans hb⟩)
  exact ⟨oe, vs, T, _, _, (other e (Ne.symm hTe)).trans he, hp, hd, h1, hnT, hTe, Heap.get?_update_self _ hT (Obj.isFreed_of_fields (Obj.data_mapFields hdT _)), Obj.data_mapFields hdT _, by simp [hsz3]⟩

theorem fd_note_first (hP : ∀ o v, P o → P (o.mapFields (·.setIfInBounds 1 v))) (hfr : A.frames = some (env :: outer)) (hl : s.heap.FunFrames base (env :: outer)) (hf : env.frame = some L)
    (he : s.heap.get? e = some oe) (hp : P oe) (hkb : base.StaysIn s.heap) (hen : base.get? e = none) (hd : oe.data = .fields vs) (h1 : vs[1]? = some .none)
    (h : ∀ h', Fly P base (env :: outer) e (rawInt L) h' → s.heap.UpToSlots h' → Q () { s with heap := h' }) : wpAny M A (noteFrame (.ref e) env) Q E s := by
  unfold noteFrame
  simp only [hf]
  refine wpAny_bind (wpAny_field he hd h1 ?_)
  rw [if_neg (by decide)]
  exact fd_entry hP hfr hl hf he hp hkb hen hd (Array.getElem?_eq_some_iff.mp h1).1 h

theorem fd_note_next (hP : ∀ o v, P o → P (o.mapFields (·.setIfInBounds 1 v))) (hfr : A.frames = some (env :: outer)) (hf : env.frame = some L) (hF : Fly P base (env :: outer) e .none s.heap)
    (h : ∀ h', Fly P base (env :: outer) e (rawInt L) h' → s.heap.UpToSlots h' → Q () { s with heap := h' }) : wpAny M A (noteFrame (.ref e) env) Q E s := by
  obtain ⟨hkb, hen, hl, oe, vs, T, oT, ts, he, hp, hd, h1, hnT, hTe, hT, hdT, h3⟩ := hF
  unfold noteFrame
  simp only [hf]
  refine wpAny_bind (wpAny_field he hd h1 ?_)
  rw [if_pos (show (Value.ref T != Value.none) = true from by simp)]
  refine wpAny_bind (wpAny_field hT hdT h3 ?_)
  rw [if_neg (show ¬ ((Value.none == rawInt L) = true) from by simp [rawInt])]
  refine wpAny_bind (wpAny_setField hT hdT (Array.getElem?_eq_some_iff.mp h3).1 ?_)
  have other : ∀ b, b ≠ T → (s.heap.update T (Obj.mapFields (·.setIfInBounds 3 Value.none))).get? b = s.heap.get? b := fun b hb => Heap.get?_update_other _ _ (Ne.symm hb)
  have noRecord : ∀ b o, s.heap.get? b = some o → (∀ vs, o.data ≠ .fields vs) → b ≠ T := fun b o hb hnf q => by
    rw [q, hT] at hb; injection hb with hb; subst hb; exact hnf ts hdT
  refine fd_entry hP hfr (hl.of_keeps fun b o hb hnf => ⟨o, (other b (noRecord b o hb hnf)).trans hb, rfl⟩) hf ((other e (Ne.symm hTe)).trans he) hp
    (fun b o hbo => (other b fun q => by rw [q, hnT] at hbo; cases hbo).trans (hkb b o hbo)) hen hd (Array.getElem?_eq_some_iff.mp h1).1
    fun h' x1 x2 => h h' x1 fun b o hb hnf => x2 b o ((other b (noRecord b o hb hnf)).trans hb) hnf

theorem fd_leave_first (hP : ∀ o v, P o → P (o.mapFields (·.setIfInBounds 1 v))) (hfr : A.frames = some (env :: outer)) (hl : s.heap.FunFrames base (env :: outer)) (hf : env.frame = some L)
    (he : s.heap.get? e = some oe) (hp : P oe) (hkb : base.StaysIn s.heap) (hen : base.get? e = none) (hd : oe.data = .fields vs) (h1 : vs[1]? = some .none)
    (h : ∀ h', Fly P base outer e .none h' → s.heap.UpToSlots h' → Q () { s with heap := h' }) : wpAny M A (leaving env (.ref e)) Q E s := by
  unfold leaving
  refine wpAny_bind (fd_note_first hP hfr hl hf he hp hkb hen hd h1 fun h' x1 x2 => ?_)
  refine fd_clear x1 fun h'' y1 y2 => h h'' ⟨y1.stays, y1.newE, y1.frames.2.2, y1.tr⟩ (x2.trans y2)

theorem fd_leave_next (hP : ∀ o v, P o → P (o.mapFields (·.setIfInBounds 1 v))) (hfr : A.frames = some (env :: outer)) (hf : env.frame = some L) (hF : Fly P base (env :: outer) e .none s.heap)
    (h : ∀ h', Fly P base outer e .none h' → s.heap.UpToSlots h' → Q () { s with heap := h' }) : wpAny M A (leaving env (.ref e)) Q E s := by
  unfold leaving
  refine wpAny_bind (fd_note_next hP hfr hf hF fun h' x1 x2 => ?_)
  refine fd_clear x1 fun h'' y1 y2 => h h'' ⟨y1.stays, y1.newE, y1.frames.2.2, y1.tr⟩ (x2.trans y2)
theorem fd_note_again (hf : env.frame = some L) (hF : Fly P base l e (rawInt L) s.heap) (h : Q () s) : wpAny M A (noteFrame (.ref e) env) Q E s := by
  obtain ⟨hkb, hen, hl, oe, vs, T, oT, ts, he, hp, hd, h1, hnT, hTe, hT, hdT, h3⟩ := hF
  unfold noteFrame
  simp only [hf]
  refine wpAny_bind (wpAny_field he hd h1 ?_)
  rw [if_pos (show (Value.ref T != Value.none) = true from by simp)]
  refine wpAny_bind (wpAny_field hT hdT h3 ?_)
  rw [if_pos (show (rawInt L == rawInt L) = true from by simp)]
  exact wpAny_pure h
end
end Mine
end PartFD
section PartKF
open PySem PySem.W PySem.Spec PySem.Calls PyProof.Rows
set_option maxRecDepth 100000
namespace Mine
def RaisedF (P : Obj → Prop) (base : Heap) (l : List Env) (e : Addr) (news : List (Addr × Obj)) (h : Heap) : Prop :=
  ∃ B, base.StaysIn B ∧ (∀ q ∈ news, B.get? q.1 = some q.2 ∧ base.get? q.1 = none) ∧ Fly P B l e .none h
section
variable {M : Model} {A : Around} {E : Value → Shared → Prop} {s' : Shared} {P : Obj → Prop} {base g g₂ : Heap} {outer : List Env} {L a e : Addr} {oe : Obj} {vs : Array Value} {m : Str → Option Value} {name : Str} {scope : Scope} {cd : Value} {Q : Unit → Shared → Prop} {news : List (Addr × Obj)}
theorem leave_raiseF (hP : ∀ o v, P o → P (o.mapFields (·.setIfInBounds 1 v))) (K : Below A base outer g) (F : Fr g L s'.heap m) (he : s'.heap.get? e = some oe) (hp : P oe) (hd : oe.data = .fields vs) (h1 : vs[1]? = some .none) (hen : g.get? e = none)
    (N : News g L s'.heap news) (hne : ∀ q ∈ news, q.1 ≠ e)
    (hQ : ∀ h', RaisedF P base outer e news h' → g.UpToSlots h' → Q () { s' with heap := h' }) (hk : scope.kind = .function := by rfl) :
    wpAny M (A.deeper (envOf name scope L a cd)) (leaving (envOf name scope L a cd) (.ref e)) Q E s' := by
  have K' := K.push (name := name) (a := a) (cd := cd) F hk
  have hin : ∀ env ∈ (envOf name scope L a cd :: outer), ∀ b, env.frame = some b → b ∈ e :: (envOf name scope L a cd :: outer).filterMap (·.frame) := fun env he b hb => .tail _ (List.mem_filterMap.mpr ⟨env, he, hb⟩)
  have hbe : base.get? e = none := fresh_of_stays K.stays hen
  have st : base.StaysIn (hideAll s'.heap (e :: (envOf name scope L a cd :: outer).filterMap (·.frame))) := fun b o q => hideAll_get _ (K'.stays b o q) fun hm => by
    rcases List.mem_cons.mp hm with rfl | hm
    · rw [hbe] at q; cases q
    · rw [(K'.frames.mem hm).1] at q; cases q
  have hl : ∀ q ∈ news, (hideAll s'.heap (e :: (envOf name scope L a cd :: outer).filterMap (·.frame))).get? q.1 = some q.2 ∧ base.get? q.1 = none := fun q hq => by
    refine ⟨hideAll_get _ (N q hq).1 fun hm => ?_, fresh_of_stays K.stays (N q hq).2.2⟩
    rcases List.mem_cons.mp hm with hm | hm
    · exact hne q hq hm
    obtain ⟨env, he, hf⟩ := List.mem_filterMap.mp hm
    rcases List.mem_cons.mp he with rfl | he
    · exact (N q hq).2.1 (Option.some.inj hf).symm
    · obtain ⟨o, ho, _⟩ := (K.frames.mem (List.mem_filterMap.mpr ⟨env, he, hf⟩)).2
      rw [(N q hq).2.2] at ho; cases ho
  refine fd_leave_first hP K'.stack (funFrames_hide K'.frames hin) rfl he hp (fun b o q => of_hideAll _ q) (hideAll_none _ (.head _)) hd h1 fun h' x1 x2 => ?_
  exact hQ h' ⟨_, st, hl, x1⟩ ((Heap.UpToSlots.of_keeps F.keep).trans x2)
theorem leave_onF (hP : ∀ o v, P o → P (o.mapFields (·.setIfInBounds 1 v))) (K : Below A base outer g) (F : Fr g L g₂ m) (R : RaisedF P base (envOf name scope L a cd :: outer) e news s'.heap) (hsm : g₂.UpToSlots s'.heap)
    (hQ : ∀ h', RaisedF P base outer e news h' → g.UpToSlots h' → Q () { s' with heap := h' }) :
    wpAny M (A.deeper (envOf name scope L a cd)) (leaving (envOf name scope L a cd) (.ref e)) Q E s' := by
  obtain ⟨B, hB, hl, hfl⟩ := R
  exact fd_leave_next hP (Around.frames_deeper K.stack) rfl hfl fun h' x1 x2 => hQ h' ⟨B, hB, hl, x1⟩ ((Heap.UpToSlots.of_keeps F.keep).trans (hsm.trans x2))
end
end Mine
end PartKF
section PartFX
open PySem PySem.W PySem.Spec PySem.Calls PyProof.Rows
set_option maxRecDepth 100000
namespace Mine
abbrev bmE : List Value := [.type "Exception", .type "BaseException", .type "object"]
theorem jf_cls {w : World} {h : Heap} (X : (hd.heap_39 w.params).In h) : ∃ nm q bs sn sub ab col dd k0 k1 k2 k3 k5, h.get? 160 = some (excClassObj nm q 160 159 bs bmE true sn sub ab col dd k0 k1 k2 k3 k5 "Exception.__new__") :=
  ⟨_, _, _, _, _, _, _, _, _, _, _, _, _, X _ _ (by with_unfolding_all rfl)⟩
theorem jf_ns {w : World} {h : Heap} (X : (hd.heap_39 w.params).In h) : h.Ns 159 (h.nsMap 159) := .of_isNs (isNs_of_in X (by with_unfolding_all rfl))
theorem jf_no {w : World} {h : Heap} {n : Str} (X : (hd.heap_39 w.params).In h) (e : nsIn (hd.heap_39 w.params) 159 n = some none) : h.nsMap 159 n = none := ns_none_of X (jf_ns X) e
theorem jf_kind {w : World} {h : Heap} (X : (hd.heap_39 w.params).In h) : h.nsMap 159 (Str.ofString "kind") = none := jf_no X (by with_unfolding_all rfl)
theorem jf_text {w : World} {h : Heap} (X : (hd.heap_39 w.params).In h) : h.nsMap 159 (Str.ofString "text") = none := jf_no X (by with_unfolding_all rfl)
theorem jf_sa {w : World} {h : Heap} (X : (hd.heap_39 w.params).In h) : h.nsMap 159 "__setattr__" = none := jf_no X (by with_unfolding_all rfl)
theorem jf_ga {w : World} {h : Heap} (X : (hd.heap_39 w.params).In h) : h.nsMap 159 "__getattribute__" = none := jf_no X (by with_unfolding_all rfl)
theorem jf_gt {w : World} {h : Heap} (X : (hd.heap_39 w.params).In h) : h.nsMap 159 "__getattr__" = none := jf_no X (by with_unfolding_all rfl)
theorem ns_some_of {K : Frag} {h : Heap} {N : Addr} {mg : Str → Option Value} {n : Str} {v : Value} (X : K.In h) (G : h.Ns N mg) (e : nsIn K N n = some (some v)) : mg n = some v := by
  obtain ⟨o, es, ep, ho, hd, _, hf⟩ := G
  unfold nsIn at e
  split at e
  · rename_i c d es' n' sl q
    have := X _ _ q
    rw [ho] at this
    cases this
    cases hd
    split at e
    · rename_i en he
      cases e
      rw [← hf]
      unfold nsFind findBy
      rw [← Array.find?_toList, he]
      rfl
    · split at e <;> cases e
  · cases e
theorem jf_init {w : World} {h : Heap} (X : (hd.heap_39 w.params).In h) : h.nsMap 159 "__init__" = some (.ref 157) := ns_some_of X (jf_ns X) (by with_unfolding_all rfl)
theorem jf_fn {w : World} {h : Heap} (X : (hd.heap_39 w.params).In h) : ∃ o, h.get? 157 = some o ∧ o.cls = .type "function" := ⟨_, X _ _ (by with_unfolding_all rfl), rfl⟩
theorem lk_kind : typeLookup (.type "Exception") (Str.ofString "kind") = pure none := by rw [typeLookup_type, builtinLookup_eq_fast]; kernel_rfl
theorem lk_text : typeLookup (.type "Exception") (Str.ofString "text") = pure none := by rw [typeLookup_type, builtinLookup_eq_fast]; kernel_rfl
end Mine
end PartFX
section PartFY
open PySem PySem.W PySem.Spec PySem.Calls PyProof.Rows PySem.Builtin PySem.Builtin.ObjectAttr
set_option maxRecDepth 100000
namespace Mine
section
variable {prog : Program} {w : World} {A : Around} {E : Value → Shared → Prop} {s : Shared} {h₀ : Heap} {L x : Addr} {m : Str → Option Value} {R : Result → Shared → Prop}
theorem jf_osa {ox : Obj} {od : Option Obj} {name : Str} {tk : Tok} {v : Value} (X : (hd.heap_39 w.params).In s.heap) (I : InstAt s.heap x ox 160 od) (ht : takerIn (hd.heap_39 w.params) 160 name = some none)
    (h : ∀ b, wpAny (model prog w) A.in1 (storeInOwnDict (.ref x) (.ref 160) (.str name tk) name v b)
      (fun fin s' => match fin with | .done f => R (.ok f) s' | .again c' => c'.quiet = true ∧ codeAny (model prog w) A c' R s') (fun e s' => R (.error e) s') s) :
    codeAny (model prog w) A (.call (.builtin "object.__setattr__") ⟨[.ref x, .str name tk, v], []⟩) R s := by
  have SF := PySem.F.store_object
  obtain ⟨cd, hc, ne, ho, hr⟩ : ∃ cd, clsIn (hd.heap_39 w.params) 160 = some cd ∧ cd.mro.isEmpty = false ∧ cd.mro.contains (.type "object") = true ∧ refuseLoop (.ref x) "__setattr__" cd.mro = pure () :=
    ⟨_, by with_unfolding_all rfl, rfl, by decide +kernel, by rw [refuseLoop_ref]; exact PySem.F.store_Exception.passes _⟩
  have sub : Looks (model prog w) s.heap (isInstance (.ref x) (.type "object")) true := I.type.andThen (looks_mroIn X (by unfold mroIn; rw [hc, Option.bind_some, if_neg (by rw [ne]; decide), ho]))
  refine codeAny_call_builtin SF.slot.plain SF.entry (@check_slot (model prog w) _ _ s "object.__setattr__" "object" "__setattr__" (.ref x) [.str name tk, v] [] _ SF.kind SF.split sub (SF.args (.ref x) (.str name tk) v) ?_)
  obtain ⟨attr, ha, hq⟩ := Option.bind_eq_some_iff.mp ht
  have hm : Looks (model prog w) s.heap (mroOf (.ref 160)) cd.mro := (looks_clsIn X hc).andThen .now
  have L3 : Looks (model prog w) s.heap (storeTaker? attr) none := by
    cases attr with
    | none => exact .now
    | some a =>
      obtain ⟨b, hb, hq2⟩ := Option.map_eq_some_iff.mp hq
      refine (looks_takesIn X hb).andThen ?_
      cases b with
      | true => cases hq2
      | false => exact .now
  rw [osa_eq, refuse_eq]
  refine wpAny_bind (wpAny_bind (I.type.here (wpAny_bind (hm.here ?_))))
  rw [hr]
  refine wpAny_pure (wpAny_bind (I.type.here (wpAny_bind ((looks_findIn X ha).here (wpAny_bind (L3.here ?_))))))
  exact h _

theorem jf_store_new {name : Str} {v : Value} {rest : List (Addr × Obj)} {Q : Unit → Shared → Prop} {vs : Array Value} (F : Fr h₀ L s.heap m) (N : News h₀ L s.heap ((x, { cls := .ref 160, data := .fields vs }) :: rest)) (X : (hd.heap_39 w.params).In h₀)
    (ht : takerIn (hd.heap_39 w.params) 160 name = some none) (hne : ∀ p ∈ rest, p.1 ≠ x)
    (h : ∀ D od h' tk', Obj.putName name (PyData.keyHash w.params name) (.str name (s.toks + 1)) v emptyDict = od → Fr h₀ L h' m → News h₀ L h' ((D, od) :: (x, { cls := .ref 160, dict := some D, data := .fields vs }) :: rest) → x ≠ D → (∀ p ∈ rest, p.1 ≠ D) → Q () { s with heap := h', toks := tk' }) :
    wpAny (model prog w) A (setAttr (.ref x) name v) Q E s := by
  obtain ⟨hh, g, dr, t, os⟩ := s
  dsimp only at F N h ⊢
  have X1 : (hd.heap_39 w.params).In hh := fun b o e => F.keep b o (X b o e)
  have hx : hh.get? x = some { cls := .ref 160, data := .fields vs } := (N _ (.head _)).1
  have I : InstAt hh x { cls := .ref 160, data := .fields vs } 160 none := ⟨hx, rfl, rfl, trivial⟩
  refine set_plain X1 I (by with_unfolding_all rfl) ?_
  refine jf_osa (s := ⟨hh, g, dr, t + 1, os⟩) X1 I ht fun b => ?_
  obtain ⟨cd, hc, hd'⟩ := any_some (show (clsIn (hd.heap_39 w.params) 160).any (·.hasDict) = true by with_unfolding_all rfl)
  refine wpAny_bind (wpAny_pure (wpAny_bind (wpAny_bind (wpAny_loadPart hx (wpAny_bind ((looks_clsIn X1 hc).here ?_))))))
  rw [hd']
  have hxs : x ≠ hh.objs.size := Nat.ne_of_lt (Heap.lt_size hx)
  have hx₁ := Heap.get?_push_of_some emptyDict hx
  have N1 : News h₀ L (hh.push emptyDict) ((hh.objs.size, emptyDict) :: (x, { cls := .ref 160, data := .fields vs }) :: rest) :=
    news_pushed (s := ⟨hh, g, dr, t, os⟩) F N (fun b o e => Heap.get?_push_of_some _ e) (Heap.get?_push_at rfl rfl) rfl
  have F1 : Fr h₀ L (hh.push emptyDict) m := F.keeps fun b o e => Heap.get?_push_of_some _ e
  have hrs : ∀ p ∈ rest, p.1 ≠ hh.objs.size := fun p hp => Nat.ne_of_lt (Heap.lt_size (N p (.tail _ hp)).1)
  obtain ⟨F2, N2⟩ := news_upd (pre := [(hh.objs.size, emptyDict)]) (f := fun o => { o with dict := some hh.objs.size }) F1 N1 (fun p hp => by rw [List.mem_singleton.mp hp]; exact Ne.symm hxs) hne rfl rfl
  obtain ⟨F3, N3⟩ := news_upd (pre := []) (f := Obj.putName name (PyData.keyHash w.params name) (.str name (t + 1)) v) F2 N2 (fun p hp => nomatch hp)
    (fun p hp => by rcases List.mem_cons.mp hp with rfl | hp <;> first | exact hxs | exact hrs p hp) rfl rfl
  refine wpAny_bind (wpAny_alloc ?_)
  refine wpAny_bind (wpAny_update hx₁ ?_)
  refine wpAny_pure ?_
  have D := (N2 (hh.objs.size, emptyDict) (by simp)).1
  have D' := (N3 (hh.objs.size, Obj.putName name (PyData.keyHash w.params name) (.str name (t + 1)) v emptyDict) (.head _)).1
  unfold storeInDict
  refine wpAny_bind (wpAny_pure (wpAny_bind ?_))
  unfold nsSet
  refine wpAny_bind (wpAny_bind (wpAny_askSetting (wpAny_pure (wpAny_bind (wpAny_mkText (wpAny_bind (wpAny_loadPart D ?_)))))))
  dsimp only
  rw [aRefKeyMayBeTheName_at, show (!(#[] : Array DictEntry).any (·.key.isStr name) && (#[] : Array DictEntry).any (·.refKey)) = false by simp]
  refine wpAny_updatePart D ?_
  refine wpAny_bind (wpAny_lookBehind D' (by exact pastItsLine_dict (by simp [Obj.putName, sizeLine_eq])) ?_)
  exact wpAny_pure (h _ _ _ _ rfl F3 N3 hxs hrs)
theorem jf_store_more {name : Str} {v : Value} {rest : List (Addr × Obj)} {Q : Unit → Shared → Prop} {vs : Array Value} {D : Addr} {od od' : Obj} {es : List DictEntry} {n : Nat} (F : Fr h₀ L s.heap m) (N : News h₀ L s.heap ((D, od) :: (x, { cls := .ref 160, dict := some D, data := .fields vs }) :: rest)) (X : (hd.heap_39 w.params).In h₀)
    (ht : takerIn (hd.heap_39 w.params) 160 name = some none) (hl : (lookIn name od).isSome = true) (hxs : x ≠ D) (hrs : ∀ p ∈ rest, p.1 ≠ D)
    (e : Obj.putName name (PyData.keyHash w.params name) (.str name (s.toks + 1)) v od = od') (e' : od'.data = .dict es.toArray n) (hz : es.length ≤ 1000)
    (h : ∀ h' tk', Fr h₀ L h' m → News h₀ L h' ((D, od') :: (x, { cls := .ref 160, dict := some D, data := .fields vs }) :: rest) → Q () { s with heap := h', toks := tk' }) :
    wpAny (model prog w) A (setAttr (.ref x) name v) Q E s := by
  obtain ⟨hh, g, dr, t, os⟩ := s
  dsimp only at F N h e ⊢
  have X1 : (hd.heap_39 w.params).In hh := fun b o e => F.keep b o (X b o e)
  have hx : hh.get? x = some { cls := .ref 160, dict := some D, data := .fields vs } := (N _ (.tail _ (.head _))).1
  have hD : hh.get? D = some od := (N _ (.head _)).1
  have I : InstAt hh x { cls := .ref 160, dict := some D, data := .fields vs } 160 (some od) := ⟨hx, rfl, rfl, hD⟩
  refine set_plain X1 I (by with_unfolding_all rfl) ?_
  refine jf_osa (s := ⟨hh, g, dr, t + 1, os⟩) X1 I ht fun b => ?_
  obtain ⟨cd, hc, hd'⟩ := any_some (show (clsIn (hd.heap_39 w.params) 160).any (·.hasDict) = true by with_unfolding_all rfl)
  refine wpAny_bind (wpAny_pure (wpAny_bind (wpAny_bind (wpAny_loadPart hx (wpAny_bind ((looks_clsIn X1 hc).here ?_))))))
  rw [hd']
  obtain ⟨U1, U2⟩ := news_upd (pre := []) (f := Obj.putName name (PyData.keyHash w.params name) (.str name (t + 1)) v) F N (fun p hp => nomatch hp)
    (fun p hp => by rcases List.mem_cons.mp hp with rfl | hp <;> first | exact hxs | exact hrs p hp) e (by obtain ⟨_, _, dd, _⟩ := od'; cases e'; rfl)
  have D' := (U2 (D, od') (.head _)).1
  refine wpAny_pure (a := some D) (wpAny_bind (wpAny_pure (wpAny_bind ?_)))
  unfold nsSet
  refine wpAny_bind (wpAny_bind (wpAny_askSetting (wpAny_pure (wpAny_bind (wpAny_mkText (wpAny_bind (wpAny_loadPart hD ?_)))))))
  unfold lookIn at hl
  split at hl
  · rename_i es₀ n₀ q
    rw [q]
    dsimp only
    have c : (!es₀.any (·.key.isStr name) && es₀.any (·.refKey)) = false := by
      rw [← Array.any_toList, ← Array.any_toList]
      split at hl
      · rename_i en he
        rw [List.any_eq_true.mpr ⟨en, List.mem_of_find?_eq_some he, List.find?_some he⟩]; rfl
      · split at hl
        · cases hl
        · rename_i z; rw [Bool.not_eq_true] at z; rw [z, Bool.and_false]
    rw [aRefKeyMayBeTheName_at, c]
    refine wpAny_updatePart hD ?_
    refine wpAny_bind (wpAny_lookBehind D' (by rw [e']; exact pastItsLine_dict (by rw [List.size_toArray, sizeLine_eq]; omega)) ?_)
    exact wpAny_pure (h _ _ U1 U2)
  · cases hl
end
end Mine
end PartFY
section PartFI
open PySem PySem.W PySem.Spec PySem.Calls PyProof.Rows
set_option maxRecDepth 100000
set_option maxHeartbeats 8000000
namespace Mine
local macro_rules | `(tactic| k_room) => `(tactic| ktr_room)
theorem init_ok {e : Addr} {vs : Array Value} {rest : List (Addr × Obj)} {k x : Str} {tk tx : Tok} (hne : ∀ p ∈ rest, p.1 ≠ e) :
    Tell 2 157 [.ref e, .str k tk, .str x tx] ((e, { cls := .ref 160, data := .fields vs }) :: rest) (fun v news' => v = .none ∧ ∃ D od, lookIn (Str.ofString "kind") od = some (some (.str k tk)) ∧ e ≠ D ∧ (∀ p ∈ rest, p.1 ≠ D) ∧ news' = (D, od) :: (e, { cls := .ref 160, dict := some D, data := .fields vs }) :: rest) := by
  intro prog w p loose mean mg mb dp un gd cn cs a ccd cl outer A₀ base h₀ L m s Q E B F X N TT hk hd hu hret
  refine wpAny_call ?_
  k_dflt cell_enter
  k_steps
  refine' jf_store_new (vs := vs) (rest := rest) ?a1 ?a2 ?a3 ?a4 hne ?_
  case a1 => assumption
  case a2 => assumption
  case a3 => assumption
  case a4 => with_unfolding_all rfl
  intro D od h1 tk1 hod F1 N1 hD1 hD2
  dsimp only
  k_steps
  refine' jf_store_more (x := e) (name := Str.ofString "text") ?b1 ?b2 ?b3 ?b4 ?b5 hD1 hD2 rfl ?b6 ?b7 ?_
  case b1 => assumption
  case b2 => assumption
  case b3 => assumption
  case b4 => with_unfolding_all rfl
  case b5 => subst hod; with_unfolding_all rfl
  case b6 => subst hod; with_unfolding_all rfl
  case b7 => exact Nat.le_of_ble_eq_true rfl
  intro h2 tk2 F2 N2
  dsimp only
  k_steps
  refine hret _ _ _ _ ⟨rfl, D, _, ?_, hD1, hD2, rfl⟩ (by assumption) (by assumption)
  subst hod
  with_unfolding_all rfl
end Mine
end PartFI
section PartFF
open PySem PySem.W PySem.Spec PySem.Calls PyProof.Rows
set_option maxRecDepth 100000
set_option maxHeartbeats 8000000
namespace Mine
section
variable {prog : Program} {w : World} {A : Around} {E : Value → Shared → Prop} {s : Shared} {env : Env}
theorem raiseStmt_own {x : Sem Value} {Q : Flow → Shared → Prop} (hh : A.handled = none)
    (h : wpAny (model prog w) A x (fun v s₁ => ∃ e D t, v = .ref e ∧ (hd.heap_39 w.params).In s₁.heap ∧
      s₁.heap.get? e = some { cls := .ref 160, dict := some D, data := .fields #[.ref t, .none, .none, .none, .bool false, .none] } ∧ E (.ref e) s₁) E s) :
    wpAny (model prog w) A (raiseStmt env (some x) none) Q E s := by
  have hcB : (Value.ref 160 :: bmE).contains (.type "BaseException") = true := by decide +kernel
  unfold raiseStmt
  refine wpAny_bind (wpAny_mono h (fun v s₁ h₁ => ?_) fun _ _ x => x)
  obtain ⟨e, D, t, rfl, X, he, hE⟩ := h₁
  obtain ⟨hp, g, d, tk, os⟩ := s₁
  obtain ⟨nm, q, bs, sn, sub, ab, col, dd, k0, k1, k2, k3, k5, hC⟩ := jf_cls X
  repeat (first | with_reducible refine wpAny_loadPart_at he ?_ | with_reducible refine wpAny_loadPart_at hC ?_ | (with_reducible refine wpAny_isSubtype_exc hC ?_; rw [hcB]) | wp_step)
  exact wpAny_raiseNew_none hh hE
def RaisableJ (w : World) (E : Value → Shared → Prop) (v : Value) (s₁ : Shared) : Prop := ∃ e D t, v = .ref e ∧ (hd.heap_39 w.params).In s₁.heap ∧
      s₁.heap.get? e = some { cls := .ref 160, dict := some D, data := .fields #[.ref t, .none, .none, .none, .bool false, .none] } ∧ E (.ref e) s₁
theorem Raise_own {e : Expr} {pos : Pos} {Q : Flow → Shared → Prop} (hh : A.handled = none) (h : wpAny (model prog w) A (eval e env) (RaisableJ w E) E s) : wpAny (model prog w) A (exec (.Raise (some e) none pos) env) Q E s := by
  show wpAny _ A (do standAt pos; raiseStmt env (some (do let v ← eval e env; standAt pos; pure v)) none) Q E s
  refine wpAny_bind (wpAny_standAt ?_)
  exact raiseStmt_own hh (wpAny_bind (wpAny_mono h (fun v s₁ h₁ => wpAny_bind (wpAny_standAt (wpAny_pure h₁))) fun _ _ x => x))
theorem call_jf {p : Program} {loose : List Str} {mean : ExcName → Option Value} {mg mb : Str → Option Value}
    {dp un : Nat} {gd : Option (List Code)} {cn : Str} {cs : Scope} {a : Addr} {ccd : Value} {cl : List (Str × Addr)} {outer : List Env} {A₀ : Around} {base h₀ : Heap} {L : Addr} {m : Str → Option Value} {news : List (Addr × Obj)} {k x : Str} {tk tx : Tok}
    (F : Fr h₀ L s.heap m) (X : (hd.heap_39 w.params).In h₀) (N : News h₀ L s.heap news) (T : Top p loose mean mg mb h₀) (B : Below A₀ base outer h₀) (hA : A = ktrTop dp un gd cn cs L a ccd cl outer) (hk : cs.kind = .function)
    (hdp : dp + 4 < recursionLimit) (hu : un + 8 * 4 < cLine)
    (hret : ∀ (e D t : Addr) (od : Obj) (h' : Heap) (tk' : Nat), lookIn (Str.ofString "kind") od = some (some (.str k tk)) → Fr h₀ L h' m → News h₀ L h' ((D, od) :: (e, { cls := .ref 160, dict := some D, data := .fields #[.ref t, .none, .none, .none, .bool false, .none] }) :: news) →
      (∀ p ∈ news, p.1 ≠ e) → e ≠ D → (∀ p ∈ news, p.1 ≠ D) → E (.ref e) { s with heap := h', toks := tk' }) :
    wpAny (model prog w) A (call (.ref 160) [.str k tk, .str x tx]) (RaisableJ w E) E s := by
  obtain ⟨hh, g, dr, t, os⟩ := s
  dsimp only at F N hret ⊢
  have X1 : (hd.heap_39 w.params).In hh := fun b o e => F.keep b o (X b o e)
  obtain ⟨nm, q, bs, sn, sub, ab, col, dd, k0, k1, k2, k3, k5, hC⟩ := jf_cls X1
  obtain ⟨oI, hfI, hfc⟩ := jf_fn X1
  refine wpAny_call_exc_init PySem.F.excBase_Exception hC (jf_ns X1) (jf_init X1) hfI hfc (fun h' e hm => ?_) (by exact Nat.le_of_ble_eq_true rfl)
  obtain ⟨tt, he, htn, ht⟩ := hm.there
  have F' : Fr h₀ L h' m := F.keeps hm.keeps
  have hen : h₀.get? e = none := by
    cases q : h₀.get? e with
    | none => rfl
    | some o => have := F.keep e o q; rw [hm.new] at this; cases this
  have heL : e ≠ L := fun z => by obtain ⟨oL, es, ep, hL, _⟩ := F.ns; rw [← z, hm.new] at hL; cases hL
  have hne : ∀ p ∈ news, p.1 ≠ e := fun p hp z => by have := (N p hp).1; rw [z, hm.new] at this; cases this
  have N' : News h₀ L h' ((e, { cls := .ref 160, data := .fields #[.ref tt, .none, .none, .none, .bool false, .none] }) :: news) := fun q hq => by
    rcases List.mem_cons.mp hq with rfl | hq
    · exact ⟨he, heL, hen⟩
    · exact ⟨hm.keeps _ _ (N q hq).1, (N q hq).2⟩
  subst hA
  refine tell_use2 (init_ok hne) F' X N' T B (dp := dp + 1) (un := _) (gd := _) rfl hk ?_ ?_ ?_
  · omega
  · have hc : (Code.builtin "type.__call__" ⟨[.ref 160, .str k tk, .str x tx], []⟩).cUnits ≤ 16 := by first | exact Nat.le_of_ble_eq_true rfl | decide +kernel
    exact Nat.lt_of_le_of_lt (Nat.add_le_add_right (Nat.add_le_add_left hc un) 16) (by omega)
  · rintro v news' h2 tk2 ⟨rfl, D, od, hl, hD1, hD2, rfl⟩ F2 N2
    refine ⟨rfl, e, D, tt, rfl, fun b o e => F2.keep b o (X b o e), (N2 _ (.tail _ (.head _))).1, ?_⟩
    exact hret e D tt od h2 tk2 hl F2 N2 hne hD1 hD2
end
def Pj (D : Addr) (o : Obj) : Prop := o.cls = .ref 160 ∧ o.dict = some D
theorem pj_keep {D : Addr} : ∀ o v, Pj D o → Pj D (o.mapFields (·.setIfInBounds 1 v)) := fun o v h => by
  obtain ⟨c, d, dt, sl⟩ := o
  obtain ⟨rfl, rfl⟩ := h
  cases dt <;> exact ⟨rfl, rfl⟩
local macro_rules | `(tactic| k_room) => `(tactic| ktr_room)
local macro_rules | `(tactic| walk_at "exec Raise some none") => `(tactic| (k_here; (with_reducible show wpAny _ _ (exec (Stmt.Raise (some (Expr.Call (Expr.Name _ _) _ [] _)) none _) _) _ _ _); refine Raise_own rfl ?_))
theorem fail_raise {x : Str} {tx : Tok} {news : List (Addr × Obj)} : ∀ (prog : Program) (w : World) (p : Program) (loose : List Str) (mean : ExcName → Option Value) (mg mb : Str → Option Value)
    (dp un : Nat) (gd : Option (List Code)) (cn : Str) (cs : Scope) (a : Addr) (ccd : Value) (cl : List (Str × Addr)) (outer : List Env) (A₀ : Around) (base h₀ : Heap) (L : Addr) (m : Str → Option Value) (s : Shared) (Q E : Value → Shared → Prop)
    (B : Below A₀ base outer h₀) (F : Fr h₀ L s.heap m) (X : (hd.heap_39 w.params).In h₀) (N : News h₀ L s.heap news) (TT : Top p loose mean mg mb h₀) (hk : cs.kind = .function) (hdp : dp + 6 < recursionLimit) (hu : un + 8 * 6 < cLine)
    (hraise : ∀ (g' h' : Heap) (e D : Addr) (od : Obj) (t : Tok) (tk' : Nat), lookIn (Str.ofString "kind") od = some (some (.str (Str.ofString "SyntaxError") t)) → Fr h₀ L g' m → g'.UpToSlots h' → RaisedF (Pj D) base (envX cn cs L a ccd cl :: outer) e ((D, od) :: news) h' → E (.ref e) { s with heap := h', toks := tk' }),
    wpAny (model prog w) (ktrTop dp un gd cn cs L a ccd cl outer) (call (.ref 185) [.str x tx]) Q E s := by
  intro prog w p loose mean mg mb dp un gd cn cs a ccd cl outer A₀ base h₀ L m s Q E B F X N TT hk hdp hu hraise
  refine wpAny_call ?_
  k_dflt cell_enter
  k_steps
  refine' call_jf ?c1 ?c2 ?c3 ?c4 ?c5 ?c6 ?c7 ?c8 ?c9 ?_
  case c1 => assumption
  case c2 => assumption
  case c3 => assumption
  case c4 => assumption
  case c5 => assumption
  case c6 => exact rfl
  case c7 => exact rfl
  case c8 => show dp + 1 + 4 < recursionLimit; omega
  case c9 => show un + 3 + 8 * 4 < cLine; omega
  intro e D t od h1 tk1 hl F1 N1 hne hD1 hD2
  show wpAny _ _ (leaving _ (.ref e)) _ _ _
  have hN := N1 _ (.tail _ (.head _))
  refine leave_raiseF (base := base) (outer := envX cn cs L a ccd cl :: outer) (pj_keep (D := D)) (news := (D, od) :: news) ?d1 F1 hN.1 ⟨rfl, rfl⟩ rfl rfl hN.2.2 ?d2 ?d3 ?_
  case d1 => assumption
  case d2 => exact fun q hq => (List.mem_cons.mp hq).elim (fun z => z ▸ N1 _ (.head _)) (fun z => N1 _ (.tail _ (.tail _ z)))
  case d3 => exact fun q hq => (List.mem_cons.mp hq).elim (fun z => z ▸ fun y => hD1 y.symm) (fun z => hne q z)
  intro h2 R2 U2
  exact hraise _ _ _ _ _ _ _ hl (by assumption) U2 R2
end Mine
end PartFF
section PartOP
open PySem PySem.W PySem.Spec PySem.Calls PyProof.Rows
set_option maxRecDepth 100000
set_option maxHeartbeats 8000000
namespace Mine
theorem e97 : (⟨#[97]⟩ : Str) = Str.ofString "a" := by decide +kernel
theorem e123 : (⟨#[123]⟩ : Str) = Str.ofString "{" := by decide +kernel
theorem e44 : (⟨#[44]⟩ : Str) = Str.ofString "," := by decide +kernel
theorem e125 : (⟨#[125]⟩ : Str) = Str.ofString "}" := by decide +kernel
theorem e63 : (⟨#[63]⟩ : Str) = Str.ofString "?" := by decide +kernel
theorem e0 : (⟨#[]⟩ : Str) = Str.ofString "" := by decide +kernel
theorem tell_use3 {n : Nat} {f : Addr} {vs : List Value} {news : List (Addr × Obj)} {P : Value → List (Addr × Obj) → Prop} (C : Tell n f vs news P) {prog : Program} {w : World} {p : Program} {loose : List Str} {mean : ExcName → Option Value} {mg mb : Str → Option Value}
    {dp un : Nat} {gd : Option (List Code)} {cn : Str} {cs : Scope} {a : Addr} {ccd : Value} {cl : List (Str × Addr)} {outer : List Env} {A A₀ : Around} {base h₀ : Heap} {L : Addr} {m : Str → Option Value} {s : Shared} {Q E : Value → Shared → Prop}
    (hret : ∀ (v : Value) (news' : List (Addr × Obj)) (h' : Heap) (tk' : Nat), P v news' → Fr h₀ L h' m → News h₀ L h' news' → Q v { s with heap := h', toks := tk' })
    (F : Fr h₀ L s.heap m := by with_reducible assumption) (X : (hd.heap_39 w.params).In h₀ := by with_reducible assumption) (N : News h₀ L s.heap news := by with_reducible assumption) (T : Top p loose mean mg mb h₀ := by with_reducible assumption) (B : Below A₀ base outer h₀ := by with_reducible assumption) (hA : A = ktrTop dp un gd cn cs L a ccd cl outer := by exact rfl) (hk : cs.kind = .function := by first | exact rfl | assumption)
    (hd : dp + n < recursionLimit := by exact Nat.le_of_ble_eq_true rfl) (hu : un + 8 * n < cLine := by exact Nat.le_of_ble_eq_true rfl) :
    wpAny (model prog w) A (call (.ref f) vs) Q E s := tell_use2 C F X N T B hA hk hd hu hret
theorem RaisedF.one {P : Obj → Prop} {base h : Heap} {l : List Env} {e : Addr} {q : Addr × Obj} {news : List (Addr × Obj)} (R : RaisedF P base l e (q :: news) h) : RaisedF P base l e [q] h := by
  obtain ⟨B, h1, h2, h3⟩ := R
  exact ⟨B, h1, fun p hp => h2 p (List.mem_singleton.mp hp ▸ .head _), h3⟩
theorem fail_use {x : Str} {tx : Tok} {news : List (Addr × Obj)} {prog : Program} {w : World} {p : Program} {loose : List Str} {mean : ExcName → Option Value} {mg mb : Str → Option Value}
    {dp un : Nat} {gd : Option (List Code)} {cn : Str} {cs : Scope} {a : Addr} {ccd : Value} {cl : List (Str × Addr)} {outer : List Env} {A A₀ : Around} {base h₀ : Heap} {L : Addr} {m : Str → Option Value} {s : Shared} {Q E : Value → Shared → Prop}
    (F : Fr h₀ L s.heap m) (X : (hd.heap_39 w.params).In h₀) (N : News h₀ L s.heap news) (T : Top p loose mean mg mb h₀) (B : Below A₀ base outer h₀) (hA : A = ktrTop dp un gd cn cs L a ccd cl outer) (hk : cs.kind = .function) (hdp : dp + 6 < recursionLimit) (hu : un + 8 * 6 < cLine)
    (hraise : ∀ (g' h' : Heap) (e D : Addr) (od : Obj) (t : Tok) (tk' : Nat), lookIn (Str.ofString "kind") od = some (some (.str (Str.ofString "SyntaxError") t)) → Fr h₀ L g' m → g'.UpToSlots h' → RaisedF (Pj D) base (envX cn cs L a ccd cl :: outer) e ((D, od) :: news) h' → E (.ref e) { s with heap := h', toks := tk' }) :
    wpAny (model prog w) A (call (.ref 185) [.str x tx]) Q E s := by
  subst hA
  exact fail_raise _ _ _ _ _ _ _ _ _ _ _ _ _ _ _ _ _ _ _ _ _ _ _ _ B F X N T hk hdp hu hraise
abbrev tupO (vs : List Value) : Obj := { cls := .type "tuple", data := .seq vs.toArray }
structure TL (tl : List Nat) : Prop where
  h : tl = [] ∨ tl = [63]
structure BB (b : Bool) : Prop where
  h : b = true ∨ b = false
def OftenC (T : Str) (tT : Tok) (l l' : List Nat) (nl : Int) (V : Value → Prop) (bad : Prop) : Prop :=
  ∀ (H1 H2 H3 H4 H5 : Int) (k1 k2 k3 k4 k5 : Tok) (q : Int) (tp : Tok) (g : Int) (tg : Tok) (f : Int) (tf : Tok) (e : Int) (te : Tok) (r d : Addr) (rest : List (Addr × Obj)) (xne : ∀ p ∈ rest, p.1 ≠ d) (xhr : (r, instObj 328 d) ∈ rest) (xhA : At T q l)
    (prog : Program) (w : World) (p : Program) (loose : List Str) (mean : ExcName → Option Value) (mg mb : Str → Option Value)
    (gd : Option (List Code)) (cn : Str) (cs : Scope) (a : Addr) (ccd : Value) (cl : List (Str × Addr)) (outer : List Env) (A₀ : Around) (base h₀ : Heap) (L : Addr) (m : Str → Option Value) (s : Shared) (Q E : Value → Shared → Prop)
    (xB : Below A₀ base outer h₀) (xF : Fr h₀ L s.heap m) (xX : (hd.heap_39 w.params).In h₀) (xN : News h₀ L s.heap ((d, rdict H1 H2 H3 H4 H5 k1 k2 k3 k4 k5 T tT q tp g tg f tf e te) :: rest)) (xT : Top p loose mean mg mb h₀) (xhk : cs.kind = .function)
    (xhret : ∀ (tup : Addr) (t1 : Tok) (hv : Value) (q' : Int) (tp' : Tok) (h' : Heap) (tk' : Nat), V hv → d < tup → AllLt tup rest → At T q' l' → Fr h₀ L h' m → News h₀ L h' ((tup, tupO [.int nl t1, hv]) :: (d, rdict H1 H2 H3 H4 H5 k1 k2 k3 k4 k5 T tT q' tp' g tg f tf e te) :: rest) → Q (.ref tup) { s with heap := h', toks := tk' })
    (xhraise : bad → ∀ (g' h' : Heap) (e D : Addr) (od : Obj) (t : Tok) (tk' : Nat), lookIn (Str.ofString "kind") od = some (some (.str (Str.ofString "SyntaxError") t)) → Fr h₀ L g' m → g'.UpToSlots h' → RaisedF (Pj D) base (envX cn cs L a ccd cl :: outer) e [(D, od)] h' → E (.ref e) { s with heap := h', toks := tk' }),
    wpAny (model prog w) (ktrTop 306 19 gd cn cs L a ccd cl outer) (call (.ref 269) [.ref r]) Q E s
section
variable {H1 H2 H3 H4 H5 : Int} {k1 k2 k3 k4 k5 : Tok} {T : Str} {tT : Tok} {q : Int} {tp : Tok} {g : Int} {tg : Tok} {f : Int} {tf : Tok} {e : Int} {te : Tok} {r d : Addr} {x : Str}
theorem upd_same {d : Addr} {o o' : Obj} {l l' : List (Addr × Obj)} (U : Upd d o o' l l') (h : o' = o) : l' = l := by
  subst h
  induction U with
  | head _ => rfl
  | tail _ _ ih => rw [ih]
theorem skipQ {tl : List Nat} {tw : Tok} {news : List (Addr × Obj)} {nw : Int → Tok → List (Addr × Obj)} (hr : (r, instObj 328 d) ∈ news) (hA : At T q tl) (htl : TL tl)
    (hU : ∀ q' tp', Upd d (rdict H1 H2 H3 H4 H5 k1 k2 k3 k4 k5 T tT q tp g tg f tf e te) (rdict H1 H2 H3 H4 H5 k1 k2 k3 k4 k5 T tT q' tp' g tg f tf e te) news (nw q' tp')) :
    Tell 2 234 [.ref r, .str (Str.ofString "?") tw] news (fun v news' => ∃ q' tp', v = .bool (decide (tl = [63])) ∧ At T q' [] ∧ news' = nw q' tp') := by
  intro prog w p loose mean mg mb dp un gd cn cs a ccd cl outer A₀ base h₀ L m s Q E B F X N TT hk hd hu hret
  rcases htl.h with rfl | rfl
  · refine skipE hr (upd_mem (hU 0 0)) hA (by decide +kernel) (by decide +kernel) prog w p loose mean mg mb dp un gd cn cs a ccd cl outer A₀ base h₀ L m s Q E B F X N TT hk hd hu ?_
    rintro v news' h' tk' ⟨rfl, rfl⟩ F' N'
    exact hret _ _ _ _ ⟨q, tp, by simp, hA, (upd_same (hU q tp) rfl).symm⟩ F' N'
  · refine skipY hr hA (by decide +kernel) (fun tp' => hU (q + 1) tp') prog w p loose mean mg mb dp un gd cn cs a ccd cl outer A₀ base h₀ L m s Q E B F X N TT hk hd hu ?_
    rintro v news' h' tk' ⟨tp', rfl, hA', rfl⟩ F' N'
    exact hret _ _ _ _ ⟨_, tp', by simp, hA', rfl⟩ F' N'
theorem often_use {l l' : List Nat} {nl : Int} {V : Value → Prop} {bad : Prop} {news : List (Addr × Obj)} {nw : Int → Tok → List (Addr × Obj)} (O : OftenC T tT l l' nl V bad) (hr : (r, instObj 328 d) ∈ news) (hA : At T q l)
    (hU : ∀ q' tp', Upd d (rdict H1 H2 H3 H4 H5 k1 k2 k3 k4 k5 T tT q tp g tg f tf e te) (rdict H1 H2 H3 H4 H5 k1 k2 k3 k4 k5 T tT q' tp' g tg f tf e te) news (nw q' tp'))
    {prog : Program} {w : World} {p : Program} {loose : List Str} {mean : ExcName → Option Value} {mg mb : Str → Option Value}
    {gd : Option (List Code)} {cn : Str} {cs : Scope} {a : Addr} {ccd : Value} {cl : List (Str × Addr)} {outer : List Env} {A A₀ : Around} {base h₀ : Heap} {L : Addr} {m : Str → Option Value} {s : Shared} {Q E : Value → Shared → Prop}
    (F : Fr h₀ L s.heap m) (X : (hd.heap_39 w.params).In h₀) (N : News h₀ L s.heap news) (TT : Top p loose mean mg mb h₀) (B : Below A₀ base outer h₀) (hA' : A = ktrTop 306 19 gd cn cs L a ccd cl outer) (hk : cs.kind = .function)
    (hret : ∀ (tup : Addr) (t1 : Tok) (hv : Value) (q' : Int) (tp' : Tok) (h' : Heap) (tk' : Nat), V hv → (∀ p ∈ nw q' tp', p.1 < tup) → At T q' l' → Fr h₀ L h' m → News h₀ L h' ((tup, tupO [.int nl t1, hv]) :: nw q' tp') → Q (.ref tup) { s with heap := h', toks := tk' })
    (hraise : bad → ∀ (g' h' : Heap) (e D : Addr) (od : Obj) (t : Tok) (tk' : Nat), lookIn (Str.ofString "kind") od = some (some (.str (Str.ofString "SyntaxError") t)) → Fr h₀ L g' m → g'.UpToSlots h' → RaisedF (Pj D) base (envX cn cs L a ccd cl :: outer) e [(D, od)] h' → E (.ref e) { s with heap := h', toks := tk' }) :
    wpAny (model prog w) A (call (.ref 269) [.ref r]) Q E s := by
  subst hA'
  have hm := upd_mem (hU 0 0)
  refine O H1 H2 H3 H4 H5 k1 k2 k3 k4 k5 q tp g tg f tf e te r d (others d news) others_ne (inst_others N hr hm) hA prog w p loose mean mg mb gd cn cs a ccd cl outer A₀ base h₀ L m s Q E B F X (news_front N hm) TT hk ?_ hraise
  intro tup t1 hv q' tp' h' tk' hV l1 l2 hA2 F' N'
  refine hret tup t1 hv q' tp' h' tk' hV (lt_back (hU q' tp') l1 l2) hA2 F' ?_
  intro p hp
  rcases List.mem_cons.mp hp with rfl | hp
  · exact N' _ List.mem_cons_self
  · exact news_back (hU q' tp') (fun p hp => N' p (List.mem_cons_of_mem _ hp)) p hp
end
local macro_rules | `(tactic| k_room) => `(tactic| exact Nat.le_of_ble_eq_true rfl)
local macro_rules | `(tactic| k_mem) => `(tactic| first | assumption | exact List.mem_cons_self | (refine List.mem_cons_of_mem _ ?_; k_mem))
local macro_rules | `(tactic| k_all) => `(tactic| first | assumption | exact List.forall_mem_nil _ | (refine' List.forall_mem_cons.mpr ⟨?a, ?b⟩; (case a => k_ne); (case b => k_all)))
local macro_rules | `(tactic| walk_at "memR") => `(tactic| first | (with_reducible exact List.mem_cons_self) | ((with_reducible refine List.mem_cons_of_mem _ ?_); walk_at "memR"))
theorem len_one {prog : Program} {w : World} {A : Around} {E : Value → Shared → Prop} {s : Shared} {l : Addr} {items : Array Value} {c : Nat} {d : Option Addr} {sl : Array (Option Value)} {Q : Value → Shared → Prop} {h₀ : Heap} {L : Addr} {news : List (Addr × Obj)} (N : News h₀ L s.heap news)
    (hm : (l, ({ cls := .type "list", dict := d, data := .seq items c, slots := sl } : Obj)) ∈ news) (hk : items.size = 1) (h : Q (.int 1 (s.toks + 1)) { s with toks := s.toks + 1 + 1 }) : wpAny (model prog w) A (call (.builtin "len") [.ref l]) Q E s := by
  refine PyProof.Rows.len_list (News.isList N hm) (by rw [hk]; decide) ?_
  rw [hk]; exact h
local macro_rules | `(tactic| walk_at "call builtin:len") => `(tactic| (k_here; (with_reducible show wpAny _ _ (call (Value.builtin "len") [Value.ref _]) _ _ _); k_dflt (refine' len_one ?N ?M ?k ?_; (case N => with_reducible assumption); (case M => walk_at "memR"); (case k => exact rfl))))
theorem item_listL {prog : Program} {w : World} {A : Around} {E : Value → Shared → Prop} {s : Shared} {value slice : PySem.Expr} {l : Addr} {vs : List Value} {k : Int} {u : Tok} {x : Value} {Q : Value → Shared → Prop} (hl : s.heap.IsList l vs.toArray)
    (h0 : 0 ≤ k) (hfit : k < 2 ^ 63) (hx : vs[k.toNat]? = some x) (h : Q x s)
    (hs : subscripted slice false (.ref l) (.int k u) = operate [.ref l, .int k u] (getItem (.ref l) (.int k u))) (hg : ∀ r, letTemporaryGo value (.ref l) r = pure ()) :
    wpAny (model prog w) A (subscriptTail value slice (.ref l) (.int k u)) Q E s := PyProof.Rows.item_list hl h0 hfit (by simpa using hx) h hs hg
local macro_rules | `(tactic| walk_at "subscriptTail Name Constant ref int") => `(tactic| (k_here; (with_reducible show wpAny _ _ (subscriptTail _ _ (Value.ref _) (Value.int _ _)) _ _ _); k_dflt (refine' item_listL ?l ?a ?b ?c ?_ ?d ?e; (case l => (refine' News.isList ?N ?M; (case N => with_reducible assumption); (case M => walk_at "memR"))); (case a => decide); (case b => decide); (case c => rfl); (case d => with_unfolding_all rfl); (case e => (intro _; with_unfolding_all rfl)); k_whole)))
local macro_rules | `(tactic| walk_at "call ref") => `(tactic| (k_here; (with_reducible show wpAny _ _ (call (Value.ref _) _) _ _ _); k_dflt (refine wpAny_call ?_; refine' code_def ?k1 ?k2 ?k3 ?k4 ?k5 ?kA ?kF ?kK ?k6 ?k7 ?k8 ?k9 ?kB ?_ ?c2 ?c3 ?c4 ?c5; (case k2 => with_reducible assumption); (case k3 => with_reducible assumption); (case k4 => with_reducible assumption); (case k5 => with_reducible assumption); (case k1 => with_reducible assumption); (case kA => exact rfl); (case kF => exact rfl); (case kK => exact rfl); (case k6 => k_is); (case k7 => k_is); (case k8 => exact Nat.le_of_ble_eq_true rfl); (case k9 => exact BindsTo.of_eq rfl); (case c5 => decide); (case kB => exact locs rfl); (case c2 => exact rfl); (case c3 => exact rfl); (case c4 => exact rfl); k_whole; intro g' L' h' FG' F' N' B' X' T'; (try dsimp only); (try k_fold))))
local macro_rules | `(tactic| walk_at "compareOp In str ref") => `(tactic| (k_here; (with_reducible show wpAny _ _ (compareOp CmpOp.In (Value.str _ _) (Value.ref _)) _ _ _); k_dflt (refine' topIn_K ?F ?X ?l ?k ?e ?o ?_; (case F => with_reducible assumption); (case X => with_reducible assumption); (case l => k_is); (case k => k_keys); (case e => k_is); (case o => decide))))
local macro_rules | `(tactic| walk_at "subscriptTail Name Constant ref int") => `(tactic| (k_here; (with_reducible show wpAny _ _ (subscriptTail _ _ (Value.ref _) (Value.int _ _)) _ _ _); k_dflt (refine' item_tupleT ?t ?a ?b ?c ?d ?_; (case t => (refine' News.isTup ?N ?M; (case N => with_reducible assumption); (case M => walk_at "memR"))); (case a => decide); (case b => decide); (case c => rfl); (case d => rfl); k_whole)))
local macro_rules | `(tactic| walk_at "call builtin:list.append") => `(tactic| (k_here; (first | (with_reducible show wpAny _ _ (call (Value.builtin _) [Value.ref _, _]) _ _ _) | (with_reducible show wpAny _ _ (call (Value.builtin _) ([Value.ref _] ++ [_])) _ _ _)); k_dflt (refine' append_K ?k1 ?k2 ?k3 ?_ ?z; (case k1 => with_reducible assumption); (case k2 => with_reducible assumption); (case k3 => k_upd); (case z => size_fits); k_whole); intro h' F' N'; (try k_sweep)))
local macro_rules | `(tactic| walk_at "call ref") => `(tactic| (k_here; (with_reducible show wpAny _ _ (call (Value.ref 199) [Value.str (Str.mk _) _]) _ _ _); k_dflt (refine' tell_use3 (isdec_cons ) ?_; skip; intro v9 n9 h9 tk9 hP9 F9 N9; obtain ⟨e9, e9'⟩ := hP9; subst e9; subst e9'; (try k_sweep); (try dsimp only); (try k_fold))))
local macro_rules | `(tactic| walk_at "call ref") => `(tactic| (k_here; (with_reducible show wpAny _ _ (call (Value.ref 220) _) _ _ _); k_dflt (refine' tell_use3 (sign0 ?hr ?hD ?hA ?hx) ?_; (case hr => k_mem); (case hD => k_mem); (case hA => with_reducible assumption); (case hx => exact e0); intro v9 n9 h9 tk9 hP9 F9 N9; obtain ⟨t9, e9, e9'⟩ := hP9; subst e9; subst e9'; (try k_sweep); (try dsimp only); (try k_fold))))
local macro_rules | `(tactic| walk_at "call ref") => `(tactic| (k_here; (with_reducible show wpAny _ _ (call (Value.ref 220) _) _ _ _); k_dflt (refine' tell_use3 (sign1 ?hr ?hD ?hA ?hx) ?_; (case hr => k_mem); (case hD => k_mem); (case hA => first | with_reducible assumption | assumption); (case hx => first | exact e97 | exact e123 | exact e44 | exact e125 | exact e63 | exact rfl); intro v9 n9 h9 tk9 hP9 F9 N9; obtain ⟨t9, e9, e9'⟩ := hP9; subst e9; subst e9'; (try k_sweep); (try dsimp only); (try k_fold))))
local macro_rules | `(tactic| walk_at "call ref") => `(tactic| (k_here; (with_reducible show wpAny _ _ (call (Value.ref 227) _) _ _ _); k_dflt (refine' tell_use3 (take1 ?hr ?hA ?hx ?hU) ?_; (case hr => k_mem); (case hU => (intro tp8; k_upd)); (case hA => first | with_reducible assumption | assumption); (case hx => first | exact e97 | exact e123 | exact e44 | exact e125 | exact e63 | exact rfl); intro v9 n9 h9 tk9 hP9 F9 N9; obtain ⟨t9, tp9, e9, hA9, e9'⟩ := hP9; subst e9; subst e9'; (try dsimp only at N9); (try k_sweep); (try dsimp only); (try k_fold))))
local macro_rules | `(tactic| walk_at "call ref") => `(tactic| (k_here; (with_reducible show wpAny _ _ (call (Value.ref 234) _) _ _ _); k_dflt (refine' tell_use3 (skipE ?hr ?hm ?hA ?hW ?hn) ?_; (case hr => k_mem); (case hm => k_mem); (case hA => with_reducible assumption); (case hW => decide +kernel); (case hn => decide +kernel); intro v9 n9 h9 tk9 hP9 F9 N9; obtain ⟨e9, e9'⟩ := hP9; subst e9; subst e9'; (try k_sweep); (try dsimp only); (try k_fold))))
local macro_rules | `(tactic| walk_at "call ref") => `(tactic| (k_here; (with_reducible show wpAny _ _ (call (Value.ref 234) _) _ _ _); k_dflt (refine' tell_use3 (skipY ?hr ?hA ?hn ?hU) ?_; (case hr => k_mem); (case hU => (intro tp8; k_upd)); (case hA => with_reducible assumption); (case hn => decide +kernel); intro v9 n9 h9 tk9 hP9 F9 N9; obtain ⟨tp9, e9, hA9, e9'⟩ := hP9; subst e9; subst e9'; (try dsimp only at N9); (try k_sweep); (try dsimp only); (try k_fold))))
local macro_rules | `(tactic| walk_at "call ref") => `(tactic| (k_here; (with_reducible show wpAny _ _ (call (Value.ref 234) _) _ _ _); k_dflt (refine' tell_use3 (skipN ?hr ?hm ?hA ?hW ?hn) ?_; (case hr => k_mem); (case hm => k_mem); (case hA => with_reducible assumption); (case hW => decide +kernel); (case hn => decide +kernel); intro v9 n9 h9 tk9 hP9 F9 N9; obtain ⟨e9, e9'⟩ := hP9; subst e9; subst e9'; (try k_sweep); (try dsimp only); (try k_fold))))
local macro_rules | `(tactic| walk_at "call ref") => `(tactic| (k_here; (with_reducible show wpAny _ _ (call (Value.ref 276) _) _ _ _); k_dflt (refine' tell_use3 (countedX ?hr ?hA ?hds ?h1 ?hl ?hn ?hx ?hv ?hU) ?_; (case hr => k_mem); (case hn => exact rfl); (case hU => (intro tp8; k_upd)); (case hA => first | with_reducible assumption | assumption); (case hds => assumption); (case h1 => first | assumption | exact List.cons_ne_nil _ _); (case hl => exact rfl); (case hx => assumption); (case hv => assumption); intro v9 n9 h9 tk9 hP9 F9 N9; obtain ⟨u9, t9, s9, tp9, e9, l9, hA9, e9'⟩ := hP9; subst e9; subst e9'; (try dsimp only at l9); (try dsimp only at N9); (try k_lt l9); (try k_sweep); (try dsimp only); (try k_fold))))
theorem in_of {K : Frag} {h₀ h : Heap} {L : Addr} {m : Str → Option Value} (F : Fr h₀ L h m) (X : K.In h₀) : K.In h := Frag.In.keeps X F.keep
local macro_rules | `(tactic| walk_at "call ref") => `(tactic| (k_here; (with_reducible show wpAny _ _ (call (Value.ref 192) _) _ _ _); k_dflt (refine' tell_use3 (flags_ok ) ?_; skip; intro v9 n9 h9 tk9 hP9 F9 N9; subst hP9; (try k_sweep); (try dsimp only); (try k_fold))))
theorem notin_top {prog : Program} {w : World} {A : Around} {E : Value → Shared → Prop} {s : Shared} {t : Addr} {items : Array Value} {ys : List Str} {x : Str} {u : Tok} {b : Bool} {Q : Value → Shared → Prop} (ht : IsTup s.heap t items) (hi : StrsAre items.toList ys) (hb : (!(ys.any (· == x))) = b)
    (h : Q (.bool b) s) : wpAny (model prog w) A (compareOp .NotIn (.str x u) (.ref t)) Q E s := notin_tuple_strs ht hi (by rw [hb]; exact h)
local macro_rules | `(tactic| walk_at "compareOp NotIn str ref") => `(tactic| (k_here; (with_reducible show wpAny _ _ (compareOp CmpOp.NotIn (Value.str _ _) (Value.ref _)) _ _ _); (with_unfolding_all refine' notin_top ?k1 ?k2 ?k3 ?_; (case k1 => (refine' tupK ?X ?l; (case X => (refine' in_of ?F ?X2; (case F => with_reducible assumption); (case X2 => with_reducible assumption))); (case l => k_dflt k_is))); (case k2 => kde_strs); (case k3 => first | exact rfl | decide +kernel); k_whole)))
theorem in_str_b {prog : Program} {w : World} {A : Around} {E : Value → Shared → Prop} {s : Shared} {x y : Str} {t u : Tok} {Q : Value → Shared → Prop} (b : Bool) (hb : Txt.contains x y = b) (h : Q (.bool b) s) : wpAny (model prog w) A (compareOp .In (.str y u) (.str x t)) Q E s := SB.contains (by rw [hb]; exact h)
local macro_rules | `(tactic| walk_at "compareOp In str str") => `(tactic| (k_here; first | (refine' in_str_b false ?hb ?_; (case hb => decide +kernel)) | (refine' in_str_b true ?hb ?_; (case hb => decide +kernel))))
theorem tuple_gt_b {prog : Program} {w : World} {A : Around} {E : Value → Shared → Prop} {s : Shared} {a b : Addr} {i1 i2 : Int} {x1 x2 : Str} {t1 t2 u1 u2 : Tok} {Q : Value → Shared → Prop} {h₀ : Heap} {L : Addr} {news : List (Addr × Obj)} {bb : Bool} (N : News h₀ L s.heap news)
    (ha : (a, ({ cls := .type "tuple", data := .seq [.int i1 t1, .str x1 u1].toArray } : Obj)) ∈ news) (hb : (b, ({ cls := .type "tuple", data := .seq [.int i2 t2, .str x2 u2].toArray } : Obj)) ∈ news)
    (hu : A.units < cLine) (hg : gtP i1 i2 x1 x2 = bb) (h : Q (.bool bb) s) : wpAny (model prog w) A (compareOp .Gt (.ref a) (.ref b)) Q E s := tuple_gt N ha hb hu (by rw [hg]; exact h)
local macro_rules | `(tactic| walk_at "compareOp Gt ref ref") => `(tactic| (k_here; k_dflt (refine' tuple_gt_b ?N ?ha ?hb ?hu ?hg ?_; (case N => k_asm); (case ha => k_mem); (case hb => k_mem); (case hu => exact Nat.le_of_ble_eq_true rfl); (case hg => assumption))))
local macro_rules | `(tactic| walk_at "callWith ref") => `(tactic| (k_here; k_dflt (refine' callWith_K0 ?k1 ?k2 ?_; (case k1 => (refine' in_of ?F ?X; (case F => with_reducible assumption); (case X => with_reducible assumption))); (case k2 => k_is); k_whole)))
local macro_rules | `(tactic| walk_at "compareOp Gt ref ref") => `(tactic| (k_here; (with_reducible show wpAny _ _ (compareOp CmpOp.Gt (Value.ref _) (Value.ref _)) _ _ _); (rename Mine.BB _ => hb9); (have hb8 := BB.h hb9); clear hb9; rcases hb8 with hb8 | hb8 <;> subst hb8))
local macro_rules | `(tactic| walk_at "call ref") => `(tactic| (k_here; (with_reducible show wpAny _ _ (call (Value.ref 185) _) _ _ _); k_dflt (refine' fail_use ?k1 ?k2 ?k3 ?k4 ?k5 ?kA ?k6 ?k7 ?k8 ?_; (case k1 => first | with_reducible assumption | k_asm); (case k2 => first | with_reducible assumption | k_asm); (case k3 => first | with_reducible assumption | k_asm); (case k4 => first | with_reducible assumption | k_asm); (case k5 => first | with_reducible assumption | k_asm); (case kA => exact rfl); (case k6 => first | exact rfl | assumption); (case k7 => exact Nat.le_of_ble_eq_true rfl); (case k8 => exact Nat.le_of_ble_eq_true rfl); intro g9 h9 e9 D9 od9 t9 tk9 hl9 FG9 U9 R9; (replace R9 := (show RaisedF _ _ (envOf _ _ _ _ _ :: _) _ _ _ from R9)); (try dsimp only); (try k_fold))))
local macro_rules | `(tactic| walk_at "leaving ref") => `(tactic| (k_here; (refine' leave_onF (pj_keep) ?z1 ?z2 ?z3 ?z4 ?_; (case z3 => with_reducible assumption); (case z1 => with_reducible assumption); (case z4 => with_reducible assumption); (case z2 => with_reducible assumption); k_whole; intro h9 R9 U9; (try dsimp only at R9 U9 ⊢))))
section
variable {H1 H2 H3 H4 H5 : Int} {k1 k2 k3 k4 k5 : Tok} {T : Str} {tT : Tok} {q : Int} {tp : Tok} {g : Int} {tg : Tok} {f : Int} {tf : Tok} {e : Int} {te : Tok} {r d : Addr} {x : Str}
theorem often_A {ds tl : List Nat} {lowS : Str} {nl : Int} (hds : ∀ c ∈ ds, 48 ≤ c ∧ c ≤ 57) (h1 : ds ≠ []) (hlS : (⟨(ds.dropWhile (· == 48)).toArray⟩ : Str) = lowS) (hnl : numFrom 0 ds = nl) (hlz : lowS.length ≤ 1000) (hgt : gtP (lowS.length : Int) (lowS.length : Int) lowS lowS = false) :
    OftenC T tT (123 :: (ds ++ 44 :: (125 :: tl))) tl nl (fun hv => hv = Value.none) False := by
  intro H1 H2 H3 H4 H5 k1 k2 k3 k4 k5 q tp g tg f tf e te r d rest hne hr hA prog w p loose mean mg mb gd cn cs a ccd cl outer A₀ base h₀ L m s Q E B F X N TT hk hret hraise
  have hretX : ∀ (all : List (Addr × Obj)) (tup : Addr) (t1 : Tok) (hv : Value) (q' : Int) (tp' : Tok) (h' : Heap) (tk' : Nat), News h₀ L h' ((tup, tupO [.int nl t1, hv]) :: all) → (d, rdict H1 H2 H3 H4 H5 k1 k2 k3 k4 k5 T tT q' tp' g tg f tf e te) ∈ all → rest ⊆ all → (hv = Value.none) → d < tup ∧ AllLt tup rest → At T q' tl → Fr h₀ L h' m → Q (.ref tup) { s with heap := h', toks := tk' } := by
    intro all tup t1 hv q' tp' h' tk' N' md ms hh hl hA' F'
    refine hret tup t1 hv q' tp' h' tk' hh hl.1 hl.2 hA' F' (fun p hp => ?_)
    rcases List.mem_cons.mp hp with rfl | hp
    · exact N' _ List.mem_cons_self
    · rcases List.mem_cons.mp hp with rfl | hp
      · exact N' _ (List.mem_cons_of_mem _ md)
      · exact N' _ (List.mem_cons_of_mem _ (ms hp))
  clear hret
  refine wpAny_call ?_
  (k_dflt (refine' code_def ?k1 ?k2 ?k3 ?k4 ?k5 ?kA ?kF ?kK ?k6 ?k7 ?k8 ?k9 ?kB ?_ ?c2 ?c3 ?c4 ?c5; (case kA => exact rfl); (case kF => exact rfl); (case kK => assumption); (case k1 => k_asm); (case k2 => k_asm); (case k3 => k_asm); (case k4 => k_asm); (case k5 => k_asm); (case k6 => k_is); (case k7 => k_is); (case k8 => exact Nat.le_of_ble_eq_true rfl); (case k9 => exact BindsTo.of_eq rfl); (case c5 => decide); (case kB => exact locs rfl); (case c2 => exact rfl); (case c3 => exact rfl); (case c4 => exact rfl); k_whole; intro g' L' h' FG' F' N' B' X' T'; (try dsimp only); (try k_lift B'); (try k_fold)))
  k_steps
  all_goals (
    (refine' hretX _ _ _ _ _ _ _ _ ?sN ?sm ?sm2 ?sh ?sl ?sA ?sF
     (case sN => first | with_reducible assumption | assumption)
     (case sm => k_mem)
     (case sm2 => (intro x9 hx9; k_mem))
     (case sh => exact rfl)
     (case sl => ((rename _ < _ ∧ _ => l9); (repeat (first | exact l9 | replace l9 := And.right l9))))
     (case sA => with_reducible assumption)
     (case sF => first | with_reducible assumption | assumption))
    )
theorem often_B {ds tl : List Nat} {es : List Nat} {c : Nat} {highS : Str} {nh : Int} {lowS : Str} {nl : Int} (hds : ∀ c ∈ ds, 48 ≤ c ∧ c ≤ 57) (h1 : ds ≠ []) (hlS : (⟨(ds.dropWhile (· == 48)).toArray⟩ : Str) = lowS) (hnl : numFrom 0 ds = nl) (hlz : lowS.length ≤ 1000) (hes : ∀ x ∈ c :: es, 48 ≤ x ∧ x ≤ 57) (h48 : 48 ≤ c) (h57 : c ≤ 57) (hhS : (⟨((c :: es).dropWhile (· == 48)).toArray⟩ : Str) = highS) (hnh : numFrom 0 (c :: es) = nh) (hhz : highS.length ≤ 1000) {bb : Bool} (hbb : BB bb) (hgt : gtP (lowS.length : Int) (highS.length : Int) lowS highS = bb) :
    OftenC T tT (123 :: (ds ++ 44 :: ((c :: es) ++ 125 :: tl))) tl nl (fun hv => bb = false ∧ ∃ t, hv = Value.int nh t) (bb = true) := by
  intro H1 H2 H3 H4 H5 k1 k2 k3 k4 k5 q tp g tg f tf e te r d rest hne hr hA prog w p loose mean mg mb gd cn cs a ccd cl outer A₀ base h₀ L m s Q E B F X N TT hk hret hraise
  have hretX : ∀ (all : List (Addr × Obj)) (tup : Addr) (t1 : Tok) (hv : Value) (q' : Int) (tp' : Tok) (h' : Heap) (tk' : Nat), News h₀ L h' ((tup, tupO [.int nl t1, hv]) :: all) → (d, rdict H1 H2 H3 H4 H5 k1 k2 k3 k4 k5 T tT q' tp' g tg f tf e te) ∈ all → rest ⊆ all → (bb = false ∧ ∃ t, hv = Value.int nh t) → d < tup ∧ AllLt tup rest → At T q' tl → Fr h₀ L h' m → Q (.ref tup) { s with heap := h', toks := tk' } := by
    intro all tup t1 hv q' tp' h' tk' N' md ms hh hl hA' F'
    refine hret tup t1 hv q' tp' h' tk' hh hl.1 hl.2 hA' F' (fun p hp => ?_)
    rcases List.mem_cons.mp hp with rfl | hp
    · exact N' _ List.mem_cons_self
    · rcases List.mem_cons.mp hp with rfl | hp
      · exact N' _ (List.mem_cons_of_mem _ md)
      · exact N' _ (List.mem_cons_of_mem _ (ms hp))
  clear hret
  refine wpAny_call ?_
  (k_dflt (refine' code_def ?k1 ?k2 ?k3 ?k4 ?k5 ?kA ?kF ?kK ?k6 ?k7 ?k8 ?k9 ?kB ?_ ?c2 ?c3 ?c4 ?c5; (case kA => exact rfl); (case kF => exact rfl); (case kK => assumption); (case k1 => k_asm); (case k2 => k_asm); (case k3 => k_asm); (case k4 => k_asm); (case k5 => k_asm); (case k6 => k_is); (case k7 => k_is); (case k8 => exact Nat.le_of_ble_eq_true rfl); (case k9 => exact BindsTo.of_eq rfl); (case c5 => decide); (case kB => exact locs rfl); (case c2 => exact rfl); (case c3 => exact rfl); (case c4 => exact rfl); k_whole; intro g' L' h' FG' F' N' B' X' T'; (try dsimp only); (try k_lift B'); (try k_fold)))
  k_steps
  all_goals first
    | exact hraise rfl _ _ _ _ _ _ _ (by assumption) (by assumption) (by assumption) (RaisedF.one (by with_reducible assumption))
    | (
    (refine' hretX _ _ _ _ _ _ _ _ ?sN ?sm ?sm2 ?sh ?sl ?sA ?sF
     (case sN => first | with_reducible assumption | assumption)
     (case sm => k_mem)
     (case sm2 => (intro x9 hx9; k_mem))
     (case sh => exact ⟨rfl, _, rfl⟩)
     (case sl => ((rename _ < _ ∧ _ => l9); (repeat (first | exact l9 | replace l9 := And.right l9))))
     (case sA => with_reducible assumption)
     (case sF => first | with_reducible assumption | assumption))
    )
end
local macro_rules | `(tactic| walk_at "call ref") => `(tactic| (k_here; (with_reducible show wpAny _ _ (call (Value.ref 234) _) _ _ _); k_dflt (refine' tell_use3 (skipQ ?hr ?hA ?htl ?hU) ?_; (case hr => k_mem); (case hU => (intro q8 tp8; k_upd)); (case hA => with_reducible assumption); (case htl => with_reducible assumption); intro v9 n9 h9 tk9 hP9 F9 N9; obtain ⟨q9, tp9, e9, hA9, e9'⟩ := hP9; subst e9; subst e9'; (try dsimp only at N9); (try k_sweep); (try dsimp only); (try k_fold))))
local macro_rules | `(tactic| walk_at "call ref") => `(tactic| (k_here; (with_reducible show wpAny _ _ (call (Value.ref 269) _) _ _ _); k_dflt (refine' often_use ?hO ?hr ?hA ?hU ?k1 ?k2 ?k3 ?k4 ?k5 ?kA ?k6 ?hq ?he; (case hO => with_reducible assumption); (case k1 => first | with_reducible assumption | k_asm); (case k2 => first | with_reducible assumption | k_asm); (case k3 => first | with_reducible assumption | k_asm); (case k4 => first | with_reducible assumption | k_asm); (case k5 => first | with_reducible assumption | k_asm); (case kA => exact rfl); (case k6 => first | exact rfl | assumption); (case hr => k_mem); (case hU => (intro q8 tp8; k_upd)); (case hA => with_reducible assumption)); (case' hq => (intro u9 t9 hv9 q9 tp9 h9 tk9 hV9 l9 hA9 F9 N9; (try dsimp only at l9); (try dsimp only at N9); (try k_lt l9); (try k_sweep); (try dsimp only); (try k_fold))); (case' he => (intro hb9 g9 h9 e9 D9 od9 t9 tk9 hl9 FG9 U9 R9; (replace R9 := (show RaisedF _ _ (envOf _ _ _ _ _ :: _) _ _ _ from R9)); (try dsimp only); (try k_fold)))))
section
variable {T : Str} {tT tE : Tok}
theorem parse_S {D0 D1 D2 D3 D4 : Addr} {O0 O1 O2 O3 O4 : Obj} {l tl : List Nat} {nl : Int} {V : Value → Prop} {bad : Prop} (hA : At T 0 (97 :: 123 :: l)) (htl : TL tl) (hO : OftenC T tT (123 :: l) tl nl V bad) :
    ∀ (prog : Program) (w : World) (p : Program) (loose : List Str) (mean : ExcName → Option Value) (mg mb : Str → Option Value)
    (gd : Option (List Code)) (cn : Str) (cs : Scope) (a : Addr) (ccd : Value) (cl : List (Str × Addr)) (outer : List Env) (A₀ : Around) (base h₀ : Heap) (L : Addr) (m : Str → Option Value) (s : Shared) (Q E : Value → Shared → Prop)
    (xB : Below A₀ base outer h₀) (xF : Fr h₀ L s.heap m) (xX : (hd.heap_39 w.params).In h₀) (xN : News h₀ L s.heap [(D0, O0), (D1, O1), (D2, O2), (D3, O3), (D4, O4)]) (xT : Top p loose mean mg mb h₀) (xhk : cs.kind = .function)
    (xhret : ∀ (D E1 E2 E3 E8 : Addr) (t0 t1 t3 t4 t6 t7 t8 t9 : Tok) (hv : Value) (h' : Heap) (tk' : Nat), V hv → Fr h₀ L h' m → News h₀ L h' [(D, tupO [.ref E1, .int 0 t0]), (E1, tupO [.str (Str.ofString "seq") t1, .ref E2]), (E2, tupO [.ref E3]),
      (E3, tupO [.str (Str.ofString "repeat") t3, .int nl t4, hv, .bool (decide (tl = [63])), .ref E8, .int 1 t6, .int 1 t7]), (E8, tupO [.str (Str.ofString "char") t8, .int 97 t9]), (D0, O0), (D1, O1), (D2, O2), (D3, O3), (D4, O4)] → Q (.ref D) { s with heap := h', toks := tk' })
    (xhraise : bad → ∀ (g' h' : Heap) (e D : Addr) (od : Obj) (t : Tok) (tk' : Nat), lookIn (Str.ofString "kind") od = some (some (.str (Str.ofString "SyntaxError") t)) → Fr h₀ L g' m → g'.UpToSlots h' → RaisedF (Pj D) base (envX cn cs L a ccd cl :: outer) e [(D, od)] h' → E (.ref e) { s with heap := h', toks := tk' }),
    wpAny (model prog w) (ktrTop 302 7 gd cn cs L a ccd cl outer) (call (.ref 339) [.str T tT, .str (Str.ofString "") tE]) Q E s := by
  intro prog w p loose mean mg mb gd cn cs a ccd cl outer A₀ base h₀ L m s Q E B F X N TT hk hret hraise
  have hretX : ∀ (all : List (Addr × Obj)) (D E1 E2 E3 E8 : Addr) (t0 t1 t3 t4 t6 t7 t8 t9 : Tok) (hv : Value) (h' : Heap) (tk' : Nat), Fr h₀ L h' m → News h₀ L h' all → (D, tupO [.ref E1, .int 0 t0]) ∈ all → (E1, tupO [.str (Str.ofString "seq") t1, .ref E2]) ∈ all → (E2, tupO [.ref E3]) ∈ all →
      (E3, tupO [.str (Str.ofString "repeat") t3, .int nl t4, hv, .bool (decide (tl = [63])), .ref E8, .int 1 t6, .int 1 t7]) ∈ all → (E8, tupO [.str (Str.ofString "char") t8, .int 97 t9]) ∈ all → V hv → (D0, O0) ∈ all → (D1, O1) ∈ all → (D2, O2) ∈ all → (D3, O3) ∈ all → (D4, O4) ∈ all → Q (.ref D) { s with heap := h', toks := tk' } := by
    intro all D E1 E2 E3 E8 t0 t1 t3 t4 t6 t7 t8 t9 hv h' tk' F' N' m0 m1 m2 m3 m8 hh n0 n1 n2 n3 n4
    refine hret D E1 E2 E3 E8 t0 t1 t3 t4 t6 t7 t8 t9 hv h' tk' hh F' (fun p hp => ?_)
    simp only [List.mem_cons, List.not_mem_nil, or_false] at hp
    rcases hp with rfl | rfl | rfl | rfl | rfl | rfl | rfl | rfl | rfl | rfl <;> exact N' _ (by assumption)
  clear hret
  refine wpAny_call ?_
  (k_dflt (refine' code_def ?k1 ?k2 ?k3 ?k4 ?k5 ?kA ?kF ?kK ?k6 ?k7 ?k8 ?k9 ?kB ?_ ?c2 ?c3 ?c4 ?c5; (case kA => exact rfl); (case kF => exact rfl); (case kK => assumption); (case k1 => k_asm); (case k2 => k_asm); (case k3 => k_asm); (case k4 => k_asm); (case k5 => k_asm); (case k6 => k_is); (case k7 => k_is); (case k8 => exact Nat.le_of_ble_eq_true rfl); (case k9 => exact BindsTo.of_eq rfl); (case c5 => decide); (case kB => exact locs rfl); (case c2 => exact rfl); (case c3 => exact rfl); (case c4 => exact rfl); k_whole; intro g' L' h' FG' F' N' B' X' T'; (try dsimp only); (try k_lift B'); (try k_fold)))
  k_steps
  all_goals first
  | exact hraise (by with_reducible assumption) _ _ _ _ _ _ _ (by assumption) (by assumption) (by assumption) (RaisedF.one (by with_reducible assumption))
  | (
    refine' hretX _ _ _ _ _ _ _ _ _ _ _ _ _ _ _ _ _ ?F ?N ?m0 ?m1 ?m2 ?m3 ?m8 ?hv ?n0 ?n1 ?n2 ?n3 ?n4
    (case F => with_reducible assumption)
    (case N => with_reducible assumption)
    (case m0 => k_mem)
    (case m1 => k_mem)
    (case m2 => k_mem)
    (case m3 => k_mem)
    (case m8 => k_mem)
    (case hv => first | assumption | exact hV9)
    (case n0 => k_mem)
    (case n1 => k_mem)
    (case n2 => k_mem)
    (case n3 => k_mem)
    (case n4 => k_mem))
end
end Mine
end PartOP
section PartLQ
open PySem PySem.W PySem.Spec PySem.Calls PyProof.Rows
set_option maxRecDepth 100000
set_option maxHeartbeats 8000000
namespace Mine
def Later (P : Prop) : Prop := P
theorem k5_of {k : Int} (h0 : 0 ≤ k) (h1 : k < 5) : k ∈ [0, 1, 2, 3, 4] := by
  have h : k = 0 ∨ k = 1 ∨ k = 2 ∨ k = 3 ∨ k = 4 := by omega
  rcases h with rfl | rfl | rfl | rfl | rfl <;> simp
theorem k3_of {k : Int} (h0 : 0 ≤ k) (h1 : k < 3) : k ∈ [0, 1, 2] := by
  have h : k = 0 ∨ k = 1 ∨ k = 2 := by omega
  rcases h with rfl | rfl | rfl <;> simp
theorem tl_of {k : Int} : TL (if k = 1 then [63] else []) := ⟨by by_cases h : k = 1 <;> simp [h]⟩
theorem tlb_of {k : Int} : decide ((if k = 1 then [63] else []) = [63]) = (k == 1) := by
  by_cases h : k = 1 <;> simp [h]
theorem lparse_B {prog : Program} {w : World} {p : Program} {loose : List Str} {mean : ExcName → Option Value} {mg mb : Str → Option Value}
    {gd : Option (List Code)} {cn : Str} {cs : Scope} {a : Addr} {ccd : Value} {cl : List (Str × Addr)} {outer : List Env} {A A₀ : Around} {base h₀ : Heap} {L : Addr} {m : Str → Option Value} {s : Shared} {Q E : Value → Shared → Prop}
    {p0 p1 p2 p3 p4 : Addr × Obj} {rest : List (Addr × Obj)} {n o k k2 k3 P : Int} {S1 S2 : Str} {tT tE : Tok}
    (F : Fr h₀ L s.heap m) (X : (hd.heap_39 w.params).In h₀) (N : News h₀ L s.heap (p0 :: p1 :: p2 :: p3 :: p4 :: rest)) (T : Top p loose mean mg mb h₀) (B : Below A₀ base outer h₀) (hA : A = ktrTop 302 7 gd cn cs L a ccd cl outer) (hk : cs.kind = .function)
    (hn : n ∈ [0, 7, 1000000001, P, 99999999999999, 12]) (ho : o ∈ [7, P, 0, 1000000002, 99999999999998, 12]) (hP : P = 1000000000) (hS1 : S1 = fig n k2) (hS2 : S2 = fig o k3) (h20 : 0 ≤ k2) (h21 : k2 < 5) (h30 : 0 ≤ k3) (h31 : k3 < 3) (hk0 : 0 ≤ k) (hk1 : k < 2)
    (hbad : o < n → Later (wpAny (model prog w) A (call (.ref 339) [.str (Str.ofString "a{" ++ S1 ++ Str.ofString "," ++ S2 ++ Str.ofString "}" ++ Txt.mul (Str.ofString "?") k) tT, .str (Str.ofString "") tE]) Q E s))
    (hok : n ≤ o → ∀ (D E1 E2 E3 E8 : Addr) (t0 t1 t3 t4 t5 t6 t7 t8 t9 : Tok) (h' : Heap) (tk' : Nat), Fr h₀ L h' m → News h₀ L h' [(D, tupO [.ref E1, .int 0 t0]), (E1, tupO [.str (Str.ofString "seq") t1, .ref E2]), (E2, tupO [.ref E3]),
      (E3, tupO [.str (Str.ofString "repeat") t3, .int (if P < n then P else n) t4, .int (if P < o then P else o) t5, .bool (k == 1), .ref E8, .int 1 t6, .int 1 t7]), (E8, tupO [.str (Str.ofString "char") t8, .int 97 t9]), p0, p1, p2, p3, p4] → Q (.ref D) { s with heap := h', toks := tk' }) :
    wpAny (model prog w) A (call (.ref 339) [.str (Str.ofString "a{" ++ S1 ++ Str.ofString "," ++ S2 ++ Str.ofString "}" ++ Txt.mul (Str.ofString "?") k) tT, .str (Str.ofString "") tE]) Q E s := by
  by_cases hlt : o < n
  · exact hbad hlt
  subst hA; subst hP
  obtain ⟨ds, f1⟩ := figs_of m1 hn (k5_of h20 h21)
  obtain ⟨es, f2⟩ := figs_of m2 ho (k3_of h30 h31)
  have hg := gt_of m3 hn ho
  rw [decide_eq_false hlt] at hg
  rw [← hS1] at f1; rw [← hS2] at f2
  obtain ⟨D0, O0⟩ := p0; obtain ⟨D1, O1⟩ := p1; obtain ⟨D2, O2⟩ := p2; obtain ⟨D3, O3⟩ := p3; obtain ⟨D4, O4⟩ := p4
  have N5 : News h₀ L s.heap [(D0, O0), (D1, O1), (D2, O2), (D3, O3), (D4, O4)] := fun q hq => N q (List.mem_append_left rest hq)
  cases es with
  | nil => exact absurd rfl f2.some
  | cons c es =>
    have h4857 := f2.digits c List.mem_cons_self
    refine parse_S (at_text f1.text f2.text (by omega) f1.short f2.short) tl_of (often_B f1.digits f1.some f1.canon f1.num f1.shortc f2.digits h4857.1 h4857.2 f2.canon f2.num f2.shortc (bb := false) ⟨by simp⟩ hg) _ _ _ _ _ _ _ _ _ _ _ _ _ _ _ _ _ _ _ _ _ _ B F X N5 T hk ?_ (fun z => nomatch z)
    · rintro D E1 E2 E3 E8 t0 t1 t3 t4 t6 t7 t8 t9 hv h' tk' ⟨_, t5, rfl⟩ F' N'
      rw [tlb_of] at N'
      exact hok (by omega) D E1 E2 E3 E8 t0 t1 t3 t4 t5 t6 t7 t8 t9 h' tk' F' N'
theorem lparse_A {prog : Program} {w : World} {p : Program} {loose : List Str} {mean : ExcName → Option Value} {mg mb : Str → Option Value}
    {gd : Option (List Code)} {cn : Str} {cs : Scope} {a : Addr} {ccd : Value} {cl : List (Str × Addr)} {outer : List Env} {A A₀ : Around} {base h₀ : Heap} {L : Addr} {m : Str → Option Value} {s : Shared} {Q E : Value → Shared → Prop}
    {p0 p1 p2 p3 p4 : Addr × Obj} {rest : List (Addr × Obj)} {n k k2 P : Int} {S1 : Str} {tT tE : Tok}
    (F : Fr h₀ L s.heap m) (X : (hd.heap_39 w.params).In h₀) (N : News h₀ L s.heap (p0 :: p1 :: p2 :: p3 :: p4 :: rest)) (T : Top p loose mean mg mb h₀) (B : Below A₀ base outer h₀) (hA : A = ktrTop 302 7 gd cn cs L a ccd cl outer) (hk : cs.kind = .function)
    (hn : n ∈ [0, 7, 1000000001, P, 99999999999999, 12]) (hP : P = 1000000000) (hS1 : S1 = fig n k2) (h20 : 0 ≤ k2) (h21 : k2 < 5) (hk0 : 0 ≤ k) (hk1 : k < 2)
    (hok : ∀ (D E1 E2 E3 E8 : Addr) (t0 t1 t3 t4 t6 t7 t8 t9 : Tok) (h' : Heap) (tk' : Nat), Fr h₀ L h' m → News h₀ L h' [(D, tupO [.ref E1, .int 0 t0]), (E1, tupO [.str (Str.ofString "seq") t1, .ref E2]), (E2, tupO [.ref E3]),
      (E3, tupO [.str (Str.ofString "repeat") t3, .int (if P < n then P else n) t4, .none, .bool (k == 1), .ref E8, .int 1 t6, .int 1 t7]), (E8, tupO [.str (Str.ofString "char") t8, .int 97 t9]), p0, p1, p2, p3, p4] → Q (.ref D) { s with heap := h', toks := tk' }) :
    wpAny (model prog w) A (call (.ref 339) [.str (Str.ofString "a{" ++ S1 ++ Str.ofString "," ++ Str.ofString "" ++ Str.ofString "}" ++ Txt.mul (Str.ofString "?") k) tT, .str (Str.ofString "") tE]) Q E s := by
  subst hA; subst hP
  obtain ⟨ds, f1⟩ := figs_of m1 hn (k5_of h20 h21)
  rw [← hS1] at f1
  obtain ⟨D0, O0⟩ := p0; obtain ⟨D1, O1⟩ := p1; obtain ⟨D2, O2⟩ := p2; obtain ⟨D3, O3⟩ := p3; obtain ⟨D4, O4⟩ := p4
  have N5 : News h₀ L s.heap [(D0, O0), (D1, O1), (D2, O2), (D3, O3), (D4, O4)] := fun q hq => N q (List.mem_append_left rest hq)
  have e0 : Str.ofString "" = ⟨([] : List Nat).toArray⟩ := by decide +kernel
  refine parse_S (at_text f1.text e0 (by omega) f1.short (by decide)) tl_of (often_A f1.digits f1.some f1.canon f1.num f1.shortc gt_self) _ _ _ _ _ _ _ _ _ _ _ _ _ _ _ _ _ _ _ _ _ _ B F X N5 T hk ?_ (fun z => z.elim)
  · rintro D E1 E2 E3 E8 t0 t1 t3 t4 t6 t7 t8 t9 hv h' tk' rfl F' N'
    rw [tlb_of] at N'
    exact hok D E1 E2 E3 E8 t0 t1 t3 t4 t6 t7 t8 t9 h' tk' F' N'
theorem lparse_F {prog : Program} {w : World} {p : Program} {loose : List Str} {mean : ExcName → Option Value} {mg mb : Str → Option Value}
    {gd : Option (List Code)} {cn : Str} {cs : Scope} {a : Addr} {ccd : Value} {cl : List (Str × Addr)} {outer : List Env} {A A₀ : Around} {base h₀ : Heap} {L : Addr} {m : Str → Option Value} {s : Shared} {Q E : Value → Shared → Prop}
    {p0 p1 p2 p3 p4 : Addr × Obj} {rest : List (Addr × Obj)} {n o k k2 k3 P : Int} {S1 S2 : Str} {tT tE : Tok}
    (F : Fr h₀ L s.heap m) (X : (hd.heap_39 w.params).In h₀) (N : News h₀ L s.heap (p0 :: p1 :: p2 :: p3 :: p4 :: rest)) (T : Top p loose mean mg mb h₀) (B : Below A₀ base outer h₀) (hA : A = ktrTop 302 7 gd cn cs L a ccd cl outer) (hk : cs.kind = .function)
    (hn : n ∈ [0, 7, 1000000001, P, 99999999999999, 12]) (ho : o ∈ [7, P, 0, 1000000002, 99999999999998, 12]) (hP : P = 1000000000) (hS1 : S1 = fig n k2) (hS2 : S2 = fig o k3) (h20 : 0 ≤ k2) (h21 : k2 < 5) (h30 : 0 ≤ k3) (h31 : k3 < 3) (hk0 : 0 ≤ k) (hk1 : k < 2)
    (hlt : o < n)
    (hraise : ∀ (g' h' : Heap) (e D : Addr) (od : Obj) (t : Tok) (tk' : Nat), lookIn (Str.ofString "kind") od = some (some (.str (Str.ofString "SyntaxError") t)) → Fr h₀ L g' m → g'.UpToSlots h' → RaisedF (Pj D) base (envX cn cs L a ccd cl :: outer) e [(D, od)] h' → E (.ref e) { s with heap := h', toks := tk' }) :
    wpAny (model prog w) A (call (.ref 339) [.str (Str.ofString "a{" ++ S1 ++ Str.ofString "," ++ S2 ++ Str.ofString "}" ++ Txt.mul (Str.ofString "?") k) tT, .str (Str.ofString "") tE]) Q E s := by
  subst hA; subst hP
  obtain ⟨ds, f1⟩ := figs_of m1 hn (k5_of h20 h21)
  obtain ⟨es, f2⟩ := figs_of m2 ho (k3_of h30 h31)
  have hg := gt_of m3 hn ho
  rw [decide_eq_true hlt] at hg
  rw [← hS1] at f1; rw [← hS2] at f2
  obtain ⟨D0, O0⟩ := p0; obtain ⟨D1, O1⟩ := p1; obtain ⟨D2, O2⟩ := p2; obtain ⟨D3, O3⟩ := p3; obtain ⟨D4, O4⟩ := p4
  have N5 : News h₀ L s.heap [(D0, O0), (D1, O1), (D2, O2), (D3, O3), (D4, O4)] := fun q hq => N q (List.mem_append_left rest hq)
  cases es with
  | nil => exact absurd rfl f2.some
  | cons c es =>
    have h4857 := f2.digits c List.mem_cons_self
    refine parse_S (at_text f1.text f2.text (by omega) f1.short f2.short) tl_of (often_B f1.digits f1.some f1.canon f1.num f1.shortc f2.digits h4857.1 h4857.2 f2.canon f2.num f2.shortc (bb := true) ⟨by simp⟩ hg) _ _ _ _ _ _ _ _ _ _ _ _ _ _ _ _ _ _ _ _ _ _ B F X N5 T hk (fun _ _ _ _ _ _ _ _ _ _ _ _ _ _ _ _ hh _ _ => nomatch hh.1) (fun _ => hraise)
end Mine
end PartLQ
section PartKG
open PySem PySem.W PySem.Spec PySem.Calls PyProof.Rows PySem.Builtin PySem.Builtin.ObjectAttr
set_option maxRecDepth 100000
namespace Mine
section
variable {prog : Program} {w : World} {A : Around} {E : Value → Shared → Prop} {s : Shared} {h₀ : Heap} {L e : Addr} {m : Str → Option Value}
theorem jf_find {w : World} {od : Obj} {v : Value} (hl : lookIn (Str.ofString "kind") od = some (some v)) : findObj (hd.heap_39 w.params) 160 (some od) (Str.ofString "kind") = some (.value v) := by
  obtain ⟨cd, hc, hdd⟩ := any_some (show (clsIn (hd.heap_39 w.params) 160).any (·.hasDict) = true by with_unfolding_all rfl)
  have hf : findIn (hd.heap_39 w.params) (.ref 160) (Str.ofString "kind") = some none := by with_unfolding_all rfl
  unfold findObj
  rw [hc, hf]
  simp only [Option.bind_some, PySem.W.ownOf, hdd, if_pos, hl]
theorem jf_get {od : Obj} {oe : Obj} {D : Addr} {vs : Array Value} {v : Value} {news : List (Addr × Obj)} {expr : Bool} {Q : Value → Shared → Prop}
    (F : Fr h₀ L s.heap m) (X : (hd.heap_39 w.params).In h₀) (N : News h₀ L s.heap news) (he : (e, oe) ∈ news) (hD : (D, od) ∈ news) (hc : oe.cls = .ref 160) (hd' : oe.dict = some D) (hdt : oe.data = .fields vs)
    (hl : lookIn (Str.ofString "kind") od = some (some v)) (hh : handedIn v = true) (h : Q v { s with toks := s.toks + 1 }) : wpAny (model prog w) A (getAttr (.ref e) (Str.ofString "kind") expr) Q E s := by
  obtain ⟨hp, g, d, t, os⟩ := s
  dsimp only at F N h ⊢
  have X1 : (hd.heap_39 w.params).In hp := fun b o e => F.keep b o (X b o e)
  have hx : hp.get? e = some oe := (N _ he).1
  have hxD : hp.get? D = some od := (N _ hD).1
  have I : InstAt hp e oe 160 (some od) := by
    obtain ⟨c, dd, dt, sl⟩ := oe
    cases hc; cases hd'; cases hdt
    exact ⟨hx, rfl, rfl, hxD⟩
  have FB := PySem.F.attrBase_Exception
  have L0 := I.type (M := model prog w)
  have L1 := looks_findIn (M := model prog w) X1 (show findIn (hd.heap_39 w.params) (.ref 160) "__getattribute__" = some (some (.builtin "BaseException.__getattribute__")) by with_unfolding_all rfl)
  have L2 := looks_findIn (M := model prog w) X1 (show findIn (hd.heap_39 w.params) (.ref 160) "__getattr__" = some none by with_unfolding_all rfl)
  have L3 := looks_find (M := model prog w) X1 I (jf_find (w := w) hl)
  obtain ⟨nm, q, bs, sn, sub, ab, col, dd, k0, k1, k2, k3, k5, hC⟩ := jf_cls X1
  have hcB : (Value.ref 160 :: bmE).contains (.type "BaseException") = true := by decide +kernel
  have f3 := FB.ga.bind (.ref e)
  have hx0 : (expr && onTheHeap (Value.builtin "BaseException.__getattribute__")) = false := by cases expr <;> rfl
  have hx2 : (Value.builtin "BaseException.__getattribute__" == Value.builtin "object.__getattribute__") = false := by decide +kernel
  have hx1 : (onTheHeap (Value.ref 160) && Value.builtin "BaseException.__getattribute__" == Value.builtin "object.__getattribute__") = false := by rw [hx2]; rfl
  have hk : builtinKind "BaseException.__getattribute__" = some .slot := by decide +kernel
  have hsplit : splitId "BaseException.__getattribute__" = some ("BaseException", "__getattribute__") := by decide +kernel
  unfold getAttr getAttrBy
  refine wpAny_bind (wpAny_mkText (wpAny_holding (wpAny_bind (L0.at (wpAny_bind (L1.at ?_))))))
  dsimp only
  rw [hx1]
  show wpAny _ _ (getAttrByItsOwn _ _ _ _ _ _) _ _ _
  unfold getAttrByItsOwn
  refine wpAny_bind (L2.at ?_)
  repeat (any_goals (first | assumption | wp_step))
  have ha := PySem.F.args_bexc_ga (.ref e) (.str (Str.ofString "kind") t)
  refine codeAny_call_builtin FB.ga.plain PySem.F.entry_bexc_ga ?_
  show wpAny _ _ (checkBuiltinCall "BaseException.__getattribute__" ⟨[.ref e, .str (Str.ofString "kind") t], []⟩) _ _ _
  simp only [checkBuiltinCall, hk, hsplit]
  refine wpAny_bind ?_
  unfold isInstance
  repeat (first | (with_reducible refine wpAny_loadPart_at hx ?_; rw [hc]) | (with_reducible refine wpAny_isSubtype_exc hC ?_; rw [hcB]) | with_reducible refine L3.at ?_ | wp_step)
  show wpAny _ _ (handedOut v) _ _ _
  rw [handedOut_of hh]; exact wpAny_pure h
theorem StaysIn.trans' {a b c : Heap} (h1 : a.StaysIn b) (h2 : b.StaysIn c) : a.StaysIn c := fun x o q => h2 x o (h1 x o q)
theorem caught_F {A₀ : Around} {s' : Shared} {P : Obj → Prop} {g : Heap} {outer : List Env} {a D : Addr} {od : Obj} {name x n : Str} {scope : Scope} {cd : Value} {p : Program} {loose : List Str} {mg mb : Str → Option Value} {np pos : Pos} {b₀ : Stmt} {suite : List Stmt} {rest : List ExceptHandler} {Q : Flow → Shared → Prop}
    (hP : ∀ o v, P o → P (o.mapFields (·.setIfInBounds 1 v))) (hP160 : ∀ o, P o → o.cls = .ref 160)
    (K : Below A₀ h₀ outer h₀) (F : Fr h₀ L g m) (U : g.UpToSlots s'.heap) (R : RaisedF P h₀ (envOf name scope L a cd :: outer) e [(D, od)] s'.heap) (X : (hd.heap_39 w.params).In h₀) (T : TopRead p loose mg mb h₀)
    (ex : nsIn (hd.heap_39 w.params) mainGlobals x = some (some (.ref 160)))
    (k : ∀ h' tk oe vs, Fr h₀ L h' (fun y => if y = n then some (.ref e) else m y) → News h₀ L h' [(e, oe), (D, od)] → P oe → oe.data = .fields vs →
      wpAny (model prog w) ((A₀.deeper (envOf name scope L a cd)).mark (some (.ref e))) (execs (b₀ :: suite) (envOf name scope L a cd))
        (fun f s₄ => wpAny (model prog w) (A₀.deeper (envOf name scope L a cd)) (do bindName (envOf name scope L a cd) n .none; unbindBehindTheSuite (envOf name scope L a cd) n pos) (fun _ s₅ => Q f s₅) E s₄)
        (AsSuiteRaised (model prog w) ((A₀.deeper (envOf name scope L a cd)).mark (some (.ref e))) (envOf name scope L a cd) n pos (notedBy (model prog w) ((A₀.deeper (envOf name scope L a cd)).mark (some (.ref e))) (envOf name scope L a cd) (cameBackBy (model prog w) (A₀.deeper (envOf name scope L a cd)) (envOf name scope L a cd) E)))
        { s' with heap := h', toks := tk })
    (hk : scope.kind = .function := by rfl) (hlo : (envOf name scope L a cd).kindOf n = some .local := by rfl) (hx : (envOf name scope L a cd).kindOf x = some .globalImplicit := by rfl) (hd' : (x == ("__debug__" : Str)) = false := by decide) :
    wpAny (model prog w) (A₀.deeper (envOf name scope L a cd)) (noteFrame (.ref e) (envOf name scope L a cd))
      (fun _ s₂ => wpAny (model prog w) (A₀.deeper (envOf name scope L a cd)) (setFlight (.ref e) none) (fun _ s₃ =>
        wpAny (model prog w) (A₀.deeper (envOf name scope L a cd)) (handleBy (.ref e) (envOf name scope L a cd) (.ExceptHandler (some (.Name x np)) (some n) (b₀ :: suite) pos :: rest)) Q E s₃) E s₂) E s' := by
  obtain ⟨hh, gg, dr, t, os⟩ := s'
  dsimp only at U R k ⊢
  obtain ⟨B, hB, hl, hfl⟩ := R
  have hL : B.get? L = none := by
    obtain ⟨_, ⟨L', _, hf, hn', _⟩, _⟩ := hfl.frames
    obtain rfl : L = L' := Option.some.inj hf
    exact hn'
  refine fd_note_next hP (Around.frames_deeper K.stack) rfl hfl fun h₄ x4 u4 => ?_
  refine fd_clear x4 fun h₅ x5 u5 => ?_
  have hsm₅ := (U.trans u4).trans u5
  have F₅ : Fr h₀ L h₅ m := F.of_stays (StaysIn.trans' hB x5.stays) hsm₅
  have X5 : (Mine.hd.heap_39 w.params).In h₅ := fun b o e => F₅.keep b o (X b o e)
  obtain ⟨nm, q, bs, sn, sub, ab, col, dd, k0, k1, k2, k3, k5, hC⟩ := jf_cls X5
  have x5' := x5
  obtain ⟨_, _, _, oe, vs, TT, oT, ts, hoe, hp, hoed, _⟩ := x5
  refine wpAny_handleBy_cons (codeAny_handlers_test (name_K F₅ X T ex ?_ hk hx hd')) (by intro q; cases q)
  refine wpAny_excMatches_sub_self hC hoe (hP160 _ hp) (by decide +kernel) (codeAny_handlers_suite_as ?_)
  refine fd_clear x5' fun h₆ x6 u6 => ?_
  have F₆ : Fr h₀ L h₆ m := F.of_stays (StaysIn.trans' hB x6.stays) (hsm₅.trans u6)
  have ne₆ : h₀.get? e = none := fresh_of_stays hB x6.newE
  have st6 := x6.stays
  obtain ⟨_, _, _, oe6, vs6, TT6, oT6, ts6, hoe6, hp6, hoed6, _⟩ := x6
  have Nl : News h₀ L h₆ [(D, od)] := fun q hq => ⟨st6 _ _ (hl q hq).1, (fun z => by have := (hl q hq).1; rw [z, hL] at this; cases this), (hl q hq).2⟩
  have N₆ := News.more F₆ Nl hoe6 (fun es n q => by rw [hoed6] at q; cases q) ne₆
  refine stN F₆ N₆ (fun h₇ F₇ N₇ => ?_) hk hlo
  exact k h₇ _ _ _ F₇ N₇ hp6 hoed6
end
end Mine
end PartKG
section PartLR
open PySem PySem.W PySem.Spec PySem.Calls PyProof.Rows
set_option maxRecDepth 100000
set_option maxHeartbeats 8000000
namespace Mine
local macro_rules | `(tactic| k_room) => `(tactic| exact Nat.le_of_ble_eq_true rfl)
local macro_rules | `(tactic| k_mem) => `(tactic| first | assumption | exact List.mem_cons_self | (refine List.mem_cons_of_mem _ ?_; k_mem))
local macro_rules | `(tactic| k_all) => `(tactic| first | assumption | exact List.forall_mem_nil _ | (refine' List.forall_mem_cons.mpr ⟨?a, ?b⟩; (case a => k_ne); (case b => k_all)))
local macro_rules | `(tactic| walk_at "memR") => `(tactic| first | (with_reducible exact List.mem_cons_self) | ((with_reducible refine List.mem_cons_of_mem _ ?_); walk_at "memR"))

theorem menu6 {prog : Program} {w : World} {A : Around} {E : Value → Shared → Prop} {s : Shared} {value slice : PySem.Expr} {l : Addr} {a0 a1 a2 a3 a4 a5 : Int} {t0 t1 t2 t3 t4 t5 : Tok} {c : Nat} {k : Int} {u : Tok} {Q : Value → Shared → Prop} {h₀ : Heap} {L : Addr} {news : List (Addr × Obj)} (N : News h₀ L s.heap news)
    (hm : (l, PySem.W.listOf [.int a0 t0, .int a1 t1, .int a2 t2, .int a3 t3, .int a4 t4, .int a5 t5].toArray c) ∈ news) (h0 : 0 ≤ k) (h1 : k < 6) (h : ∀ n t, n ∈ [a0, a1, a2, a3, a4, a5] → Q (.int n t) s)
    (hs : subscripted slice false (.ref l) (.int k u) = operate [.ref l, .int k u] (getItem (.ref l) (.int k u))) (hg : ∀ r, letTemporaryGo value (.ref l) r = pure ()) :
    wpAny (model prog w) A (subscriptTail value slice (.ref l) (.int k u)) Q E s := by
  have hl := News.isList N hm
  have hk : k = 0 ∨ k = 1 ∨ k = 2 ∨ k = 3 ∨ k = 4 ∨ k = 5 := by omega
  rcases hk with rfl | rfl | rfl | rfl | rfl | rfl
  · exact PyProof.Rows.item_list hl (by decide) (by decide) rfl (h _ _ (by simp)) hs hg
  · exact PyProof.Rows.item_list hl (by decide) (by decide) rfl (h _ _ (by simp)) hs hg
  · exact PyProof.Rows.item_list hl (by decide) (by decide) rfl (h _ _ (by simp)) hs hg
  · exact PyProof.Rows.item_list hl (by decide) (by decide) rfl (h _ _ (by simp)) hs hg
  · exact PyProof.Rows.item_list hl (by decide) (by decide) rfl (h _ _ (by simp)) hs hg
  · exact PyProof.Rows.item_list hl (by decide) (by decide) rfl (h _ _ (by simp)) hs hg
theorem menu7 {prog : Program} {w : World} {A : Around} {E : Value → Shared → Prop} {s : Shared} {value slice : PySem.Expr} {l : Addr} {a0 a1 a2 a3 a4 a5 : Int} {t0 t1 t2 t3 t4 t5 : Tok} {c : Nat} {k : Int} {u : Tok} {Q : Value → Shared → Prop} {h₀ : Heap} {L : Addr} {news : List (Addr × Obj)} (N : News h₀ L s.heap news)
    (hm : (l, PySem.W.listOf [.int a0 t0, .int a1 t1, .int a2 t2, .int a3 t3, .int a4 t4, .int a5 t5, .none].toArray c) ∈ news) (h0 : 0 ≤ k) (h1 : k < 7) (h : ∀ n t, n ∈ [a0, a1, a2, a3, a4, a5] → Q (.int n t) s) (hz : Q .none s)
    (hs : subscripted slice false (.ref l) (.int k u) = operate [.ref l, .int k u] (getItem (.ref l) (.int k u))) (hg : ∀ r, letTemporaryGo value (.ref l) r = pure ()) :
    wpAny (model prog w) A (subscriptTail value slice (.ref l) (.int k u)) Q E s := by
  have hl := News.isList N hm
  have hk : k = 0 ∨ k = 1 ∨ k = 2 ∨ k = 3 ∨ k = 4 ∨ k = 5 ∨ k = 6 := by omega
  rcases hk with rfl | rfl | rfl | rfl | rfl | rfl | rfl
  · exact PyProof.Rows.item_list hl (by decide) (by decide) rfl (h _ _ (by simp)) hs hg
  · exact PyProof.Rows.item_list hl (by decide) (by decide) rfl (h _ _ (by simp)) hs hg
  · exact PyProof.Rows.item_list hl (by decide) (by decide) rfl (h _ _ (by simp)) hs hg
  · exact PyProof.Rows.item_list hl (by decide) (by decide) rfl (h _ _ (by simp)) hs hg
  · exact PyProof.Rows.item_list hl (by decide) (by decide) rfl (h _ _ (by simp)) hs hg
  · exact PyProof.Rows.item_list hl (by decide) (by decide) rfl (h _ _ (by simp)) hs hg
  · exact PyProof.Rows.item_list hl (by decide) (by decide) rfl hz hs hg
local macro_rules | `(tactic| walk_at "subscriptTail List cons BinOp ref int") => `(tactic| (k_here; k_dflt (refine kba_turn (value' := PySem.Expr.Name (PySem.Str.ofString "_") ⟨0,0,0,0⟩) (fun _ => rfl) ?_; refine' menu6 ?N ?M ?a ?b ?_ ?d ?e; (case N => with_reducible assumption); (case M => walk_at "memR"); (case a => exact fmod_lo _ (by decide)); (case b => exact fmod_hi _ (by decide)); (case d => with_unfolding_all rfl); (case e => (intro _; with_unfolding_all rfl)); k_whole); intro n9 t9 hn9; (try k_fold)))
local macro_rules | `(tactic| walk_at "subscriptTail List cons BinOp ref int") => `(tactic| (k_here; k_dflt (refine kba_turn (value' := PySem.Expr.Name (PySem.Str.ofString "_") ⟨0,0,0,0⟩) (fun _ => rfl) ?_; refine' menu7 ?N ?M ?a ?b ?h1 ?h2 ?d ?e; (case N => with_reducible assumption); (case M => walk_at "memR"); (case a => exact fmod_lo _ (by decide)); (case b => exact fmod_hi _ (by decide)); (case d => with_unfolding_all rfl); (case e => (intro _; with_unfolding_all rfl))); (case' h1 => (intro n9 t9 hn9; (try k_fold)))))
theorem lo_of {n : Int} {l : List Int} (h : n ∈ l) (hl : (l.all fun x => decide (0 ≤ x ∧ x < 100000000000000)) = true := by decide +kernel) : 0 ≤ n := (of_decide_eq_true (List.all_eq_true.mp hl n h)).1
theorem hi_of {n : Int} {l : List Int} (h : n ∈ l) (hl : (l.all fun x => decide (0 ≤ x ∧ x < 100000000000000)) = true := by decide +kernel) : n < 100000000000000 := (of_decide_eq_true (List.all_eq_true.mp hl n h)).2
theorem figures_X {n k : Int} {tn tk : Tok} {news : List (Addr × Obj)} {l : List Int} (hn : n ∈ l) (hk0 : 0 ≤ k) (hk1 : k < 5) (hl : (l.all fun x => decide (0 ≤ x ∧ x < 100000000000000)) = true) (hz : (l.all fun x => [0, 1, 2, 3, 4].all fun k => decide ((fig x k).length ≤ 40)) = true) :
    Tell 2 346 [.int n tn, .int k tk] news (fun v news' => ∃ t S, v = .str S t ∧ S = fig n k ∧ S.length ≤ 40 ∧ news' = news) := by
  intro prog w p loose mean mg mb dp un gd cn cs a ccd cl outer A₀ base h₀ L m s Q E B F X N TT hk hd hu hret
  refine figures_ok (lo_of hn hl) (hi_of hn hl) hk0 hk1 prog w p loose mean mg mb dp un gd cn cs a ccd cl outer A₀ base h₀ L m s Q E B F X N TT hk hd hu ?_
  rintro v news' h' tk' ⟨t, rfl, rfl⟩
  refine hret _ _ _ _ ⟨t, _, rfl, rfl, ?_, rfl⟩
  have h5 : k = 0 ∨ k = 1 ∨ k = 2 ∨ k = 3 ∨ k = 4 := by omega
  have h6 := List.all_eq_true.mp hz n hn
  have h7 := List.all_eq_true.mp h6 k (by rcases h5 with rfl | rfl | rfl | rfl | rfl <;> simp)
  exact of_decide_eq_true h7
local macro_rules | `(tactic| walk_at "call ref") => `(tactic| (k_here; (with_reducible show wpAny _ _ (call (Value.ref 346) [Value.int _ _, Value.int _ _]) _ _ _); k_dflt (refine' tell_use2 (figures_X ?b0 ?b2 ?b3 ?b4 ?b5) ?k1 ?k2 ?k3 ?k4 ?k5 ?kA ?k6 ?k7 ?k8 ?_; (case k1 => first | with_reducible assumption | k_asm); (case k2 => first | with_reducible assumption | k_asm); (case k3 => first | with_reducible assumption | k_asm); (case k4 => first | with_reducible assumption | k_asm); (case k5 => first | with_reducible assumption | k_asm); (case kA => exact rfl); (case k6 => first | exact rfl | assumption); (case k7 => exact Nat.le_of_ble_eq_true rfl); (case k8 => exact Nat.le_of_ble_eq_true rfl); (case b0 => assumption); (case b4 => decide +kernel); (case b5 => decide +kernel); (case b2 => exact fmod_lo _ (by decide)); (case b3 => first | exact fmod_hi _ (by decide) | exact Int.lt_trans (fmod_hi _ (by decide)) (by decide)); intro v9 n9 h9 tk9 hP9 F9 N9; obtain ⟨t9, S9, e9, hS9, hl9, e9'⟩ := hP9; subst e9; subst e9'; (try k_sweep); (try dsimp only); (try k_fold))))

theorem sz_text {A B : Str} {k : Int} (ha : A.length ≤ 40) (hb : B.length ≤ 40) (hk : k < 2) : (Str.ofString "a{" ++ A ++ Str.ofString "," ++ B ++ Str.ofString "}").length + (Txt.mul (Str.ofString "?") k).length ≤ sizeLine := by
  have q1 := PyProof.Rows.len_mul_leN (x := Str.ofString "?") (n := k) (L := 1) (N := 1) (by decide +kernel) (Int.le_of_lt_add_one hk)
  have q2 : (Str.ofString "a{").length = 2 := by decide +kernel
  have q3 : (Str.ofString ",").length = 1 := by decide +kernel
  have q4 : (Str.ofString "}").length = 1 := by decide +kernel
  simp only [PySem.Str.length_append, PySem.sizeLine_eq, q2, q3, q4]
  omega
local macro_rules | `(tactic| walk_at "binaryOp Add str str") => `(tactic| (k_here; (with_reducible show wpAny _ _ (binaryOp _ (Value.str _ _) (Value.str (Txt.mul _ _) _)) _ _ _); k_dflt ((refine SBL.add (hsz := ?hsz) ?_); (case hsz => (refine sz_text ?h1 ?h2 ?h3; (case h1 => assumption); (case h2 => first | assumption | decide +kernel); (case h3 => exact fmod_hi _ (by decide)))); intro _ _ _)))
theorem stopAt {P : Prop} (h : Later P) : P := h
theorem goOn {P : Prop} (h : P) : Later P := h
local macro_rules | `(tactic| walk_at "call ref") => `(tactic| (k_here; (with_reducible show wpAny _ _ (call (Value.ref 339) _) _ _ _); refine stopAt ?_))
theorem fn_same {K : Frag} {a : Addr} {P : Prop} {oc oc' : Value} {od od' : Option Addr} {osl osl' : Array (Option Value)} {name qual name' qual' : Str} {params params' : Arguments} {body body' : List Stmt} {scope scope' : Scope} {dV kV doc pm cd ct dV' kV' doc' pm' cd' ct' : Value} {an an' : Option Addr}
    (h1 : K.lookup a = some ⟨oc, od, .func (fnOf name qual params body scope dV kV doc pm an cd ct), osl⟩) (h2 : K.lookup a = some ⟨oc', od', .func (fnOf name' qual' params' body' scope' dV' kV' doc' pm' an' cd' ct'), osl'⟩) (h : body = body' → scope = scope' → P) : P := by
  rw [h1] at h2
  injection h2 with h2
  injection h2 with _ _ h3 _
  injection h3 with h4
  have e1 : body = body' := FuncBody.stmts.inj (congrArg (fun f => f.body) h4)
  have e2 : scope = scope' := congrArg (fun f => f.scope) h4
  exact h e1 e2
local macro_rules | `(tactic| walk_at "getAttr ref") => `(tactic| (k_here; (with_reducible show wpAny _ _ (getAttr (Value.ref _) (Str.ofString "kind") _) _ _ _); k_dflt (refine' jf_get ?F ?X ?N ?he ?hD ?hc ?hd ?hdt ?hl ?hh ?_; (case F => with_reducible assumption); (case X => with_reducible assumption); (case N => with_reducible assumption); (case hc => assumption); (case hd => assumption); (case hdt => assumption); (case hl => assumption); (case hh => exact rfl); (case he => k_mem); (case hD => k_mem); k_whole)))
theorem law_rest {prog : Program} {w : World} {p : Program} {loose : List Str} {mean : ExcName → Option Value} {mg mb : Str → Option Value} {fa L D : Addr} {cdv : Value} {h₀ : Heap} {m : Str → Option Value} {c0 c1 c2 c3 c4 : Int} {t0 t1 t2 t3 t4 : Tok} {s : Shared} {Q : Flow → Shared → Prop} {E : Value → Shared → Prop}
    {oc : Value} {od : Option Addr} {osl : Array (Option Value)} {name qual : Str} {params : Arguments} {body : List Stmt} {scope : Scope} {dV kV doc pm cd ct : Value} {an : Option Addr}
    (hK : (hd.heap_39 w.params).lookup 353 = some ⟨oc, od, .func (fnOf name qual params body scope dV kV doc pm an cd ct), osl⟩)
    (B : Below callerA h₀ [] h₀) (F : Fr h₀ L s.heap (fun y => if y = Str.ofString "cells" then some (.ref D) else m y)) (X : (hd.heap_39 w.params).In h₀) (N : News h₀ L s.heap [(D, PySem.W.listOf [.int c0 t0, .int c1 t1, .int c2 t2, .int c3 t3, .int c4 t4].toArray 0)]) (T : Top p loose mean mg mb h₀)
    (hQ : ∀ h' tk m', Fr h₀ L h' m' → Q (.ret (.bool true)) { s with heap := h', toks := tk }) :
    wpAny (model prog w) (callerA.deeper (envOf (Str.ofString "law") scope L fa cdv)) (execs (body.drop 1) (envOf (Str.ofString "law") scope L fa cdv)) Q E s := by
  refine' fn_same hK ?hK2 ?_
  case hK2 => k_dflt k_is
  intro hb hs
  subst hb; subst hs
  clear hK
  show wpAny _ _ (execs (_ :: _) _) _ _ _
  k_steps
  rotate_left
  · refine goOn ?_
    refine' lparse_A ?zF ?zX ?zN ?zT ?zB ?zA ?zhk ?zn ?zP ?zh1 ?za ?zb ?ze ?zf ?_
    case zF => with_reducible assumption
    case zX => with_reducible assumption
    case zN => with_reducible assumption
    case zT => with_reducible assumption
    case zB => with_reducible assumption
    case zA => exact rfl
    case zhk => exact rfl
    case zn => assumption
    case zP => decide
    case zh1 => assumption
    case za => exact fmod_lo _ (by decide)
    case zb => exact fmod_hi _ (by decide)
    case ze => exact fmod_lo _ (by decide)
    case zf => exact fmod_hi _ (by decide)
    intro D9 E91 E92 E93 E98 t90 t91 t93 t94 t96 t97 t98 t99 h9 tk9 F9 N9
    try dsimp only
    try k_fold
    k_steps
    all_goals exact hQ _ _ _ (by with_reducible assumption)
  · refine goOn ?_
    refine' lparse_B ?zF ?zX ?zN ?zT ?zB ?zA ?zhk ?zn ?zo ?zP ?zh1 ?zh2 ?za ?zb ?zc ?zd ?ze ?zf ?_ ?_
    case zF => with_reducible assumption
    case zX => with_reducible assumption
    case zN => with_reducible assumption
    case zT => with_reducible assumption
    case zB => with_reducible assumption
    case zA => exact rfl
    case zhk => exact rfl
    case zn => assumption
    case zo => assumption
    case zP => decide
    case zh1 => assumption
    case zh2 => assumption
    case za => exact fmod_lo _ (by decide)
    case zb => exact fmod_hi _ (by decide)
    case zc => exact fmod_lo _ (by decide)
    case zd => exact fmod_hi _ (by decide)
    case ze => exact fmod_lo _ (by decide)
    case zf => exact fmod_hi _ (by decide)
    rotate_left
    · intro hle9 D9 E91 E92 E93 E98 t90 t91 t93 t94 t95 t96 t97 t98 t99 h9 tk9 F9 N9
      try dsimp only
      try k_fold
      k_steps
      all_goals exact hQ _ _ _ (by with_reducible assumption)
    intro hlt9
    refine goOn ?_
    refine' lparse_F ?zF ?zX ?zN ?zT ?zB ?zA ?zhk ?zn ?zo ?zP ?zh1 ?zh2 ?za ?zb ?zc ?zd ?ze ?zf hlt9 ?_
    case zF => with_reducible assumption
    case zX => with_reducible assumption
    case zN => with_reducible assumption
    case zT => with_reducible assumption
    case zB => with_reducible assumption
    case zA => exact rfl
    case zhk => exact rfl
    case zn => assumption
    case zo => assumption
    case zP => decide
    case zh1 => assumption
    case zh2 => assumption
    case za => exact fmod_lo _ (by decide)
    case zb => exact fmod_hi _ (by decide)
    case zc => exact fmod_lo _ (by decide)
    case zd => exact fmod_hi _ (by decide)
    case ze => exact fmod_lo _ (by decide)
    case zf => exact fmod_hi _ (by decide)
    intro g9 h9 e9 D9 od9 t9 tk9 hl9 F9 U9 R9
    try dsimp only
    try k_fold
    refine' caught_F pj_keep ?q0 ?q1 ?q2 ?q3 ?q4 ?q5 ?q6 ?q7 ?_
    case q2 => with_reducible assumption
    case q1 => with_reducible assumption
    case q0 => exact fun o h => h.1
    case q3 => with_reducible assumption
    case q4 => exact R9
    case q5 => with_reducible assumption
    case q6 => exact topRead_of (by with_reducible assumption)
    case q7 => k_is
    intro h8 tk8 oe8 vs8 F8 N8 hp8 hd8
    obtain ⟨hp81, hp82⟩ := hp8
    try k_sweep
    k_steps
    all_goals rw [decide_eq_true hlt9]
    all_goals exact hQ _ _ _ (by with_reducible assumption)
end Mine
end PartLR
section PartLX
open PySem PySem.W PySem.Spec PySem.Calls PyProof.Rows
set_option maxRecDepth 100000
set_option maxHeartbeats 8000000
namespace Mine
theorem ints5 {ws : List Value} {a b c d e : Int} (h : IntsAre ws [a, b, c, d, e]) : ∃ ta tb tc td te, ws = [.int a ta, .int b tb, .int c tc, .int d td, .int e te] := by
  cases h with | cons _ _ h => cases h with | cons _ _ h => cases h with | cons _ _ h => cases h with | cons _ _ h => cases h with | cons _ _ h => cases h with | nil => exact ⟨_, _, _, _, _, rfl⟩
theorem five_of {ns : List Int} : ∃ a b c d e : Int, List.take 5 ns ++ List.drop ((((List.take 5 ns).length : Nat) : Int)).toNat [2, 1, 4, 0, 0] = [a, b, c, d, e] := by
  rcases ns with _ | ⟨a, _ | ⟨b, _ | ⟨c, _ | ⟨d, _ | ⟨e, r⟩⟩⟩⟩⟩
  · exact ⟨_, _, _, _, _, rfl⟩
  · exact ⟨_, _, _, _, _, rfl⟩
  · exact ⟨_, _, _, _, _, rfl⟩
  · exact ⟨_, _, _, _, _, rfl⟩
  · exact ⟨_, _, _, _, _, rfl⟩
  · exact ⟨a, b, c, d, e, rfl⟩
theorem five_ints {ws : List Value} {ns : List Int} (h : IntsAre ws (List.take 5 ns ++ List.drop ((((List.take 5 ns).length : Nat) : Int)).toNat [2, 1, 4, 0, 0])) :
    ∃ (a b c d e : Int) (ta tb tc td te : Tok), ws = [.int a ta, .int b tb, .int c tc, .int d td, .int e te] := by
  obtain ⟨a, b, c, d, e, h5⟩ := five_of (ns := ns)
  rw [h5] at h
  obtain ⟨ta, tb, tc, td, te, h6⟩ := ints5 h
  exact ⟨a, b, c, d, e, ta, tb, tc, td, te, h6⟩
theorem news_first {h₀ h : Heap} {L : Addr} {p : Addr × Obj} {rest : List (Addr × Obj)} (N : News h₀ L h (p :: rest)) : News h₀ L h [p] := fun q hq => N q (List.mem_singleton.mp hq ▸ .head _)
theorem law_rest2 {prog : Program} {w : World} {p : Program} {loose : List Str} {mean : ExcName → Option Value} {mg mb : Str → Option Value} {fa L D : Addr} {cdv : Value} {h₀ : Heap} {m : Str → Option Value} {ns : List Int} {ws : List Value} {rest : List (Addr × Obj)} {s : Shared} {Q : Flow → Shared → Prop} {E : Value → Shared → Prop}
    {oc : Value} {od : Option Addr} {osl : Array (Option Value)} {name qual : Str} {params : Arguments} {body tl : List Stmt} {scope : Scope} {dV kV doc pm cd ct : Value} {an : Option Addr}
    (B : Below callerA h₀ [] h₀) (F : Fr h₀ L s.heap (fun y => if y = Str.ofString "cells" then some (.ref D) else m y)) (X : (hd.heap_39 w.params).In h₀) (N : News h₀ L s.heap ((D, PySem.W.listOf ws.toArray 0) :: rest)) (T : Top p loose mean mg mb h₀)
    (hI : IntsAre ws (List.take 5 ns ++ List.drop ((((List.take 5 ns).length : Nat) : Int)).toNat [2, 1, 4, 0, 0]))
    (hK : (hd.heap_39 w.params).lookup 353 = some ⟨oc, od, .func (fnOf name qual params body scope dV kV doc pm an cd ct), osl⟩) (htl : body.drop 1 = tl)
    (hQ : ∀ h' tk m', Fr h₀ L h' m' → Q (.ret (.bool true)) { s with heap := h', toks := tk }) :
    wpAny (model prog w) (callerA.deeper (envOf (Str.ofString "law") scope L fa cdv)) (execs tl (envOf (Str.ofString "law") scope L fa cdv)) Q E s := by
  subst htl
  obtain ⟨c0, c1, c2, c3, c4, t0, t1, t2, t3, t4, rfl⟩ := five_ints hI
  exact law_rest hK B F X (news_first N) T hQ
end Mine
end PartLX
open PySem PySem.W PySem.Spec PySem.Calls PyProof.Rows
set_option maxRecDepth 100000 in
set_option maxHeartbeats 8000000 in
theorem PySem.Challenge.cw_rg0179_01_holds : PySem.Challenge.rw_rg0179_01.Holds := by
  w_on
  o_law
  refine holds_open (q := Mine.hd.view_39) (loose := [Str.ofString "LETTERS", Str.ofString "PARTS", Str.ofString "CONTROLS", Str.ofString "PLAIN"]) (Xt := fun s => xlAt Mine.hd.view_39 [] s && recOk (RowW.records PySem.Challenge.rw_rg0179_01.row.toRowW) s) (XP := XL Mine.hd.view_39 []) (Yf := Hook.obs (kHook Mine.hd.heap_39 [2, 3, 151, 153, 154, 156, 157, 158, 159, 160, 161, 164, 165, 166, 167, 168, 169, 170, 171, 172, 173, 174, 175, 176, 177, 178, 179, 181, 182, 184, 185, 186, 188, 189, 191, 192, 193, 195, 196, 198, 199, 207, 209, 210, 212, 213, 214, 216, 217, 219, 220, 221, 223, 224, 226, 227, 228, 230, 231, 233, 234, 235, 237, 238, 240, 241, 242, 244, 245, 247, 248, 249, 251, 252, 254, 255, 256, 263, 265, 266, 268, 269, 270, 272, 273, 275, 276, 277, 279, 280, 282, 283, 284, 286, 287, 289, 290, 327, 328, 329, 330, 333, 335, 336, 338, 339, 340, 342, 343, 345, 346, 347, 349, 350, 352, 353] (fun _ => by kernel_rfl))) (Ya := Hook.val (kHook Mine.hd.heap_39 [2, 3, 151, 153, 154, 156, 157, 158, 159, 160, 161, 164, 165, 166, 167, 168, 169, 170, 171, 172, 173, 174, 175, 176, 177, 178, 179, 181, 182, 184, 185, 186, 188, 189, 191, 192, 193, 195, 196, 198, 199, 207, 209, 210, 212, 213, 214, 216, 217, 219, 220, 221, 223, 224, 226, 227, 228, 230, 231, 233, 234, 235, 237, 238, 240, 241, 242, 244, 245, 247, 248, 249, 251, 252, 254, 255, 256, 263, 265, 266, 268, 269, 270, 272, 273, 275, 276, 277, 279, 280, 282, 283, 284, 286, 287, 289, 290, 327, 328, 329, 330, 333, 335, 336, 338, 339, 340, 342, 343, 345, 346, 347, 349, 350, 352, 353] (fun _ => by kernel_rfl))) (YP := Hook.says (kHook Mine.hd.heap_39 [2, 3, 151, 153, 154, 156, 157, 158, 159, 160, 161, 164, 165, 166, 167, 168, 169, 170, 171, 172, 173, 174, 175, 176, 177, 178, 179, 181, 182, 184, 185, 186, 188, 189, 191, 192, 193, 195, 196, 198, 199, 207, 209, 210, 212, 213, 214, 216, 217, 219, 220, 221, 223, 224, 226, 227, 228, 230, 231, 233, 234, 235, 237, 238, 240, 241, 242, 244, 245, 247, 248, 249, 251, 252, 254, 255, 256, 263, 265, 266, 268, 269, 270, 272, 273, 275, 276, 277, 279, 280, 282, 283, 284, 286, 287, 289, 290, 327, 328, 329, 330, 333, 335, 336, 338, 339, 340, 342, 343, 345, 346, 347, 349, 350, 352, 353] (fun _ => by kernel_rfl))) (N := 4190) Mine.hleft (Hook.of _) (Hook.keeps _) (fun s e => xl_of s (Bool.and_eq_true_iff.mp e).1) XL.keeps (by rfl) (by rfl) (by rfl) (fun s e => recFacts_of (Bool.and_eq_true_iff.mp e).2) (by rfl) (by first | assumption | decide +kernel) (by decide +kernel) ⟨rfl, rfl, rfl, rfl, rfl, by decide +kernel⟩ ?hw ?hc
  case hw => w_witness2
  case hc =>
    k_go0
    all_goals (try k_fold)
    iterate 49 (first | (k_unfold; (try dsimp only)) | (k_end; kc_close) | walk1 | (dsimp only; walk1) | (leave1; walk_say "STEP leave1"; (try dsimp only)))
    k_dflt (refine kba_turn (value' := PySem.Expr.Name (PySem.Str.ofString "_") ⟨0, 0, 0, 0⟩) (fun _ => rfl) ?_)
    (k_dflt (refine' kmk_slice_ints ?uF9 ?uN9 ?ul9 ?up9 ?uq9 ?ui9 ?um9 ?uc9 ?_ ?us9 ?ut9 ?uz9; (case uF9 => k_asm); (case uN9 => k_asm); (case ul9 => kmk_list); (case up9 => kmk_part); (case uq9 => kmk_part); (case ui9 => l_ints); (case um9 => exact kmk_from (by l_ints) (Int.natCast_nonneg _)); (case uc9 => kmk_len); (case us9 => with_unfolding_all rfl); (case ut9 => kmk_pure); (case uz9 => kmk_size)); intro D' ws' h' F' N' l1 hI' hC' hL'; (try k_lt l1); (try k_sweep))
    iterate 2 (first | (k_unfold; (try dsimp only)) | (k_end; kc_close) | walk1 | (dsimp only; walk1) | (leave1; walk_say "STEP leave1"; (try dsimp only)))
    refine' Mine.law_rest2 ?vB9 ?vF9 ?vX9 ?vN9 ?vT9 ?vhI9 ?vhK9 ?vhtl9 ?_
    case vF9 => with_reducible assumption
    case vB9 => assumption
    case vX9 => with_reducible assumption
    case vN9 => with_reducible assumption
    case vT9 => with_reducible assumption
    case vhI9 => with_reducible assumption
    case vhK9 => k_dflt k_is
    case vhtl9 => rfl
    intro h9 tk9 m9 F9
    (try dsimp only)
    k_steps
