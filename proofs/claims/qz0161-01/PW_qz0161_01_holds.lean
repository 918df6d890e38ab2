import PyProof.Rows.All
import Wide.All
import OpenK.AllK
import Wide.FinOn
import PySem.Challenge.RW_qz0161_01
open PySem PySem.W PySem.Spec PySem.Calls PyProof.Rows
set_option Elab.async false
set_option linter.all false
set_option compiler.extract_closed false
set_option maxRecDepth 100000
set_option maxHeartbeats 8000000
namespace Mine
-- h10_tree
/-! the top run on a tree of the heap's things, whole, and looked at once: the library's head in pieces writes each state out, and its twins are over the lid -/
noncomputable def topRunT (tb : String → Option Builtin) (p : Program) (w : World) (n₀ : Nat) (ann : Option Value) : Nat → SharedT → Thread → Option SharedT
  | 0, _, _ => none
  | n + 1, s, t => match through t with
    | true => some s
    | false => match stepOk n₀ ann t with
      | false => none
      | true => match stepT (denote tb) p w s t with
        | some (s', t') => topRunT tb p w n₀ ann n s' t'
        | none => none
theorem topRunT_of {tb : String → Option Builtin} {p : Program} {w : World} {n₀ : Nat} {ann : Option Value} : ∀ {n : Nat} {s s' : SharedT} {t : Thread}, topRunT tb p w n₀ ann n s t = some s' → topRun tb p w n₀ ann n s.abs t = some s'.abs
  | 0, _, _, _, h => by cases h
  | n + 1, s, s', t, h => by
    unfold topRunT at h
    unfold topRun
    cases he : through t with
    | true => rw [he] at h; cases h; rfl
    | false =>
      rw [he] at h
      cases hk : stepOk n₀ ann t with
      | false => rw [hk] at h; cases h
      | true =>
        rw [hk] at h
        cases hs : stepT (denote tb) p w s t with
        | none => rw [hs] at h; cases h
        | some r => obtain ⟨s₂, t₂⟩ := r; rw [hs] at h; dsimp only; rw [stepT_spec hs]; exact topRunT_of h
/-- a tree of the list's things -/
noncomputable def treeL : Nat → List Obj → Nat → Nat → BT
  | 0, _, _, _ => .nil
  | f + 1, l, a, b => match l[b]? with
    | some o => .node o (treeL f l (2 * a) (a + b)) (treeL f l (2 * a) (2 * a + b))
    | none => .nil
noncomputable def bootT (P : Params) : BT := treeL 5 (boot_heap P).objs.toList 1 0
theorem boot_abs (P : Params) : absHeap (bootT P) 11 {} = boot_heap P := by kernel_rfl
/-- the tree's things as a list, laid out before they are looked at -/
noncomputable def layT {α : Type} : Nat → BT → List Obj → (List Obj → α) → Option α
  | 0, _, acc, k => some (k acc)
  | i + 1, T, acc, k => match T.get i with
    | some o => match o with
      | ⟨c, d, dt, sl⟩ => layT i T (⟨c, d, dt, sl⟩ :: acc) k
    | none => none
theorem layT_of {α : Type} {k : List Obj → α} {T : BT} {r : α} : ∀ {n : Nat} {acc : List Obj}, layT n T acc k = some r → r = k (T.list n ++ acc)
  | 0, acc, h => by
    cases h
    rfl
  | n + 1, acc, h => by
    unfold layT at h
    cases e : T.get n with
    | none => rw [e] at h; cases h
    | some o =>
      rw [e] at h
      obtain ⟨c, d, dt, sl⟩ := o
      rw [layT_of h]
      unfold BT.list
      rw [List.range_succ, List.map_append, List.append_assoc, List.map_singleton, e]
      rfl
noncomputable abbrev bootS (w : World) (os : OsState) : SharedT := ⟨bootT w.params, 11, {}, Array.mk [], boot_drawn, boot_toks, os⟩
noncomputable def seeT {α : Type} (f : World → Shared → α) (p : Program) (n₀ : Nat) (ann : Option Value) (N : Nat) (w : World) : OsState → Option α := fun os =>
  (topRunT treeTable p w n₀ ann N (bootS w os) (topStub p)).bind fun s => layT s.n s.tree [] fun l => f w ⟨⟨l.toArray, s.life⟩, s.gens, s.drawn, s.toks, s.os⟩
theorem seeT_of {α : Type} {f : World → Shared → α} {p : Program} {n₀ : Nat} {ann : Option Value} {N : Nat} {w : World} {os : OsState} {r : α} (h : seeT f p n₀ ann N w os = some r) :
    ∃ s, topRun treeTable p w n₀ ann N ⟨boot_heap w.params, Array.mk [], boot_drawn, boot_toks, os⟩ (topStub p) = some s ∧ f w s = r := by
  obtain ⟨s, hs, hl⟩ := Option.bind_eq_some_iff.mp h
  refine ⟨s.abs, ?_, ?_⟩
  · have := topRunT_of hs
    unfold bootS SharedT.abs at this
    rw [boot_abs] at this
    exact this
  · have e := layT_of hl
    rw [List.append_nil] at e
    exact e.symm
theorem left_of_seeT {p q : Program} {loose : List Str} {Xt : Shared → Bool} {α : Type} {Yf : Shared → α} {Ya : World → α} {N : Nat} {g0 : Bool} {n₀ : Nat} {ann : Option Value} {fA : World → Shared → Bool × _}
    (open_ : ∀ w : World, (fencedOpening treeTable p w N).map (fun s => (s.heap, s.gens, s.drawn, s.toks)) = some (boot_heap w.params, Array.mk [], boot_drawn, boot_toks))
    (size : ∀ w : World, ((boot_heap w.params).isNs mainGlobals && (Array.mk [] : Array GenState).size == 0, (boot_heap w.params).objs.size, (boot_heap w.params).nsMap mainGlobals "__annotations__") = (true, n₀, ann))
    (hf : ∀ w s, fA w s = (staticsOk (importedModules p.main.body) (boot_heap w.params) s.heap && namesBound p s.heap && gensDone s && laidKept (boot_heap w.params) s.heap, openSeen q loose (importedModules p.main.body) Xt g0 s))
    (a : ∀ w, seeT fA p n₀ ann N w = fun _ => some (true, openGood q loose)) {β : Type} {fB : World → Shared → β} {gB : World → β} (b : ∀ w, seeT fB p n₀ ann N w = fun _ => some (gB w)) (hb : ∀ w s, fB w s = gB w → Yf s = Ya w) : LeftO p q loose Xt Yf Ya N g0 := fun w => by
  obtain ⟨⟨h, gs, d, k, os⟩, e, e'⟩ := Option.map_eq_some_iff.mp (open_ w)
  obtain ⟨rfl, rfl, rfl, rfl⟩ : h = boot_heap w.params ∧ gs = Array.mk [] ∧ d = boot_drawn ∧ k = boot_toks := by simpa using e'
  obtain ⟨z1, z2, z3⟩ : _ ∧ _ ∧ _ := by simpa only [Prod.mk.injEq] using size w
  obtain ⟨s, r, l⟩ := seeT_of (congrFun (a w) os)
  obtain ⟨s', r', y⟩ := seeT_of (congrFun (b w) os)
  rw [r] at r'
  cases r'
  rw [hf] at l
  obtain ⟨l1, l2⟩ : _ ∧ _ := by simpa only [Prod.mk.injEq] using l
  have t : topFrom treeTable p w N ⟨boot_heap w.params, Array.mk [], boot_drawn, boot_toks, os⟩ = some s := by
    unfold topFrom
    dsimp only
    rw [z1, z2, z3, r]
    show (match staticsOk (importedModules p.main.body) (boot_heap w.params) s.heap && namesBound p s.heap && gensDone s && laidKept (boot_heap w.params) s.heap with | true => _ | false => _) = _
    rw [l1]
  unfold openEnds
  rw [e]
  show (topFrom treeTable p w N _).map _ = _
  rw [t]
  exact congrArg some (Prod.ext l2 (hb w s y))
-- h11_k
/-! the things that the law's call can come to, as they stand at the end of the top; a function's parts are taken from the row's own term -/
def topSt (i : Nat) : Option Stmt := PySem.Challenge.pw_qz0161_01.main.body[i]?
def inSt (i j : Nat) : Option Stmt := match topSt i with
  | some (.ClassDef _ _ _ b ..) => b[j]?
  | _ => none
def fnRef (st : Option Stmt) (qual : Str) (dV pm cd : Value) : Option Obj := match st with
  | some (.FunctionDef n ps b _ _ _ sc ..) => some { cls := .type "function", data := .func { name := n, qualname := qual, params := ps, body := .stmts b, scope := sc, globals := 3, closure := [], defaults := dV, kwdefaults := .none, pyModule := pm, code := cd } }
  | _ => none
abbrev dE (P : Params) (n : Str) (t : Tok) (v : Value) : DictEntry := { hash := PyData.keyHash P n, key := .str n t, val := v }
abbrev litOf {α : Type} {b : α} {o : Option α} (_ : o = some b) : α := b
noncomputable def o2 (P : Params) : Obj := ⟨.none, none, .dict #[dE P (Str.ofString "type.__subclasses__.Exception.0") 221 (.int 38 0), dE P (Str.ofString "type.__subclasses__.Exception.n") 222 (.int 1 0)] 2, #[]⟩
noncomputable def o3 (P : Params) : Obj := ⟨(.type "dict"), none, .dict #[dE P (Str.ofString "__name__") 165 (.str (Str.ofString "law_qz0161_01") 608), dE P (Str.ofString "__doc__") 166 .none, dE P (Str.ofString "__package__") 167 .none, dE P (Str.ofString "__loader__") 168 (.builtin "__main__.__loader__#opaque"), dE P (Str.ofString "__spec__") 169 .none, dE P (Str.ofString "__annotations__") 170 (.ref 6), dE P (Str.ofString "__builtins__") 171 (.ref 4), dE P (Str.ofString "__file__") 173 (.str (Str.ofString "/claim/cut.py") 172), dE P (Str.ofString "__cached__") 174 .none, dE P (Str.ofString "_wall") 193 (.ref 21), dE P (Str.ofString "StackError") 224 (.ref 38), dE P (Str.ofString "FormError") 240 (.ref 51), dE P (Str.ofString "SizeError") 256 (.ref 63), dE P (Str.ofString "put16") 265 (.ref 72), dE P (Str.ofString "put32") 272 (.ref 79), dE P (Str.ofString "need") 281 (.ref 86), dE P (Str.ofString "get16") 289 (.ref 93), dE P (Str.ofString "get32") 297 (.ref 100), dE P (Str.ofString "ALL_ONES") 301 (.int 65535 300), dE P (Str.ofString "fold") 308 (.ref 107), dE P (Str.ofString "ones_sum") 320 (.ref 115), dE P (Str.ofString "checksum") 329 (.ref 123), dE P (Str.ofString "VERSION") 333 (.int 4 332), dE P (Str.ofString "LEAST_HEAD") 335 (.int 20 334), dE P (Str.ofString "MOST_HEAD") 337 (.int 60 336), dE P (Str.ofString "MOST_TOTAL") 339 (.int 65535 338), dE P (Str.ofString "DONT_BIT") 341 (.int 16384 340), dE P (Str.ofString "MORE_BIT") 343 (.int 8192 342), dE P (Str.ofString "PLACE_BITS") 345 (.int 8191 344), dE P (Str.ofString "TTL_PLACE") 347 (.int 8 346), dE P (Str.ofString "IpHeader") 437 (.ref 176), dE P (Str.ofString "is_within") 445 (.ref 187), dE P (Str.ofString "check_fields") 453 (.ref 194), dE P (Str.ofString "check_size") 461 (.ref 201), dE P (Str.ofString "flags_of") 469 (.ref 208), dE P (Str.ofString "pack_ip") 482 (.ref 215), dE P (Str.ofString "head_size") 490 (.ref 222), dE P (Str.ofString "unpack_ip") 502 (.ref 229), dE P (Str.ofString "LEAST_HEADER") 506 (.int 20 505), dE P (Str.ofString "about") 517 (.ref 236), dE P (Str.ofString "UNREACHABLE") 521 (.int 3 520), dE P (Str.ofString "SOURCE_QUENCH") 523 (.int 4 522), dE P (Str.ofString "REDIRECT") 525 (.int 5 524), dE P (Str.ofString "EXCEEDED") 527 (.int 11 526), dE P (Str.ofString "PROBLEM") 529 (.int 12 528), dE P (Str.ofString "IcmpMessage") 600 (.ref 288), dE P (Str.ofString "is_error_kind") 607 (.ref 299), dE P (Str.ofString "_law_pool") 620 (.ref 306), dE P (Str.ofString "_law_take") 629 (.ref 313), dE P (Str.ofString "_law_one") 637 (.ref 320), dE P (Str.ofString "_law_told") 647 (.ref 327), dE P (Str.ofString "_law_right") 661 (.ref 334), dE P (Str.ofString "law") 667 (.ref 339)] 53, #[]⟩
noncomputable def o20 (_P : Params) : Obj := ⟨(.type "code"), none, .fields #[(.str (Str.ofString "_wall") 187), (.str (Str.ofString "_wall") 188), (.str (Str.ofString "/claim/cut.py") 189), (.int 1 0), (.int 1 0), (.int 0 0), (.int 0 0), (.int 3 0), (.ref 15), (.bool true), (.int 181 0), (.ref 16), .none, (.ref 17), (.ref 18), (.ref 19), (.int 191 0), (.int 1 0), (.str (Str.ofString "/claim/cut.py") 192)], #[]⟩
noncomputable def o21 : Option Obj := fnRef (topSt 0) (Str.ofString "_wall") .none (.str (Str.ofString "__main__") 164) (.ref 20)
noncomputable def o22 (_P : Params) : Obj := ⟨(.type "tuple"), none, .seq #[(.type "Exception")] 0, #[]⟩
noncomputable def o34 (_P : Params) : Obj := ⟨(.type "code"), none, .fields #[(.str (Str.ofString "__init__") 208), (.str (Str.ofString "StackError.__init__") 209), (.str (Str.ofString "/claim/cut.py") 210), (.int 7 0), (.int 2 0), (.int 0 0), (.int 0 0), (.int 3 0), (.ref 29), (.bool true), (.int 181 0), (.ref 30), .none, (.ref 31), (.ref 32), (.ref 33), (.int 213 0), (.int 7 0), (.str (Str.ofString "/claim/cut.py") 214)], #[]⟩
noncomputable def o35 : Option Obj := fnRef (inSt 2 0) (Str.ofString "StackError.__init__") .none (.str (Str.ofString "thinstack.errors") 194) (.ref 34)
noncomputable def o36 (_P : Params) : Obj := ⟨(.type "tuple"), none, .seq #[(.str (Str.ofString "message") 216)] 0, #[]⟩
noncomputable def o37 (P : Params) : Obj := ⟨(.type "dict"), none, .dict #[dE P (Str.ofString "__module__") 203 (.str (Str.ofString "thinstack.errors") 194), dE P (Str.ofString "__firstlineno__") 207 (.int 5 206), dE P (Str.ofString "__init__") 215 (.ref 35), dE P (Str.ofString "__static_attributes__") 217 (.ref 36), dE P (Str.ofString "__weakref__") 219 (.ref 39), dE P (Str.ofString "__doc__") 220 .none] 3, #[]⟩
noncomputable def o38 (_P : Params) : Obj := ⟨(.type "type"), none, .cls ⟨(Str.ofString "StackError"), [(.type "Exception")], [(.ref 38), (.type "Exception"), (.type "BaseException"), (.type "object")], 37, (Str.ofString "StackError"), true, [], [(.ref 51), (.ref 63)], false, none, false⟩, #[some (.ref 22), none, some (.str (Str.ofString "StackError") 196), some (.str (Str.ofString "StackError") 204), some (.builtin "Exception.__new__"), some (.bool true)]⟩
noncomputable def o39 (_P : Params) : Obj := ⟨(.type "getset_descriptor"), none, .fields #[(.str (Str.ofString "__weakref__") 218), (.ref 38), (.builtin "ExceptionGroup.__weakref__"), .none], #[]⟩
noncomputable def o42 (_P : Params) : Obj := ⟨(.type "tuple"), none, .seq #[(.ref 38)] 0, #[]⟩
noncomputable def o49 (_P : Params) : Obj := ⟨(.type "tuple"), none, .seq #[] 0, #[]⟩
noncomputable def o50 (P : Params) : Obj := ⟨(.type "dict"), none, .dict #[dE P (Str.ofString "__module__") 232 (.str (Str.ofString "thinstack.errors") 194), dE P (Str.ofString "__firstlineno__") 236 (.int 9 235), dE P (Str.ofString "__static_attributes__") 237 (.ref 49), dE P (Str.ofString "__doc__") 238 .none] 2, #[]⟩
noncomputable def o51 (_P : Params) : Obj := ⟨(.type "type"), none, .cls ⟨(Str.ofString "FormError"), [(.ref 38)], [(.ref 51), (.ref 38), (.type "Exception"), (.type "BaseException"), (.type "object")], 50, (Str.ofString "FormError"), true, [], [], false, none, false⟩, #[some (.ref 42), none, some (.str (Str.ofString "FormError") 225), some (.str (Str.ofString "FormError") 233), some (.builtin "Exception.__new__"), some (.bool true)]⟩
noncomputable def o54 (_P : Params) : Obj := ⟨(.type "tuple"), none, .seq #[(.ref 38)] 0, #[]⟩
noncomputable def o61 (_P : Params) : Obj := ⟨(.type "tuple"), none, .seq #[] 0, #[]⟩
noncomputable def o62 (P : Params) : Obj := ⟨(.type "dict"), none, .dict #[dE P (Str.ofString "__module__") 248 (.str (Str.ofString "thinstack.errors") 194), dE P (Str.ofString "__firstlineno__") 252 (.int 11 251), dE P (Str.ofString "__static_attributes__") 253 (.ref 61), dE P (Str.ofString "__doc__") 254 .none] 2, #[]⟩
noncomputable def o63 (_P : Params) : Obj := ⟨(.type "type"), none, .cls ⟨(Str.ofString "SizeError"), [(.ref 38)], [(.ref 63), (.ref 38), (.type "Exception"), (.type "BaseException"), (.type "object")], 62, (Str.ofString "SizeError"), true, [], [], false, none, false⟩, #[some (.ref 54), none, some (.str (Str.ofString "SizeError") 241), some (.str (Str.ofString "SizeError") 249), some (.builtin "Exception.__new__"), some (.bool true)]⟩
noncomputable def o71 (_P : Params) : Obj := ⟨(.type "code"), none, .fields #[(.str (Str.ofString "put16") 259), (.str (Str.ofString "put16") 260), (.str (Str.ofString "/claim/cut.py") 261), (.int 14 0), (.int 1 0), (.int 0 0), (.int 0 0), (.int 3 0), (.ref 66), (.bool true), (.int 181 0), (.ref 67), .none, (.ref 68), (.ref 69), (.ref 70), (.int 263 0), (.int 14 0), (.str (Str.ofString "/claim/cut.py") 264)], #[]⟩
noncomputable def o72 : Option Obj := fnRef (topSt 6) (Str.ofString "put16") .none (.str (Str.ofString "thinstack.octets") 257) (.ref 71)
noncomputable def o78 (_P : Params) : Obj := ⟨(.type "code"), none, .fields #[(.str (Str.ofString "put32") 266), (.str (Str.ofString "put32") 267), (.str (Str.ofString "/claim/cut.py") 268), (.int 16 0), (.int 1 0), (.int 0 0), (.int 0 0), (.int 3 0), (.ref 73), (.bool true), (.int 181 0), (.ref 74), .none, (.ref 75), (.ref 76), (.ref 77), (.int 270 0), (.int 16 0), (.str (Str.ofString "/claim/cut.py") 271)], #[]⟩
noncomputable def o79 : Option Obj := fnRef (topSt 7) (Str.ofString "put32") .none (.str (Str.ofString "thinstack.octets") 257) (.ref 78)
noncomputable def o85 (_P : Params) : Obj := ⟨(.type "code"), none, .fields #[(.str (Str.ofString "need") 273), (.str (Str.ofString "need") 274), (.str (Str.ofString "/claim/cut.py") 275), (.int 18 0), (.int 3 0), (.int 0 0), (.int 0 0), (.int 3 0), (.ref 80), (.bool true), (.int 181 0), (.ref 81), .none, (.ref 82), (.ref 83), (.ref 84), (.int 279 0), (.int 18 0), (.str (Str.ofString "/claim/cut.py") 280)], #[]⟩
noncomputable def o86 : Option Obj := fnRef (topSt 8) (Str.ofString "need") .none (.str (Str.ofString "thinstack.octets") 257) (.ref 85)
noncomputable def o92 (_P : Params) : Obj := ⟨(.type "code"), none, .fields #[(.str (Str.ofString "get16") 282), (.str (Str.ofString "get16") 283), (.str (Str.ofString "/claim/cut.py") 284), (.int 21 0), (.int 2 0), (.int 0 0), (.int 0 0), (.int 3 0), (.ref 87), (.bool true), (.int 181 0), (.ref 88), .none, (.ref 89), (.ref 90), (.ref 91), (.int 287 0), (.int 21 0), (.str (Str.ofString "/claim/cut.py") 288)], #[]⟩
noncomputable def o93 : Option Obj := fnRef (topSt 9) (Str.ofString "get16") .none (.str (Str.ofString "thinstack.octets") 257) (.ref 92)
noncomputable def o99 (_P : Params) : Obj := ⟨(.type "code"), none, .fields #[(.str (Str.ofString "get32") 290), (.str (Str.ofString "get32") 291), (.str (Str.ofString "/claim/cut.py") 292), (.int 24 0), (.int 2 0), (.int 0 0), (.int 0 0), (.int 3 0), (.ref 94), (.bool true), (.int 181 0), (.ref 95), .none, (.ref 96), (.ref 97), (.ref 98), (.int 295 0), (.int 24 0), (.str (Str.ofString "/claim/cut.py") 296)], #[]⟩
noncomputable def o100 : Option Obj := fnRef (topSt 10) (Str.ofString "get32") .none (.str (Str.ofString "thinstack.octets") 257) (.ref 99)
noncomputable def o106 (_P : Params) : Obj := ⟨(.type "code"), none, .fields #[(.str (Str.ofString "fold") 302), (.str (Str.ofString "fold") 303), (.str (Str.ofString "/claim/cut.py") 304), (.int 29 0), (.int 1 0), (.int 0 0), (.int 0 0), (.int 3 0), (.ref 101), (.bool true), (.int 181 0), (.ref 102), .none, (.ref 103), (.ref 104), (.ref 105), (.int 306 0), (.int 29 0), (.str (Str.ofString "/claim/cut.py") 307)], #[]⟩
noncomputable def o107 : Option Obj := fnRef (topSt 13) (Str.ofString "fold") .none (.str (Str.ofString "thinstack.sums") 298) (.ref 106)
noncomputable def o108 (_P : Params) : Obj := ⟨(.type "tuple"), none, .seq #[(.int 0 309)] 0, #[]⟩
noncomputable def o114 (_P : Params) : Obj := ⟨(.type "code"), none, .fields #[(.str (Str.ofString "ones_sum") 310), (.str (Str.ofString "ones_sum") 311), (.str (Str.ofString "/claim/cut.py") 312), (.int 33 0), (.int 2 0), (.int 0 0), (.int 0 0), (.int 3 0), (.ref 109), (.bool true), (.int 181 0), (.ref 110), .none, (.ref 111), (.ref 112), (.ref 113), (.int 318 0), (.int 33 0), (.str (Str.ofString "/claim/cut.py") 319)], #[]⟩
noncomputable def o115 : Option Obj := fnRef (topSt 14) (Str.ofString "ones_sum") (.ref 108) (.str (Str.ofString "thinstack.sums") 298) (.ref 114)
noncomputable def o116 (_P : Params) : Obj := ⟨(.type "tuple"), none, .seq #[(.int 0 321)] 0, #[]⟩
noncomputable def o122 (_P : Params) : Obj := ⟨(.type "code"), none, .fields #[(.str (Str.ofString "checksum") 322), (.str (Str.ofString "checksum") 323), (.str (Str.ofString "/claim/cut.py") 324), (.int 41 0), (.int 2 0), (.int 0 0), (.int 0 0), (.int 3 0), (.ref 117), (.bool true), (.int 181 0), (.ref 118), .none, (.ref 119), (.ref 120), (.ref 121), (.int 327 0), (.int 41 0), (.str (Str.ofString "/claim/cut.py") 328)], #[]⟩
noncomputable def o123 : Option Obj := fnRef (topSt 15) (Str.ofString "checksum") (.ref 116) (.str (Str.ofString "thinstack.sums") 298) (.ref 122)
noncomputable def o131 (_P : Params) : Obj := ⟨(.type "tuple"), none, .seq #[(.int 0 360), (.int 64 361), (.int 0 362), (.bool false), (.bool false), (.int 0 363), (.bytes #[] 364)] 0, #[]⟩
noncomputable def o137 (_P : Params) : Obj := ⟨(.type "code"), none, .fields #[(.str (Str.ofString "__init__") 365), (.str (Str.ofString "IpHeader.__init__") 366), (.str (Str.ofString "/claim/cut.py") 367), (.int 54 0), (.int 11 0), (.int 0 0), (.int 0 0), (.int 3 0), (.ref 132), (.bool true), (.int 181 0), (.ref 133), .none, (.ref 134), (.ref 135), (.ref 136), (.int 379 0), (.int 54 0), (.str (Str.ofString "/claim/cut.py") 380)], #[]⟩
noncomputable def o138 : Option Obj := fnRef (inSt 25 0) (Str.ofString "IpHeader.__init__") (.ref 131) (.str (Str.ofString "thinstack.ip_header") 330) (.ref 137)
noncomputable def o144 (_P : Params) : Obj := ⟨(.type "code"), none, .fields #[(.str (Str.ofString "size") 382), (.str (Str.ofString "IpHeader.size") 383), (.str (Str.ofString "/claim/cut.py") 384), (.int 66 0), (.int 1 0), (.int 0 0), (.int 0 0), (.int 3 0), (.ref 139), (.bool true), (.int 181 0), (.ref 140), .none, (.ref 141), (.ref 142), (.ref 143), (.int 386 0), (.int 66 0), (.str (Str.ofString "/claim/cut.py") 387)], #[]⟩
noncomputable def o145 : Option Obj := fnRef (inSt 25 1) (Str.ofString "IpHeader.size") .none (.str (Str.ofString "thinstack.ip_header") 330) (.ref 144)
noncomputable def o151 (_P : Params) : Obj := ⟨(.type "code"), none, .fields #[(.str (Str.ofString "is_fragment") 389), (.str (Str.ofString "IpHeader.is_fragment") 390), (.str (Str.ofString "/claim/cut.py") 391), (.int 69 0), (.int 1 0), (.int 0 0), (.int 0 0), (.int 3 0), (.ref 146), (.bool true), (.int 181 0), (.ref 147), .none, (.ref 148), (.ref 149), (.ref 150), (.int 393 0), (.int 69 0), (.str (Str.ofString "/claim/cut.py") 394)], #[]⟩
noncomputable def o152 : Option Obj := fnRef (inSt 25 2) (Str.ofString "IpHeader.is_fragment") .none (.str (Str.ofString "thinstack.ip_header") 330) (.ref 151)
noncomputable def o158 (_P : Params) : Obj := ⟨(.type "code"), none, .fields #[(.str (Str.ofString "is_first") 396), (.str (Str.ofString "IpHeader.is_first") 397), (.str (Str.ofString "/claim/cut.py") 398), (.int 72 0), (.int 1 0), (.int 0 0), (.int 0 0), (.int 3 0), (.ref 153), (.bool true), (.int 181 0), (.ref 154), .none, (.ref 155), (.ref 156), (.ref 157), (.int 400 0), (.int 72 0), (.str (Str.ofString "/claim/cut.py") 401)], #[]⟩
noncomputable def o159 : Option Obj := fnRef (inSt 25 3) (Str.ofString "IpHeader.is_first") .none (.str (Str.ofString "thinstack.ip_header") 330) (.ref 158)
noncomputable def o165 (_P : Params) : Obj := ⟨(.type "code"), none, .fields #[(.str (Str.ofString "part") 403), (.str (Str.ofString "IpHeader.part") 404), (.str (Str.ofString "/claim/cut.py") 405), (.int 75 0), (.int 4 0), (.int 0 0), (.int 0 0), (.int 3 0), (.ref 160), (.bool true), (.int 181 0), (.ref 161), .none, (.ref 162), (.ref 163), (.ref 164), (.int 410 0), (.int 75 0), (.str (Str.ofString "/claim/cut.py") 411)], #[]⟩
noncomputable def o166 : Option Obj := fnRef (inSt 25 4) (Str.ofString "IpHeader.part") .none (.str (Str.ofString "thinstack.ip_header") 330) (.ref 165)
noncomputable def o172 (_P : Params) : Obj := ⟨(.type "code"), none, .fields #[(.str (Str.ofString "row") 413), (.str (Str.ofString "IpHeader.row") 414), (.str (Str.ofString "/claim/cut.py") 415), (.int 78 0), (.int 1 0), (.int 0 0), (.int 0 0), (.int 3 0), (.ref 167), (.bool true), (.int 181 0), (.ref 168), .none, (.ref 169), (.ref 170), (.ref 171), (.int 417 0), (.int 78 0), (.str (Str.ofString "/claim/cut.py") 418)], #[]⟩
noncomputable def o173 : Option Obj := fnRef (inSt 25 5) (Str.ofString "IpHeader.row") .none (.str (Str.ofString "thinstack.ip_header") 330) (.ref 172)
noncomputable def o174 (_P : Params) : Obj := ⟨(.type "tuple"), none, .seq #[(.str (Str.ofString "dont") 420), (.str (Str.ofString "ident") 421), (.str (Str.ofString "more") 422), (.str (Str.ofString "offset") 423), (.str (Str.ofString "options") 424), (.str (Str.ofString "protocol") 425), (.str (Str.ofString "source") 426), (.str (Str.ofString "target") 427), (.str (Str.ofString "tos") 428), (.str (Str.ofString "ttl") 429)] 0, #[]⟩
noncomputable def o175 (P : Params) : Obj := ⟨(.type "dict"), none, .dict #[dE P (Str.ofString "__module__") 355 (.str (Str.ofString "thinstack.ip_header") 330), dE P (Str.ofString "__firstlineno__") 359 (.int 52 358), dE P (Str.ofString "__init__") 381 (.ref 138), dE P (Str.ofString "size") 388 (.ref 145), dE P (Str.ofString "is_fragment") 395 (.ref 152), dE P (Str.ofString "is_first") 402 (.ref 159), dE P (Str.ofString "part") 412 (.ref 166), dE P (Str.ofString "row") 419 (.ref 173), dE P (Str.ofString "__static_attributes__") 430 (.ref 174), dE P (Str.ofString "__dict__") 432 (.ref 177), dE P (Str.ofString "__weakref__") 434 (.ref 178), dE P (Str.ofString "__doc__") 435 .none] 4, #[]⟩
noncomputable def o176 (_P : Params) : Obj := ⟨(.type "type"), none, .cls ⟨(Str.ofString "IpHeader"), [(.type "object")], [(.ref 176), (.type "object")], 175, (Str.ofString "IpHeader"), true, [], [], false, none, false⟩, #[none, none, some (.str (Str.ofString "IpHeader") 348), some (.str (Str.ofString "IpHeader") 356), some (.builtin "object.__new__"), some (.bool true)]⟩
noncomputable def o177 (_P : Params) : Obj := ⟨(.type "getset_descriptor"), none, .fields #[(.str (Str.ofString "__dict__") 431), (.ref 176), (.builtin "function.__dict__"), (.builtin "function.__dict__#set")], #[]⟩
noncomputable def o178 (_P : Params) : Obj := ⟨(.type "getset_descriptor"), none, .fields #[(.str (Str.ofString "__weakref__") 433), (.ref 176), (.builtin "ExceptionGroup.__weakref__"), .none], #[]⟩
noncomputable def o186 (_P : Params) : Obj := ⟨(.type "code"), none, .fields #[(.str (Str.ofString "is_within") 438), (.str (Str.ofString "is_within") 439), (.str (Str.ofString "/claim/cut.py") 440), (.int 80 0), (.int 2 0), (.int 0 0), (.int 0 0), (.int 3 0), (.ref 181), (.bool true), (.int 181 0), (.ref 182), .none, (.ref 183), (.ref 184), (.ref 185), (.int 443 0), (.int 80 0), (.str (Str.ofString "/claim/cut.py") 444)], #[]⟩
noncomputable def o187 : Option Obj := fnRef (topSt 26) (Str.ofString "is_within") .none (.str (Str.ofString "thinstack.ip_header") 330) (.ref 186)
noncomputable def o193 (_P : Params) : Obj := ⟨(.type "code"), none, .fields #[(.str (Str.ofString "check_fields") 446), (.str (Str.ofString "check_fields") 447), (.str (Str.ofString "/claim/cut.py") 448), (.int 82 0), (.int 1 0), (.int 0 0), (.int 0 0), (.int 3 0), (.ref 188), (.bool true), (.int 181 0), (.ref 189), .none, (.ref 190), (.ref 191), (.ref 192), (.int 451 0), (.int 82 0), (.str (Str.ofString "/claim/cut.py") 452)], #[]⟩
noncomputable def o194 : Option Obj := fnRef (topSt 27) (Str.ofString "check_fields") .none (.str (Str.ofString "thinstack.ip_header") 330) (.ref 193)
noncomputable def o200 (_P : Params) : Obj := ⟨(.type "code"), none, .fields #[(.str (Str.ofString "check_size") 454), (.str (Str.ofString "check_size") 455), (.str (Str.ofString "/claim/cut.py") 456), (.int 93 0), (.int 2 0), (.int 0 0), (.int 0 0), (.int 3 0), (.ref 195), (.bool true), (.int 181 0), (.ref 196), .none, (.ref 197), (.ref 198), (.ref 199), (.int 459 0), (.int 93 0), (.str (Str.ofString "/claim/cut.py") 460)], #[]⟩
noncomputable def o201 : Option Obj := fnRef (topSt 28) (Str.ofString "check_size") .none (.str (Str.ofString "thinstack.ip_header") 330) (.ref 200)
noncomputable def o207 (_P : Params) : Obj := ⟨(.type "code"), none, .fields #[(.str (Str.ofString "flags_of") 462), (.str (Str.ofString "flags_of") 463), (.str (Str.ofString "/claim/cut.py") 464), (.int 98 0), (.int 1 0), (.int 0 0), (.int 0 0), (.int 3 0), (.ref 202), (.bool true), (.int 181 0), (.ref 203), .none, (.ref 204), (.ref 205), (.ref 206), (.int 467 0), (.int 98 0), (.str (Str.ofString "/claim/cut.py") 468)], #[]⟩
noncomputable def o208 : Option Obj := fnRef (topSt 29) (Str.ofString "flags_of") .none (.str (Str.ofString "thinstack.ip_header") 330) (.ref 207)
noncomputable def o214 (_P : Params) : Obj := ⟨(.type "code"), none, .fields #[(.str (Str.ofString "pack_ip") 470), (.str (Str.ofString "pack_ip") 471), (.str (Str.ofString "/claim/cut.py") 472), (.int 105 0), (.int 2 0), (.int 0 0), (.int 0 0), (.int 3 0), (.ref 209), (.bool true), (.int 181 0), (.ref 210), .none, (.ref 211), (.ref 212), (.ref 213), (.int 480 0), (.int 105 0), (.str (Str.ofString "/claim/cut.py") 481)], #[]⟩
noncomputable def o215 : Option Obj := fnRef (topSt 30) (Str.ofString "pack_ip") .none (.str (Str.ofString "thinstack.ip_header") 330) (.ref 214)
noncomputable def o221 (_P : Params) : Obj := ⟨(.type "code"), none, .fields #[(.str (Str.ofString "head_size") 483), (.str (Str.ofString "head_size") 484), (.str (Str.ofString "/claim/cut.py") 485), (.int 114 0), (.int 1 0), (.int 0 0), (.int 0 0), (.int 3 0), (.ref 216), (.bool true), (.int 181 0), (.ref 217), .none, (.ref 218), (.ref 219), (.ref 220), (.int 488 0), (.int 114 0), (.str (Str.ofString "/claim/cut.py") 489)], #[]⟩
noncomputable def o222 : Option Obj := fnRef (topSt 31) (Str.ofString "head_size") .none (.str (Str.ofString "thinstack.ip_header") 330) (.ref 221)
noncomputable def o228 (_P : Params) : Obj := ⟨(.type "code"), none, .fields #[(.str (Str.ofString "unpack_ip") 491), (.str (Str.ofString "unpack_ip") 492), (.str (Str.ofString "/claim/cut.py") 493), (.int 123 0), (.int 1 0), (.int 0 0), (.int 0 0), (.int 3 0), (.ref 223), (.bool true), (.int 181 0), (.ref 224), .none, (.ref 225), (.ref 226), (.ref 227), (.int 500 0), (.int 123 0), (.str (Str.ofString "/claim/cut.py") 501)], #[]⟩
noncomputable def o229 : Option Obj := fnRef (topSt 32) (Str.ofString "unpack_ip") .none (.str (Str.ofString "thinstack.ip_header") 330) (.ref 228)
noncomputable def o235 (_P : Params) : Obj := ⟨(.type "code"), none, .fields #[(.str (Str.ofString "about") 507), (.str (Str.ofString "about") 508), (.str (Str.ofString "/claim/cut.py") 509), (.int 136 0), (.int 1 0), (.int 0 0), (.int 0 0), (.int 3 0), (.ref 230), (.bool true), (.int 181 0), (.ref 231), .none, (.ref 232), (.ref 233), (.ref 234), (.int 515 0), (.int 136 0), (.str (Str.ofString "/claim/cut.py") 516)], #[]⟩
noncomputable def o236 : Option Obj := fnRef (topSt 35) (Str.ofString "about") .none (.str (Str.ofString "thinstack.icmp_rules") 503) (.ref 235)
noncomputable def o249 (_P : Params) : Obj := ⟨(.type "code"), none, .fields #[(.str (Str.ofString "__init__") 542), (.str (Str.ofString "IcmpMessage.__init__") 543), (.str (Str.ofString "/claim/cut.py") 544), (.int 154 0), (.int 5 0), (.int 0 0), (.int 0 0), (.int 3 0), (.ref 244), (.bool true), (.int 181 0), (.ref 245), .none, (.ref 246), (.ref 247), (.ref 248), (.int 550 0), (.int 154 0), (.str (Str.ofString "/claim/cut.py") 551)], #[]⟩
noncomputable def o250 : Option Obj := fnRef (inSt 42 0) (Str.ofString "IcmpMessage.__init__") .none (.str (Str.ofString "thinstack.icmp") 518) (.ref 249)
noncomputable def o256 (_P : Params) : Obj := ⟨(.type "code"), none, .fields #[(.str (Str.ofString "is_error") 553), (.str (Str.ofString "IcmpMessage.is_error") 554), (.str (Str.ofString "/claim/cut.py") 555), (.int 160 0), (.int 1 0), (.int 0 0), (.int 0 0), (.int 3 0), (.ref 251), (.bool true), (.int 181 0), (.ref 252), .none, (.ref 253), (.ref 254), (.ref 255), (.int 557 0), (.int 160 0), (.str (Str.ofString "/claim/cut.py") 558)], #[]⟩
noncomputable def o257 : Option Obj := fnRef (inSt 42 1) (Str.ofString "IcmpMessage.is_error") .none (.str (Str.ofString "thinstack.icmp") 518) (.ref 256)
noncomputable def o263 (_P : Params) : Obj := ⟨(.type "code"), none, .fields #[(.str (Str.ofString "is_echo") 560), (.str (Str.ofString "IcmpMessage.is_echo") 561), (.str (Str.ofString "/claim/cut.py") 562), (.int 163 0), (.int 1 0), (.int 0 0), (.int 0 0), (.int 3 0), (.ref 258), (.bool true), (.int 181 0), (.ref 259), .none, (.ref 260), (.ref 261), (.ref 262), (.int 564 0), (.int 163 0), (.str (Str.ofString "/claim/cut.py") 565)], #[]⟩
noncomputable def o264 : Option Obj := fnRef (inSt 42 2) (Str.ofString "IcmpMessage.is_echo") .none (.str (Str.ofString "thinstack.icmp") 518) (.ref 263)
noncomputable def o270 (_P : Params) : Obj := ⟨(.type "code"), none, .fields #[(.str (Str.ofString "ident") 567), (.str (Str.ofString "IcmpMessage.ident") 568), (.str (Str.ofString "/claim/cut.py") 569), (.int 166 0), (.int 1 0), (.int 0 0), (.int 0 0), (.int 3 0), (.ref 265), (.bool true), (.int 181 0), (.ref 266), .none, (.ref 267), (.ref 268), (.ref 269), (.int 571 0), (.int 166 0), (.str (Str.ofString "/claim/cut.py") 572)], #[]⟩
noncomputable def o271 : Option Obj := fnRef (inSt 42 3) (Str.ofString "IcmpMessage.ident") .none (.str (Str.ofString "thinstack.icmp") 518) (.ref 270)
noncomputable def o277 (_P : Params) : Obj := ⟨(.type "code"), none, .fields #[(.str (Str.ofString "number") 574), (.str (Str.ofString "IcmpMessage.number") 575), (.str (Str.ofString "/claim/cut.py") 576), (.int 169 0), (.int 1 0), (.int 0 0), (.int 0 0), (.int 3 0), (.ref 272), (.bool true), (.int 181 0), (.ref 273), .none, (.ref 274), (.ref 275), (.ref 276), (.int 578 0), (.int 169 0), (.str (Str.ofString "/claim/cut.py") 579)], #[]⟩
noncomputable def o278 : Option Obj := fnRef (inSt 42 4) (Str.ofString "IcmpMessage.number") .none (.str (Str.ofString "thinstack.icmp") 518) (.ref 277)
noncomputable def o284 (_P : Params) : Obj := ⟨(.type "code"), none, .fields #[(.str (Str.ofString "like") 581), (.str (Str.ofString "IcmpMessage.like") 582), (.str (Str.ofString "/claim/cut.py") 583), (.int 172 0), (.int 2 0), (.int 0 0), (.int 0 0), (.int 3 0), (.ref 279), (.bool true), (.int 181 0), (.ref 280), .none, (.ref 281), (.ref 282), (.ref 283), (.int 586 0), (.int 172 0), (.str (Str.ofString "/claim/cut.py") 587)], #[]⟩
noncomputable def o285 : Option Obj := fnRef (inSt 42 5) (Str.ofString "IcmpMessage.like") .none (.str (Str.ofString "thinstack.icmp") 518) (.ref 284)
noncomputable def o286 (_P : Params) : Obj := ⟨(.type "tuple"), none, .seq #[(.str (Str.ofString "code") 589), (.str (Str.ofString "kind") 590), (.str (Str.ofString "payload") 591), (.str (Str.ofString "rest") 592)] 0, #[]⟩
noncomputable def o287 (P : Params) : Obj := ⟨(.type "dict"), none, .dict #[dE P (Str.ofString "__module__") 537 (.str (Str.ofString "thinstack.icmp") 518), dE P (Str.ofString "__firstlineno__") 541 (.int 152 540), dE P (Str.ofString "__init__") 552 (.ref 250), dE P (Str.ofString "is_error") 559 (.ref 257), dE P (Str.ofString "is_echo") 566 (.ref 264), dE P (Str.ofString "ident") 573 (.ref 271), dE P (Str.ofString "number") 580 (.ref 278), dE P (Str.ofString "like") 588 (.ref 285), dE P (Str.ofString "__static_attributes__") 593 (.ref 286), dE P (Str.ofString "__dict__") 595 (.ref 289), dE P (Str.ofString "__weakref__") 597 (.ref 290), dE P (Str.ofString "__doc__") 598 .none] 4, #[]⟩
noncomputable def o288 (_P : Params) : Obj := ⟨(.type "type"), none, .cls ⟨(Str.ofString "IcmpMessage"), [(.type "object")], [(.ref 288), (.type "object")], 287, (Str.ofString "IcmpMessage"), true, [], [], false, none, false⟩, #[none, none, some (.str (Str.ofString "IcmpMessage") 530), some (.str (Str.ofString "IcmpMessage") 538), some (.builtin "object.__new__"), some (.bool true)]⟩
noncomputable def o289 (_P : Params) : Obj := ⟨(.type "getset_descriptor"), none, .fields #[(.str (Str.ofString "__dict__") 594), (.ref 288), (.builtin "function.__dict__"), (.builtin "function.__dict__#set")], #[]⟩
noncomputable def o290 (_P : Params) : Obj := ⟨(.type "getset_descriptor"), none, .fields #[(.str (Str.ofString "__weakref__") 596), (.ref 288), (.builtin "ExceptionGroup.__weakref__"), .none], #[]⟩
noncomputable def o298 (_P : Params) : Obj := ⟨(.type "code"), none, .fields #[(.str (Str.ofString "is_error_kind") 601), (.str (Str.ofString "is_error_kind") 602), (.str (Str.ofString "/claim/cut.py") 603), (.int 174 0), (.int 1 0), (.int 0 0), (.int 0 0), (.int 3 0), (.ref 293), (.bool true), (.int 181 0), (.ref 294), .none, (.ref 295), (.ref 296), (.ref 297), (.int 605 0), (.int 174 0), (.str (Str.ofString "/claim/cut.py") 606)], #[]⟩
noncomputable def o299 : Option Obj := fnRef (topSt 43) (Str.ofString "is_error_kind") .none (.str (Str.ofString "thinstack.icmp") 518) (.ref 298)
noncomputable def o305 (_P : Params) : Obj := ⟨(.type "code"), none, .fields #[(.str (Str.ofString "_law_pool") 610), (.str (Str.ofString "_law_pool") 611), (.str (Str.ofString "/claim/cut.py") 612), (.int 177 0), (.int 2 0), (.int 0 0), (.int 0 0), (.int 3 0), (.ref 300), (.bool true), (.int 181 0), (.ref 301), .none, (.ref 302), (.ref 303), (.ref 304), (.int 618 0), (.int 177 0), (.str (Str.ofString "/claim/cut.py") 619)], #[]⟩
noncomputable def o306 : Option Obj := fnRef (topSt 45) (Str.ofString "_law_pool") .none (.str (Str.ofString "law_qz0161_01") 608) (.ref 305)
noncomputable def o312 (_P : Params) : Obj := ⟨(.type "code"), none, .fields #[(.str (Str.ofString "_law_take") 621), (.str (Str.ofString "_law_take") 622), (.str (Str.ofString "/claim/cut.py") 623), (.int 182 0), (.int 2 0), (.int 0 0), (.int 0 0), (.int 3 0), (.ref 307), (.bool true), (.int 181 0), (.ref 308), .none, (.ref 309), (.ref 310), (.ref 311), (.int 627 0), (.int 182 0), (.str (Str.ofString "/claim/cut.py") 628)], #[]⟩
noncomputable def o313 : Option Obj := fnRef (topSt 46) (Str.ofString "_law_take") .none (.str (Str.ofString "law_qz0161_01") 608) (.ref 312)
noncomputable def o319 (_P : Params) : Obj := ⟨(.type "code"), none, .fields #[(.str (Str.ofString "_law_one") 630), (.str (Str.ofString "_law_one") 631), (.str (Str.ofString "/claim/cut.py") 632), (.int 189 0), (.int 2 0), (.int 0 0), (.int 0 0), (.int 3 0), (.ref 314), (.bool true), (.int 181 0), (.ref 315), .none, (.ref 316), (.ref 317), (.ref 318), (.int 635 0), (.int 189 0), (.str (Str.ofString "/claim/cut.py") 636)], #[]⟩
noncomputable def o320 : Option Obj := fnRef (topSt 47) (Str.ofString "_law_one") .none (.str (Str.ofString "law_qz0161_01") 608) (.ref 319)
noncomputable def o326 (_P : Params) : Obj := ⟨(.type "code"), none, .fields #[(.str (Str.ofString "_law_told") 638), (.str (Str.ofString "_law_told") 639), (.str (Str.ofString "/claim/cut.py") 640), (.int 191 0), (.int 2 0), (.int 0 0), (.int 0 0), (.int 3 0), (.ref 321), (.bool true), (.int 181 0), (.ref 322), .none, (.ref 323), (.ref 324), (.ref 325), (.int 645 0), (.int 191 0), (.str (Str.ofString "/claim/cut.py") 646)], #[]⟩
noncomputable def o327 : Option Obj := fnRef (topSt 48) (Str.ofString "_law_told") .none (.str (Str.ofString "law_qz0161_01") 608) (.ref 326)
noncomputable def o333 (_P : Params) : Obj := ⟨(.type "code"), none, .fields #[(.str (Str.ofString "_law_right") 648), (.str (Str.ofString "_law_right") 649), (.str (Str.ofString "/claim/cut.py") 650), (.int 197 0), (.int 3 0), (.int 0 0), (.int 0 0), (.int 3 0), (.ref 328), (.bool true), (.int 181 0), (.ref 329), .none, (.ref 330), (.ref 331), (.ref 332), (.int 659 0), (.int 197 0), (.str (Str.ofString "/claim/cut.py") 660)], #[]⟩
noncomputable def o334 : Option Obj := fnRef (topSt 49) (Str.ofString "_law_right") .none (.str (Str.ofString "law_qz0161_01") 608) (.ref 333)
noncomputable def o338 (_P : Params) : Obj := ⟨(.type "code"), none, .fields #[(.str (Str.ofString "law") 662), (.str (Str.ofString "law") 663), (.str (Str.ofString "/claim/cut.py") 664), (.int 207 0), (.int 1 0), (.int 0 0), (.int 0 0), (.int 3 0), (.ref 335), (.bool true), (.int 181 0), (.ref 336), .none, .none, .none, (.ref 337), (.int 665 0), (.int 207 0), (.str (Str.ofString "/claim/cut.py") 666)], #[]⟩
noncomputable def o339 : Option Obj := fnRef (topSt 50) (Str.ofString "law") .none (.str (Str.ofString "law_qz0161_01") 608) (.ref 338)
/-- what the law's call can come to, at the end of the top -/
noncomputable def hK (P : Params) : Frag :=
  (nat_lit 2, o2 P) ::
   (nat_lit 3, o3 P) ::
   (nat_lit 20, o20 P) ::
   (nat_lit 21, litOf (show o21 = some _ from rfl)) ::
   (nat_lit 22, o22 P) ::
   (nat_lit 34, o34 P) ::
   (nat_lit 35, litOf (show o35 = some _ from rfl)) ::
   (nat_lit 36, o36 P) ::
   (nat_lit 37, o37 P) ::
   (nat_lit 38, o38 P) ::
   (nat_lit 39, o39 P) ::
   (nat_lit 42, o42 P) ::
   (nat_lit 49, o49 P) ::
   (nat_lit 50, o50 P) ::
   (nat_lit 51, o51 P) ::
   (nat_lit 54, o54 P) ::
   (nat_lit 61, o61 P) ::
   (nat_lit 62, o62 P) ::
   (nat_lit 63, o63 P) ::
   (nat_lit 71, o71 P) ::
   (nat_lit 72, litOf (show o72 = some _ from rfl)) ::
   (nat_lit 78, o78 P) ::
   (nat_lit 79, litOf (show o79 = some _ from rfl)) ::
   (nat_lit 85, o85 P) ::
   (nat_lit 86, litOf (show o86 = some _ from rfl)) ::
   (nat_lit 92, o92 P) ::
   (nat_lit 93, litOf (show o93 = some _ from rfl)) ::
   (nat_lit 99, o99 P) ::
   (nat_lit 100, litOf (show o100 = some _ from rfl)) ::
   (nat_lit 106, o106 P) ::
   (nat_lit 107, litOf (show o107 = some _ from rfl)) ::
   (nat_lit 108, o108 P) ::
   (nat_lit 114, o114 P) ::
   (nat_lit 115, litOf (show o115 = some _ from rfl)) ::
   (nat_lit 116, o116 P) ::
   (nat_lit 122, o122 P) ::
   (nat_lit 123, litOf (show o123 = some _ from rfl)) ::
   (nat_lit 131, o131 P) ::
   (nat_lit 137, o137 P) ::
   (nat_lit 138, litOf (show o138 = some _ from rfl)) ::
   (nat_lit 144, o144 P) ::
   (nat_lit 145, litOf (show o145 = some _ from rfl)) ::
   (nat_lit 151, o151 P) ::
   (nat_lit 152, litOf (show o152 = some _ from rfl)) ::
   (nat_lit 158, o158 P) ::
   (nat_lit 159, litOf (show o159 = some _ from rfl)) ::
   (nat_lit 165, o165 P) ::
   (nat_lit 166, litOf (show o166 = some _ from rfl)) ::
   (nat_lit 172, o172 P) ::
   (nat_lit 173, litOf (show o173 = some _ from rfl)) ::
   (nat_lit 174, o174 P) ::
   (nat_lit 175, o175 P) ::
   (nat_lit 176, o176 P) ::
   (nat_lit 177, o177 P) ::
   (nat_lit 178, o178 P) ::
   (nat_lit 186, o186 P) ::
   (nat_lit 187, litOf (show o187 = some _ from rfl)) ::
   (nat_lit 193, o193 P) ::
   (nat_lit 194, litOf (show o194 = some _ from rfl)) ::
   (nat_lit 200, o200 P) ::
   (nat_lit 201, litOf (show o201 = some _ from rfl)) ::
   (nat_lit 207, o207 P) ::
   (nat_lit 208, litOf (show o208 = some _ from rfl)) ::
   (nat_lit 214, o214 P) ::
   (nat_lit 215, litOf (show o215 = some _ from rfl)) ::
   (nat_lit 221, o221 P) ::
   (nat_lit 222, litOf (show o222 = some _ from rfl)) ::
   (nat_lit 228, o228 P) ::
   (nat_lit 229, litOf (show o229 = some _ from rfl)) ::
   (nat_lit 235, o235 P) ::
   (nat_lit 236, litOf (show o236 = some _ from rfl)) ::
   (nat_lit 249, o249 P) ::
   (nat_lit 250, litOf (show o250 = some _ from rfl)) ::
   (nat_lit 256, o256 P) ::
   (nat_lit 257, litOf (show o257 = some _ from rfl)) ::
   (nat_lit 263, o263 P) ::
   (nat_lit 264, litOf (show o264 = some _ from rfl)) ::
   (nat_lit 270, o270 P) ::
   (nat_lit 271, litOf (show o271 = some _ from rfl)) ::
   (nat_lit 277, o277 P) ::
   (nat_lit 278, litOf (show o278 = some _ from rfl)) ::
   (nat_lit 284, o284 P) ::
   (nat_lit 285, litOf (show o285 = some _ from rfl)) ::
   (nat_lit 286, o286 P) ::
   (nat_lit 287, o287 P) ::
   (nat_lit 288, o288 P) ::
   (nat_lit 289, o289 P) ::
   (nat_lit 290, o290 P) ::
   (nat_lit 298, o298 P) ::
   (nat_lit 299, litOf (show o299 = some _ from rfl)) ::
   (nat_lit 305, o305 P) ::
   (nat_lit 306, litOf (show o306 = some _ from rfl)) ::
   (nat_lit 312, o312 P) ::
   (nat_lit 313, litOf (show o313 = some _ from rfl)) ::
   (nat_lit 319, o319 P) ::
   (nat_lit 320, litOf (show o320 = some _ from rfl)) ::
   (nat_lit 326, o326 P) ::
   (nat_lit 327, litOf (show o327 = some _ from rfl)) ::
   (nat_lit 333, o333 P) ::
   (nat_lit 334, litOf (show o334 = some _ from rfl)) ::
   (nat_lit 338, o338 P) ::
   (nat_lit 339, litOf (show o339 = some _ from rfl)) :: []
noncomputable def kc0 (P : Params) : Frag := [(2, o2 P), (3, o3 P), (20, o20 P), (21, (o21).getD default), (22, o22 P), (34, o34 P), (35, (o35).getD default), (36, o36 P), (37, o37 P), (38, o38 P), (39, o39 P), (42, o42 P), (49, o49 P), (50, o50 P), (51, o51 P), (54, o54 P)]
noncomputable def ka0 : List Addr := [2, 3, 20, 21, 22, 34, 35, 36, 37, 38, 39, 42, 49, 50, 51, 54]
noncomputable def kc1 (P : Params) : Frag := [(61, o61 P), (62, o62 P), (63, o63 P), (71, o71 P), (72, (o72).getD default), (78, o78 P), (79, (o79).getD default), (85, o85 P), (86, (o86).getD default), (92, o92 P), (93, (o93).getD default), (99, o99 P), (100, (o100).getD default), (106, o106 P), (107, (o107).getD default), (108, o108 P)]
noncomputable def ka1 : List Addr := [61, 62, 63, 71, 72, 78, 79, 85, 86, 92, 93, 99, 100, 106, 107, 108]
noncomputable def kc2 (P : Params) : Frag := [(114, o114 P), (115, (o115).getD default), (116, o116 P), (122, o122 P), (123, (o123).getD default), (131, o131 P), (137, o137 P), (138, (o138).getD default), (144, o144 P), (145, (o145).getD default), (151, o151 P), (152, (o152).getD default), (158, o158 P), (159, (o159).getD default), (165, o165 P), (166, (o166).getD default)]
noncomputable def ka2 : List Addr := [114, 115, 116, 122, 123, 131, 137, 138, 144, 145, 151, 152, 158, 159, 165, 166]
noncomputable def kc3 (P : Params) : Frag := [(172, o172 P), (173, (o173).getD default), (174, o174 P), (175, o175 P), (176, o176 P), (177, o177 P), (178, o178 P), (186, o186 P), (187, (o187).getD default), (193, o193 P), (194, (o194).getD default), (200, o200 P), (201, (o201).getD default), (207, o207 P), (208, (o208).getD default), (214, o214 P)]
noncomputable def ka3 : List Addr := [172, 173, 174, 175, 176, 177, 178, 186, 187, 193, 194, 200, 201, 207, 208, 214]
noncomputable def kc4 (P : Params) : Frag := [(215, (o215).getD default), (221, o221 P), (222, (o222).getD default), (228, o228 P), (229, (o229).getD default), (235, o235 P), (236, (o236).getD default), (249, o249 P), (250, (o250).getD default), (256, o256 P), (257, (o257).getD default), (263, o263 P), (264, (o264).getD default), (270, o270 P), (271, (o271).getD default), (277, o277 P)]
noncomputable def ka4 : List Addr := [215, 221, 222, 228, 229, 235, 236, 249, 250, 256, 257, 263, 264, 270, 271, 277]
noncomputable def kc5 (P : Params) : Frag := [(278, (o278).getD default), (284, o284 P), (285, (o285).getD default), (286, o286 P), (287, o287 P), (288, o288 P), (289, o289 P), (290, o290 P), (298, o298 P), (299, (o299).getD default), (305, o305 P), (306, (o306).getD default), (312, o312 P), (313, (o313).getD default), (319, o319 P), (320, (o320).getD default)]
noncomputable def ka5 : List Addr := [278, 284, 285, 286, 287, 288, 289, 290, 298, 299, 305, 306, 312, 313, 319, 320]
noncomputable def kc6 (P : Params) : Frag := [(326, o326 P), (327, (o327).getD default), (333, o333 P), (334, (o334).getD default), (338, o338 P), (339, (o339).getD default)]
noncomputable def ka6 : List Addr := [326, 327, 333, 334, 338, 339]
-- h12_run
abbrev hL : List Str := [Str.ofString "ones_sum", Str.ofString "checksum", Str.ofString "IpHeader"]
noncomputable def hQ : Program := view PySem.Challenge.pw_qz0161_01 [0, 2, 3, 4, 6, 7, 8, 9, 10, 12, 13, 17, 18, 19, 20, 21, 22, 23, 24, 25, 26, 27, 28, 29, 30, 31, 32, 34, 35, 37, 38, 39, 40, 41, 42, 43, 45, 46, 47, 48, 49, 50]
noncomputable abbrev hR : OpenRow := PySem.Challenge.rw_qz0161_01.row
noncomputable abbrev hX (s : Shared) : Bool := xlAt hQ [] s && recOk (RowW.records hR.toRowW) s
noncomputable def hFa (w : World) (s : Shared) := (staticsOk (importedModules PySem.Challenge.pw_qz0161_01.main.body) (boot_heap w.params) s.heap && namesBound PySem.Challenge.pw_qz0161_01 s.heap && gensDone s && laidKept (boot_heap w.params) s.heap,
  openSeen hQ hL (importedModules PySem.Challenge.pw_qz0161_01.main.body) hX true s)
noncomputable def hSeeA (w : World) := seeT hFa PySem.Challenge.pw_qz0161_01 11 (some (.ref 6)) 4892 w
noncomputable def hGoodA (_w : World) := fun (_ : OsState) => some (true, openGood hQ hL)
theorem hSeeA_self : hSeeA = hSeeA := rfl
theorem hGoodA_self : hGoodA = hGoodA := rfl
name_quick mineSeeA for hSeeA by hSeeA_self
name_quick mineGoodA for hGoodA by hGoodA_self
theorem hA (w : World) : PySem.W.Fast.mineSeeA w = PySem.W.Fast.mineGoodA w := by kernel_rfl
-- h13_part
noncomputable def hFb (s : Shared) := (ka0.map s.heap.get?, ka1.map s.heap.get?, ka2.map s.heap.get?, ka3.map s.heap.get?, ka4.map s.heap.get?, ka5.map s.heap.get?, ka6.map s.heap.get?)
noncomputable def hVb (w : World) := ((kc0 w.params).map (fun p => some p.2), (kc1 w.params).map (fun p => some p.2), (kc2 w.params).map (fun p => some p.2), (kc3 w.params).map (fun p => some p.2), (kc4 w.params).map (fun p => some p.2), (kc5 w.params).map (fun p => some p.2), (kc6 w.params).map (fun p => some p.2))
noncomputable def hSeeB (w : World) := seeT (fun _ s => hFb s) PySem.Challenge.pw_qz0161_01 11 (some (.ref 6)) 4892 w
noncomputable def hGoodB (w : World) := fun (_ : OsState) => some (hVb w)
theorem hSeeB_self : hSeeB = hSeeB := rfl
theorem hGoodB_self : hGoodB = hGoodB := rfl
name_quick mineSeeB for hSeeB by hSeeB_self
name_quick mineGoodB for hGoodB by hGoodB_self
theorem hB (w : World) : PySem.W.Fast.mineSeeB w = PySem.W.Fast.mineGoodB w := by kernel_rfl
-- h14_hd
noncomputable abbrev hAs : List Addr := ka0 ++ ka1 ++ ka2 ++ ka3 ++ ka4 ++ ka5 ++ ka6
theorem hAs_ok (P : Params) : hAs = (hK P).map (·.1) := by kernel_rfl
theorem hK_parts (P : Params) : hK P = kc0 P ++ kc1 P ++ kc2 P ++ kc3 P ++ kc4 P ++ kc5 P ++ kc6 P := by kernel_rfl
noncomputable abbrev hH : Hook := kHook hK hAs hAs_ok
theorem hSaw (w : World) : seeT hFa PySem.Challenge.pw_qz0161_01 11 (some (.ref 6)) 4892 w = fun _ => some (true, openGood hQ hL) :=
  show hSeeA w = hGoodA w from (congrFun PySem.W.Fast.mineSeeA_eq w).trans ((hA w).trans (congrFun PySem.W.Fast.mineGoodA_eq w).symm)
theorem hSawB (w : World) : seeT (fun _ s => hFb s) PySem.Challenge.pw_qz0161_01 11 (some (.ref 6)) 4892 w = fun _ => some (hVb w) :=
  show hSeeB w = hGoodB w from (congrFun PySem.W.Fast.mineSeeB_eq w).trans ((hB w).trans (congrFun PySem.W.Fast.mineGoodB_eq w).symm)
theorem hObs (w : World) (s : Shared) (e : hFb s = hVb w) : hH.obs s = hH.val w := by
  show hAs.map s.heap.get? = (hK w.params).map fun p => some p.2
  unfold hFb hVb at e
  simp only [Prod.mk.injEq] at e
  obtain ⟨e0, e1, e3, e4, e5, e6, e7⟩ := e
  rw [hK_parts]
  simp only [hAs, List.map_append]
  rw [← e0, ← e1, ← e3, ← e4, ← e5, ← e6, ← e7]
theorem hSize (w : World) : ((boot_heap w.params).isNs mainGlobals && (Array.mk [] : Array GenState).size == 0, (boot_heap w.params).objs.size, (boot_heap w.params).nsMap mainGlobals "__annotations__") = (true, 11, some (.ref 6)) := by kernel_rfl
theorem hOpening : opening PySem.Challenge.pw_qz0161_01 = plainProg PySem.Challenge.pw_qz0161_01.main.scope.names := by kernel_rfl
theorem hFence (s : Shared) : fenceModules? PySem.Challenge.pw_qz0161_01 s = some s := by kernel_rfl
theorem hLeft : LeftO PySem.Challenge.pw_qz0161_01 hQ hL hX hH.obs hH.val 4892 :=
  left_of_seeT (boot_open hOpening (by decide) hFence) hSize (fun _ _ => rfl) hSaw hSawB hObs
noncomputable def hDef? : Option DefRec := match defOf hQ (Str.ofString "law") with
  | some (⟨n, p, b, s, o⟩, _) => some ⟨n, p, b, s, o⟩
  | none => none
noncomputable abbrev hD : DefRec := litOf (show hDef? = some _ from rfl)
theorem hd (walk : WalkO hQ [Str.ofString "ones_sum", Str.ofString "checksum", Str.ofString "IpHeader"] (XL hQ []) (kHook hK hAs hAs_ok).says PySem.Challenge.rw_qz0161_01.row.toRowW hD [] fun f vs => call f vs) : PySem.Challenge.rw_qz0161_01.Holds := by
  w_on
  o_law
  refine holds_open (q := hQ) (loose := hL) (Xt := hX) (XP := XL hQ []) (Yf := hH.obs) (Ya := hH.val) (YP := hH.says) (d := hD) (kwd := []) (N := 4892) hLeft hH.of hH.keeps (fun s e => xl_of s (Bool.and_eq_true_iff.mp e).1) XL.keeps (by rfl) (by rfl) (by rfl) (fun s e => recFacts_of (Bool.and_eq_true_iff.mp e).2) (by rfl) (by first | assumption | decide +kernel) (by decide +kernel) ⟨rfl, rfl, rfl, rfl, rfl, by decide +kernel⟩ ?hw walk
  case hw => w_witness2
-- p10_bytes
/-! rules of my own: bytes(n), bytes(b) -/
section
variable {prog : Program} {w : World} {A : Around} {E : Value → Shared → Prop} {s : Shared}
theorem bx_no_bytes : typeLookup (.type "int") "__bytes__" = pure none := by rw [typeLookup_type, builtinLookup_eq_fast]; kernel_rfl
theorem bx_has_bytes : typeLookup (.type "bytes") "__bytes__" = pure (some (.builtin "bytes.__bytes__")) := by rw [typeLookup_type, builtinLookup_eq_fast]; kernel_rfl

theorem new_count {n : Int} {t : Tok} {Q : Value → Shared → Prop} (h0 : 0 ≤ n) (h1 : n ≤ 65536)
    (hQ : ∀ t' k, Q (.bytes (Array.replicate n.toNat 0) t') { s with toks := k }) :
    codeAny (model prog w) A (.call (.builtin "bytes.__new__") ⟨[.type "bytes", .int n t], []⟩) (wants Q E) s := by
  refine codeAny_of_tree ?_
  show wpAny _ A.in1 (do checkBuiltinCall "bytes.__new__" ⟨[.type "bytes", .int n t], []⟩; again (.builtin "bytes.__new__" ⟨[.type "bytes", .int n t], []⟩)) _ _ s
  refine wpAny_bind (wpAny_of_eq (F.bm_newCall _) (wpAny_pure ⟨plainId_quiet F.bm_plain _, codeAny_builtin F.bm_entry ?_⟩))
  rw [Around.under_plainId F.bm_plain _]
  unfold Builtin.«bytes.__new__»
  refine wpAny_bind (wpAny_of_eq (a := true) rfl ?_)
  refine bm_if_false rfl ?_
  refine wpAny_bind (wpAny_of_eq F.bm_sub ?_)
  refine bm_if_false rfl ?_
  refine wpAny_bind (wpAny_of_eq (F.bm_bind _) ?_)
  refine wpAny_bind (wpAny_of_eq (a := ()) rfl ?_)
  refine wpAny_bind (wpAny_of_eq (a := ()) rfl ?_)
  refine bm_if_false rfl ?_
  refine wpAny_bind (wpAny_specialOf (T := "int") (typeIs_int _ _ _) bx_no_bytes ?_)
  refine wpAny_bind (wpAny_of_eq (a := false) rfl ?_)
  refine bm_if_false rfl ?_
  refine wpAny_bind (wpAny_specialOf (T := "int") (typeIs_int _ _ _) F.slot_int_index.lookup ?_)
  refine bm_if_false rfl ?_
  refine wpAny_bind (wpAny_attempt (wpAny_of_eq (a := n) rfl ?_))
  have e1 : Builtin.Bytes.fitsIndex n = true := by
    simp only [Builtin.Bytes.fitsIndex, Bool.and_eq_true, decide_eq_true_eq]; omega
  refine bm_if_false (by rw [e1]; rfl) ?_
  refine wpAny_ite (KBy.ite_no (by omega) ?_)
  refine wpAny_ite (KBy.ite_no (by omega) ?_)
  refine bm_if_false (KBy.tooLong_not (by omega)) ?_
  refine wpAny_bind (wpAny_rule ?_)
  refine wpAny_bind (wpAny_mkBytes ?_ (by rw [Array.size_replicate, sizeLine_eq]; omega))
  show wpAny _ _ (if (Value.type "bytes" == Value.type "bytes") = true then _ else _) _ _ _
  refine bm_if_true (by decide) ?_
  first
    | exact wpAny_pure (hQ _ _)
    | exact wpAny_bind (wpAny_pure (wpAny_pure (hQ _ _)))

theorem new_same {b : Array UInt8} {t : Tok} {Q : Value → Shared → Prop}
    (hQ : Q (.bytes b t) s) :
    codeAny (model prog w) A (.call (.builtin "bytes.__new__") ⟨[.type "bytes", .bytes b t], []⟩) (wants Q E) s := by
  refine codeAny_of_tree ?_
  show wpAny _ A.in1 (do checkBuiltinCall "bytes.__new__" ⟨[.type "bytes", .bytes b t], []⟩; again (.builtin "bytes.__new__" ⟨[.type "bytes", .bytes b t], []⟩)) _ _ s
  refine wpAny_bind (wpAny_of_eq (F.bm_newCall _) (wpAny_pure ⟨plainId_quiet F.bm_plain _, codeAny_builtin F.bm_entry ?_⟩))
  rw [Around.under_plainId F.bm_plain _]
  unfold Builtin.«bytes.__new__»
  refine wpAny_bind (wpAny_of_eq (a := true) rfl ?_)
  refine bm_if_false rfl ?_
  refine wpAny_bind (wpAny_of_eq F.bm_sub ?_)
  refine bm_if_false rfl ?_
  refine wpAny_bind (wpAny_of_eq (F.bm_bind _) ?_)
  refine wpAny_bind (wpAny_of_eq (a := ()) rfl ?_)
  refine wpAny_bind (wpAny_of_eq (a := ()) rfl ?_)
  refine bm_if_false rfl ?_
  refine wpAny_bind (wpAny_specialOf (T := "bytes") (typeIs_bytes _ _ _) bx_has_bytes ?_)
  refine wpAny_bind (wpAny_rule ?_)
  refine wpAny_bind (wpAny_typeOf (typeIs_bytes _ b t) ?_)
  refine bm_if_true rfl ?_
  show wpAny _ _ (if (Value.type "bytes" == Value.type "bytes") = true then _ else _) _ _ _
  refine bm_if_true (by decide) ?_
  first
    | exact wpAny_pure hQ
    | exact wpAny_bind (wpAny_pure (wpAny_pure hQ))

theorem call_bytes_count {n : Int} {t : Tok} {Q : Value → Shared → Prop} (h0 : 0 ≤ n) (h1 : n ≤ 65536)
    {hp : Heap} {gn : Array GenState} {dr : Drawn} {tk : Nat} {os : OsState} (hQ : ∀ t' k, Q (.bytes (Array.replicate n.toNat 0) t') ⟨hp, gn, dr, k, os⟩) : wpAny (model prog w) A (call (.type "bytes") [.int n t]) Q E ⟨hp, gn, dr, tk, os⟩ := by
  refine callType_codes (Q₁ := fun obj s₁ => s₁.TypeIs obj "bytes" ∧ Q obj s₁) F.bm_called (F.bm_typeCall _) F.entry_object_init
    (new_count h0 h1 fun t' k => ⟨PySem.W.typeIs_bytes _ _ _, hQ t' k⟩) fun obj s₁ h₁ => ?_
  exact ⟨h₁.1, F.args_object_init_2 obj _, object_init_meets F.bm_called.init.lookup F.bm_called.made (by decide) prog w A.in1 _ s₁ ⟨h₁.1, rfl, h₁.2⟩⟩

theorem call_bytes_same {b : Array UInt8} {t : Tok} {Q : Value → Shared → Prop}
    (hQ : Q (.bytes b t) s) : wpAny (model prog w) A (call (.type "bytes") [.bytes b t]) Q E s := by
  refine callType_codes (Q₁ := fun obj s₁ => s₁.TypeIs obj "bytes" ∧ Q obj s₁) F.bm_called (F.bm_typeCall _) F.entry_object_init
    (new_same ⟨PySem.W.typeIs_bytes _ _ _, hQ⟩) fun obj s₁ h₁ => ?_
  exact ⟨h₁.1, F.args_object_init_2 obj _, object_init_meets F.bm_called.init.lookup F.bm_called.made (by decide) prog w A.in1 _ s₁ ⟨h₁.1, rfl, h₁.2⟩⟩
end
-- p11_rules
/-! ints and bytes: the library's rules, their values written as I want them -/
section
variable {prog : Program} {w : World} {A : Around} {E : Value → Shared → Prop} {hp : Heap} {gn : Array GenState} {dr : Drawn} {tk : Nat} {os : OsState} {t u : Tok} {Q : Value → Shared → Prop}

theorem fdiv_lit {a k : Int} (hk : 0 ≤ k) : a.fdiv k = a / k := Int.fdiv_eq_ediv_of_nonneg _ hk
theorem fmod_lit {a k : Int} (hk : 0 ≤ k) : a.fmod k = a % k := Int.fmod_eq_emod_of_nonneg _ hk

theorem mRsh {a n : Int} (k : Int) (hn : 0 ≤ n) (hk : (2 : Int) ^ n.toNat = k) (h : Q (.int (a / k) tk) ⟨hp, gn, dr, tk + 1, os⟩) : wpAny (model prog w) A (binaryOp .RShift (.int a t) (.int n u)) Q E ⟨hp, gn, dr, tk, os⟩ := by
  refine rshift_int hn ?_
  rw [hk, fdiv_lit (by rw [← hk]; exact Int.le_of_lt (Int.pow_pos (by decide)))]
  exact h
theorem mLsh {a n : Int} (k : Int) (hn : 0 ≤ n) (hn2 : n ≤ 1000000) (ha : a.natAbs < 18446744073709551616) (hk : (2 : Int) ^ n.toNat = k) (h : Q (.int (a * k) tk) ⟨hp, gn, dr, tk + 1, os⟩) : wpAny (model prog w) A (binaryOp .LShift (.int a t) (.int n u)) Q E ⟨hp, gn, dr, tk, os⟩ := by
  refine lshift_int_small hn hn2 ha ?_
  rw [hk]; exact h
theorem mMod {a k : Int} (hk : 0 < k) (h : Q (.int (a % k) tk) ⟨hp, gn, dr, tk + 1, os⟩) : wpAny (model prog w) A (binaryOp .Mod (.int a t) (.int k u)) Q E ⟨hp, gn, dr, tk, os⟩ := by
  refine mod_int' (by omega) ?_
  rw [fmod_lit (by omega)]; exact h
theorem mDiv {a k : Int} (hk : 0 < k) (hl : k.natAbs.log2 < 9000) (h : Q (.int (a / k) tk) ⟨hp, gn, dr, tk + 1, os⟩) : wpAny (model prog w) A (binaryOp .FloorDiv (.int a t) (.int k u)) Q E ⟨hp, gn, dr, tk, os⟩ := by
  refine floordiv_int (by omega) ?_ (Or.inl (PyProof.noPylong_of_log2 hl))
  rw [fdiv_lit (by omega)]; exact h
theorem mAddI {a k : Int} (h : Q (.int (a + k) tk) ⟨hp, gn, dr, tk + 1, os⟩) : wpAny (model prog w) A (binaryOp .Add (.int a t) (.int k u)) Q E ⟨hp, gn, dr, tk, os⟩ := add_int h
theorem mSubI {a k : Int} (h : Q (.int (a - k) tk) ⟨hp, gn, dr, tk + 1, os⟩) : wpAny (model prog w) A (binaryOp .Sub (.int a t) (.int k u)) Q E ⟨hp, gn, dr, tk, os⟩ := sub_int' h
theorem mMulL {a k : Int} (h1 : -18446744073709551616 < a) (h2 : a < 18446744073709551616) (h : Q (.int (a * k) tk) ⟨hp, gn, dr, tk + 1, os⟩) : wpAny (model prog w) A (binaryOp .Mult (.int a t) (.int k u)) Q E ⟨hp, gn, dr, tk, os⟩ :=
  mul_int h (IntMulOk.of_left (intBits_le_64 h1 h2))
theorem mMulR {a k : Int} (h1 : -18446744073709551616 < k) (h2 : k < 18446744073709551616) (h : Q (.int (a * k) tk) ⟨hp, gn, dr, tk + 1, os⟩) : wpAny (model prog w) A (binaryOp .Mult (.int a t) (.int k u)) Q E ⟨hp, gn, dr, tk, os⟩ :=
  mul_int h (IntMulOk.of_right (intBits_le_64 h1 h2))
theorem mPow2 {n P : Int} (hn : 0 ≤ n) (hn2 : n ≤ 1000000) (hk : (2 : Int) ^ n.toNat = P) (h : Q (.int P tk) ⟨hp, gn, dr, tk + 1, os⟩) : wpAny (model prog w) A (binaryOp .Pow (.int 2 t) (.int n u)) Q E ⟨hp, gn, dr, tk, os⟩ :=
  pow_int_small hn hn2 (by decide) (by rw [hk]; exact h)
theorem mAnd255 {a : Int} (h : Q (.int (a % 256) tk) ⟨hp, gn, dr, tk + 1, os⟩) : wpAny (model prog w) A (binaryOp .BitAnd (.int a t) (.int 255 u)) Q E ⟨hp, gn, dr, tk, os⟩ := by
  refine and_int ?_
  rw [bitAnd_m8]; exact h
theorem mAnd65535 {a : Int} (h : Q (.int (a % 65536) tk) ⟨hp, gn, dr, tk + 1, os⟩) : wpAny (model prog w) A (binaryOp .BitAnd (.int a t) (.int 65535 u)) Q E ⟨hp, gn, dr, tk, os⟩ := by
  refine and_int ?_
  rw [bitAnd_m16]; exact h

theorem or_low {a b : Int} (n : Nat) (ha : 0 ≤ a) (hb : 0 ≤ b) (hb2 : b < 2 ^ n) : Builtin.bitOr (a * 2 ^ n) b = a * 2 ^ n + b := by
  rw [bitOr_and]
  have e : Builtin.bitAnd (a * 2 ^ n) b = 0 := by
    have hp : (0 : Int) ≤ a * 2 ^ n := Int.mul_nonneg ha (Int.le_of_lt (Int.pow_pos (by decide)))
    unfold Builtin.bitAnd
    rw [decide_eq_true hp, decide_eq_true hb]
    show (((a * 2 ^ n).toNat &&& b.toNat : Nat) : Int) = 0
    have e1 : (a * 2 ^ n).toNat = a.toNat <<< n := by
      rw [Nat.shiftLeft_eq]
      have : a = (a.toNat : Int) := by omega
      rw [this]
      have e2 : ((a.toNat : Int) * 2 ^ n) = ((a.toNat * 2 ^ n : Nat) : Int) := by
        rw [Int.natCast_mul, Int.natCast_pow]; rfl
      rw [e2, Int.toNat_natCast, Int.toNat_natCast]
    have hb3 : b.toNat < 2 ^ n := by
      have : (b.toNat : Int) < ((2 ^ n : Nat) : Int) := by
        rw [Int.natCast_pow]; show (b.toNat : Int) < (2 : Int) ^ n; omega
      omega
    rw [e1]
    have : a.toNat <<< n &&& b.toNat = 0 := by
      apply Nat.eq_of_testBit_eq
      intro i
      rw [Nat.testBit_and, Nat.testBit_shiftLeft, Nat.zero_testBit]
      by_cases hi : n ≤ i
      · rw [Nat.testBit_lt_two_pow (Nat.lt_of_lt_of_le hb3 (Nat.pow_le_pow_right (by decide) hi)), Bool.and_false]
      · rw [decide_eq_false (by omega), Bool.false_and, Bool.false_and]
    rw [this]; rfl
  rw [e]; omega
theorem mOr256 {a b : Int} (ha : 0 ≤ a) (hb : 0 ≤ b) (hb2 : b < 256) (h : Q (.int (a * 256 + b) tk) ⟨hp, gn, dr, tk + 1, os⟩) : wpAny (model prog w) A (binaryOp .BitOr (.int (a * 256) t) (.int b u)) Q E ⟨hp, gn, dr, tk, os⟩ := by
  refine or_int ?_
  rw [show (a * 256 : Int) = a * 2 ^ 8 from rfl, or_low 8 ha hb hb2]; exact h
theorem mOr65536 {a b : Int} (ha : 0 ≤ a) (hb : 0 ≤ b) (hb2 : b < 65536) (h : Q (.int (a * 65536 + b) tk) ⟨hp, gn, dr, tk + 1, os⟩) : wpAny (model prog w) A (binaryOp .BitOr (.int (a * 65536) t) (.int b u)) Q E ⟨hp, gn, dr, tk, os⟩ := by
  refine or_int ?_
  rw [show (a * 65536 : Int) = a * 2 ^ 16 from rfl, or_low 16 ha hb hb2]; exact h

/-- the octet at i -/
def oct (b : Array UInt8) (i : Nat) : Int := ((b.toList.getD i 0).toNat : Int)
theorem oct_lo (b : Array UInt8) (i : Nat) : 0 ≤ oct b i := Int.natCast_nonneg _
theorem oct_hi (b : Array UInt8) (i : Nat) : oct b i < 256 := by
  unfold oct; have := (b.toList.getD i 0).toNat_lt; omega

theorem mItem {value slice : PySem.Expr} {b : Array UInt8} {i : Int} {ui : Tok} (hfit : b.size ≤ 16777216) (h0 : 0 ≤ i) (h1 : i < (b.size : Int)) (h : 0 ≤ oct b i.toNat → oct b i.toNat < 256 → Q (.int (oct b i.toNat) tk) ⟨hp, gn, dr, tk + 1, os⟩)
    (hs : subscripted slice false (.bytes b t) (.int i ui) = operate [.bytes b t, .int i ui] (getItem (.bytes b t) (.int i ui)) := by with_unfolding_all rfl)
    (ht : ∀ r, letTemporaryGo value (.bytes b t) r = pure () := by intro _; with_unfolding_all rfl) :
    wpAny (model prog w) A (subscriptTail value slice (.bytes b t) (.int i ui)) Q E ⟨hp, gn, dr, tk, os⟩ := by
  have e : b.toList.toArray = b := Array.toArray_toList
  have g : wpAny (model prog w) A (getItem (.bytes b.toList.toArray t) (.int i ui)) Q E ⟨hp, gn, dr, tk, os⟩ :=
    getItem_bytes (by rw [Array.length_toList]; omega) h0 (by rw [Array.length_toList]; exact h1) (h (oct_lo _ _) (oct_hi _ _))
  rw [e] at g
  exact tail_of_ItemOn ⟨"bytes", _, FB.slot_bytes_getitem.lookup, typeIs_bytes _ _ _, g⟩ hs ht

theorem mLen {b : Array UInt8} (hfit : b.size ≤ 16777216) (h : Q (.int (b.size : Int) (tk + 1)) ⟨hp, gn, dr, tk + 1 + 1, os⟩) : wpAny (model prog w) A (call (.builtin "len") [.bytes b t]) Q E ⟨hp, gn, dr, tk, os⟩ :=
  len_bytes (by omega) h

theorem mAdd {b c : Array UInt8} (hsz : b.size + c.size ≤ 16777216) (h : ∀ t' k, Q (.bytes (b ++ c) t') ⟨hp, gn, dr, k, os⟩) : wpAny (model prog w) A (binaryOp .Add (.bytes b t) (.bytes c u)) Q E ⟨hp, gn, dr, tk, os⟩ :=
  KBy.add_bytes hsz h

theorem mSlice {value slice : PySem.Expr} {b : Array UInt8} {h₀ : Heap} {L : Addr} {m : PySem.Str → Option Value} {news : List (Addr × Obj)} {l u : Value} {lo hi : Option Int}
    (hF : Fr h₀ L hp m) (hN : News h₀ L hp news) (hz : b.size ≤ 16777216) (hl : IsPart l lo) (hu : IsPart u hi)
    (h : ∀ h' t' k, Fr h₀ L h' m → News h₀ L h' news → Q (.bytes (KBy.picked b lo hi) t') ⟨h', gn, dr, k, os⟩)
    (hs : subscripted slice false (.bytes b t) (.ref hp.objs.size) = operate [.ref hp.objs.size, .bytes b t] (getItem (.bytes b t) (.ref hp.objs.size)) := by with_unfolding_all rfl)
    (ht : ∀ r, letTemporaryGo value (.bytes b t) r = pure () := by intro _; with_unfolding_all rfl) :
    wpAny (model prog w) A (subscriptTail value slice (.bytes b t) (.ref hp.objs.size)) Q E ⟨hp.push { cls := .type "slice", data := .fields #[l, u, .none] }, gn, dr, tk, os⟩ :=
  KBc.slice_K (s := ⟨hp, gn, dr, tk, os⟩) hF hN rfl hl hu (by rw [KBw.ints_length]; exact hz) (fun h' t' k F N _ => h h' t' k F N) hs ht
end

/-- facts of sizes -/
theorem size_picked (b : Array UInt8) (lo hi : Option Int) : (KBy.picked b lo hi).size = min (hi.elim b.size (clipAt b.size) - lo.elim 0 (clipAt b.size)) (b.size - lo.elim 0 (clipAt b.size)) := by
  rw [KBc.picked_eq, List.size_toArray, List.length_take, List.length_drop, Array.length_toList]
-- p12_while
def WEnd (Q : Flow → Shared → Prop) (I : Nat → Shared → Prop) (k : Nat) (f : Flow) (s : Shared) : Prop :=
  match f with
  | .next => ∃ k', k' < k ∧ I k' s
  | .cont => ∃ k', k' < k ∧ I k' s
  | .brk => Q .next s
  | .ret v => Q (.ret v) s
theorem WEnd.mk {Q : Flow → Shared → Prop} {I : Nat → Shared → Prop} {k : Nat} {s : Shared} (k' : Nat) (h : k' < k) (i : I k' s) : WEnd Q I k .next s := ⟨k', h, i⟩
theorem while_inv {prog : Program} {w : World} {A : Around} {E : Value → Shared → Prop} {s : Shared} {env : Env} {test : PySem.Expr} {body orelse : List Stmt} {pos : Pos} {Q : Flow → Shared → Prop}
    (I : Nat → Shared → Prop) (hE : PassesOwn (model prog w) A env E)
    (turn : ∀ k s, I k s → wpAny (model prog w) A (isTrue test env (eval test env)) (fun b s₂ => WhlIf b (wpAny (model prog w) A (execs body env) (WEnd Q I k) E s₂) (wpAny (model prog w) A (execs orelse env) Q E s₂)) E s)
    (k : Nat) (h : I k s) : wpAny (model prog w) A (exec (.While test body orelse pos) env) Q E s := by
  refine whl_start 0 ?_
  have all : ∀ n k s, k < n → I k s → WhlRest prog w A E env test body orelse Q 0 s := by
    intro n
    induction n with
    | zero => intro k s hk; exact absurd hk (Nat.not_lt_zero _)
    | succ n ih =>
      intro k s hk hi
      show WhlRest prog w A E env test body orelse Q (0 + 1) s
      refine whl_turn (k := 0) hE (wpAny_mono (turn k s hi) (fun b s₂ h₂ => ?_) (fun _ _ e => e))
      · unfold WhlIf at h₂ ⊢
        by_cases hb : b = true
        · rw [if_pos hb] at h₂ ⊢
          refine wpAny_mono h₂ (fun f s₃ h₃ => ?_) (fun _ _ e => e)
          cases f with
          | next => obtain ⟨k', hk', hi'⟩ := h₃; exact ih k' s₃ (by omega) hi'
          | cont => obtain ⟨k', hk', hi'⟩ := h₃; exact ih k' s₃ (by omega) hi'
          | brk => exact h₃
          | ret v => exact h₃
        · rw [if_neg hb] at h₂ ⊢
          exact h₂
  exact all (k + 1) k s (Nat.lt_succ_self _) h
-- p13_range
section
variable {prog : Program} {w : World} {A : Around} {E : Value → Shared → Prop} {s : Shared} {env : Env} {h₀ : Heap} {x : Str} {body : List Stmt} {Q : Flow → Shared → Prop}
theorem iterRangeC {r : Addr} {a₀ b₀ c : Int} {t₀ u₀ v₀ : Tok} {n : Nat} {m₀ : Str → Option Value} {news : List (Addr × Obj)}
    (J : Nat → (Str → Option Value) → List (Addr × Obj) → Prop)
    (hh : A.handled = none) (hr : IsRange s.heap r a₀ b₀ c t₀ u₀ v₀) (hsmall : Builtin.Range.small a₀ b₀ c = true) (hn : Builtin.Range.rangeSize a₀ b₀ c = (n : Int)) (F : Fr h₀ env.locals s.heap m₀) (N : News h₀ env.locals s.heap news) (hj : J 0 m₀ news)
    (turn : ∀ i t m₁ nx h tk own, i < n → nx.map (·.1) = news.map (·.1) → OwnOff own (news.map (·.1)) → J i m₁ nx → Fr h₀ env.locals h (fun y => if y = x then some (.int (a₀ + (i : Int) * c) t) else m₁ y) → News h₀ env.locals h (nx ++ own) →
      wpAny (model prog w) A (execs body env) (InvPostN h₀ env.locals (J (i + 1)) own (news.map (·.1)) { s with heap := h, toks := tk } Q) E { s with heap := h, toks := tk })
    (done : ∀ m₁ nx h tk, J n m₁ nx → Fr h₀ env.locals h m₁ → News h₀ env.locals h nx → Q .next { s with heap := h, toks := tk }) :
    wpAny (model prog w) A (pyIter (.ref r)) (fun it s₂ => LoopAtV prog w A h₀ env x body Q E it s₂) E s := by
  refine wpAny_pyIter_range hr hsmall ?_
  have W : Walks prog w A s.heap.objs.size [s.heap.objs.size] [s.heap.objs.size] n (fun i v => i < n ∧ ∃ t, v = .int (a₀ + i * c) t)
      (fun i h => IsRangeIter h s.heap.objs.size (a₀ + (i : Nat) * c) ((n : Int) - (i : Nat)) c) := (Walks.range hh _ a₀ c n).bound
  refine loop_invN J W ?_ ?_ ?_ ?_ (by show IsRangeIter _ _ _ _ _; rw [hn]; simpa using Heap.get?_push_size _ rfl) (F.push _) (fun p hp => ⟨Heap.get?_push_of_some _ (N p hp).1, (N p hp).2⟩) hj ?_ ?_
  · intro hm
    exact absurd F.ns.lt ((List.mem_singleton.mp hm) ▸ Nat.lt_irrefl _)
  · intro b hb
    rw [List.mem_singleton.mp hb]
    exact next_is_new F
  · intro p hp hI
    exact absurd (Heap.lt_size (N p hp).1) ((List.mem_singleton.mp hI) ▸ Nat.lt_irrefl _)
  · intro p hp hI
    exact absurd (Heap.lt_size (N p hp).1) ((List.mem_singleton.mp hI) ▸ Nat.lt_irrefl _)
  · rintro i v m₁ nx h tk own hi ⟨_, t, rfl⟩ ha ho hJ F' N'
    exact turn i t m₁ nx h tk own hi ha ho hJ F' N'
  · exact done
theorem iterRangeC_acc1 {r : Addr} {a₀ b₀ c : Int} {t₀ u₀ v₀ : Tok} {n : Nat} {m₀ : Str → Option Value} {news : List (Addr × Obj)} {y : Str} {tc : Tok} (G : Nat → Int)
    (hh : A.handled = none) (hr : IsRange s.heap r a₀ b₀ c t₀ u₀ v₀) (hsmall : Builtin.Range.small a₀ b₀ c = true) (hn : Builtin.Range.rangeSize a₀ b₀ c = (n : Int)) (F : Fr h₀ env.locals s.heap m₀) (N : News h₀ env.locals s.heap news) (hy : m₀ y = some (.int (G 0) tc))
    (turn : ∀ (i : Nat) t ta h tk own, i < n → OwnOff own (news.map (·.1)) → Fr h₀ env.locals h (fun z => if z = x then some (.int (a₀ + (i : Int) * c) t) else if z = y then some (.int (G i) ta) else m₀ z) → News h₀ env.locals h (news ++ own) →
      wpAny (model prog w) A (execs body env) (InvPostN h₀ env.locals (fun m' nx => nx = news ∧ (∃ t', m' y = some (.int (G (i + 1)) t')) ∧ ∀ z, z ≠ x → z ≠ y → m' z = m₀ z) own (news.map (·.1)) { s with heap := h, toks := tk } Q) E { s with heap := h, toks := tk })
    (done : ∀ (u : Str → Option Value) t h tk, Fr h₀ env.locals h (fun z => if z = x then u z else if z = y then some (.int (G n) t) else m₀ z) → News h₀ env.locals h news → Q .next { s with heap := h, toks := tk }) :
    wpAny (model prog w) A (pyIter (.ref r)) (fun it s₂ => LoopAtV prog w A h₀ env x body Q E it s₂) E s := by
  refine iterRangeC (fun i m nx => nx = news ∧ (∃ t, m y = some (.int (G i) t)) ∧ ∀ z, z ≠ x → z ≠ y → m z = m₀ z) hh hr hsmall hn F N ⟨rfl, ⟨tc, hy⟩, fun _ _ _ => rfl⟩ ?_ ?_
  · rintro i t m₁ nx h tk own hi _ hoff ⟨rfl, ⟨ta, ha⟩, hm⟩ F₁ N₁
    rw [map_one ha hm] at F₁
    exact turn i t ta h tk own hi hoff F₁ N₁
  · rintro m₁ nx h tk ⟨rfl, ⟨t, ha⟩, hm⟩ F₁ N₁
    refine done m₁ t h tk ?_ N₁
    rw [done_one ha hm]; exact F₁
theorem invEnd1 {news own news' : List (Addr × Obj)} {y : Str} {v : Int} {m₀ m' : Str → Option Value} {L : Addr} {h' : Heap} {tk : Nat} {t : Tok} {s₁ : Shared}
    (F : Fr h₀ L h' m') (N : News h₀ L h' news') (hs : ∀ p ∈ news ++ own, p ∈ news') (hy : m' y = some (.int v t)) (hm : ∀ z, z ≠ x → z ≠ y → m' z = m₀ z) :
    InvPostN h₀ L (fun m' nx => nx = news ∧ (∃ t', m' y = some (.int v t')) ∧ ∀ z, z ≠ x → z ≠ y → m' z = m₀ z) own (news.map (·.1)) s₁ Q .next { s₁ with heap := h', toks := tk } :=
  InvEndN.intro F N ⟨rfl, ⟨t, hy⟩, hm⟩ rfl (fun p hp => hs p (List.mem_append_left _ hp)) (fun p hp => hs p (List.mem_append_right _ hp))
end
theorem size_two {m : Nat} : Builtin.Range.rangeSize 0 ((m : Int) - (m : Int) % 2) 2 = ((m / 2 : Nat) : Int) := by
  unfold Builtin.Range.rangeSize
  rw [if_pos (by decide)]
  split <;> omega
theorem small_two {m : Nat} (h : m ≤ 16777216) : Builtin.Range.small 0 ((m : Int) - (m : Int) % 2) 2 = true := by
  unfold Builtin.Range.small
  rw [size_two]
  simp only [Builtin.Range.rangeFitsLong, Bool.and_eq_true, Bool.or_eq_true, decide_eq_true_eq, beq_iff_eq, show ((2 : Int) > 0) by decide, if_true]
  omega
-- p14_tup
section
variable {prog : Program} {w : World} {A : Around} {E : Value → Shared → Prop} {s : Shared} {env : Env} {h₀ : Heap} {x : Str} {body : List Stmt} {Q : Flow → Shared → Prop}
theorem iterTup {ax : Addr} {lo : Obj} {vs : List Value} {k : Nat} {m₀ : Str → Option Value} {news : List (Addr × Obj)}
    (hh : A.handled = none) (F : Fr h₀ env.locals s.heap m₀) (N : News h₀ env.locals s.heap ((ax, lo) :: news)) (hna : ∀ q ∈ news, q.1 < ax) (hc : lo.cls = .type "tuple") (hd : lo.data = .seq vs.toArray k)
    (turn : ∀ v h tk own, v ∈ vs → Fr h₀ env.locals h (fun y => if y = x then some v else m₀ y) → News h₀ env.locals h (news ++ own) →
      wpAny (model prog w) A (execs body env) (InvPostN h₀ env.locals (fun m' nx => nx = news ∧ ∀ z, z ≠ x → m' z = m₀ z) own (news.map (·.1)) { s with heap := h, toks := tk } Q) E { s with heap := h, toks := tk })
    (done : ∀ (u : Str → Option Value) h tk, Fr h₀ env.locals h (fun z => if z = x then u z else m₀ z) → News h₀ env.locals h news → Q .next { s with heap := h, toks := tk }) :
    wpAny (model prog w) A (pyIter (.ref ax)) (fun it s₂ => LoopAtV prog w A h₀ env x body Q E it s₂) E s := by
  have hax := N _ (List.mem_cons_self ..)
  have hl : s.heap.IsTuple ax vs.toArray := ⟨lo, hax.1, hc, k, hd⟩
  have hlt : ax < s.heap.objs.size := Heap.lt_size hax.1
  have hne : ax ≠ s.heap.objs.size := Nat.ne_of_lt hlt
  have N₁ : News h₀ env.locals s.heap news := fun p hp => N p (List.mem_cons_of_mem _ hp)
  refine wpAny_pyIter_tuple hl ?_
  have W := Walks.tuple (prog := prog) (w := w) hh s.heap.objs.size ax hne vs.toArray
  refine loop_invN (fun _ m nx => nx = news ∧ ∀ z, z ≠ x → m z = m₀ z) W ?_ ?_ ?_ ?_ ⟨⟨_, Heap.get?_push_size _ rfl, rfl, rfl⟩, lo, Heap.get?_push_of_some _ hax.1, hc, k, hd⟩ (F.push _) (fun p hp => ⟨Heap.get?_push_of_some _ (N₁ p hp).1, (N₁ p hp).2⟩) ⟨rfl, fun _ _ => rfl⟩ ?_ ?_
  · intro hm
    rcases List.mem_cons.mp hm with e | hm
    · exact absurd F.ns.lt (e ▸ Nat.lt_irrefl _)
    · exact hax.2.1 (List.mem_singleton.mp hm).symm
  · intro b hb
    rw [List.mem_singleton.mp hb]
    exact next_is_new F
  · intro p hp hI
    exact absurd (Heap.lt_size (N₁ p hp).1) ((List.mem_singleton.mp hI) ▸ Nat.lt_irrefl _)
  · intro p hp hI
    rcases List.mem_cons.mp hI with e | hI
    · exact absurd (Heap.lt_size (N₁ p hp).1) (e ▸ Nat.lt_irrefl _)
    · exact Nat.ne_of_lt (hna p hp) (List.mem_singleton.mp hI)
  · rintro i v m₁ nx h tk own hi hP _ hoff ⟨rfl, hm⟩ F' N'
    rw [map_none hm] at F'
    have hv : v ∈ vs := by
      have : vs.toArray[i]? = some v := hP
      exact List.mem_of_getElem? (by simpa using this)
    exact turn v h tk own hv F' N'
  · rintro m₁ nx h tk ⟨rfl, hm⟩ F' N'
    refine done m₁ h tk ?_ N'
    rw [done_none hm]; exact F'
end
-- p00_base
abbrev Led := List (Addr × Obj)

/-- a def of the text that gives back a value and keeps the ledger -/
def VC (w : World) (d : Nat) (f : Addr) (news : Led) (vs : List Value) (R : Tok → Value) : Prop :=
  ∀ (mean : ExcName → Option Value) (mg mb : Str → Option Value) (dp un : Nat) (gd : Option (List Code)) (cn : Str) (cs : Scope) (a : Addr) (ccd : Value) (cl : List (Str × Addr)) (outer : List Env) (A₀ : Around) (base h₀ : Heap) (L : Addr) (m : Str → Option Value) (s : Shared) (Q E : Value → Shared → Prop),
    Below A₀ base outer h₀ → Fr h₀ L s.heap m → (hK w.params).In h₀ → News h₀ L s.heap news → Top hQ (looseW hQ [Str.ofString "ones_sum", Str.ofString "checksum", Str.ofString "IpHeader"]) mean mg mb h₀ → cs.kind = .function →
    dp + d < recursionLimit → un + 8 * d < cLine →
    (∀ (t : Tok) (h' : Heap) (tk' : Nat), Fr h₀ L h' m → News h₀ L h' news → Q (R t) { s with heap := h', toks := tk' }) →
    wpAny (model PySem.Challenge.rw_qz0161_01.row.prog w) (ktrTop dp un gd cn cs L a ccd cl outer) (call (.ref f) vs) Q E s

theorem VC.use {w : World} {d : Nat} {f : Addr} {news : Led} {vs : List Value} {R : Tok → Value} {mean : ExcName → Option Value} {mg mb : Str → Option Value} {dp un : Nat} {gd : Option (List Code)} {cn : Str} {cs : Scope} {a : Addr} {ccd : Value} {cl : List (Str × Addr)} {outer : List Env} {A₀ : Around} {base h₀ : Heap} {L : Addr} {m : Str → Option Value} {s : Shared} {Q E : Value → Shared → Prop}
    (C : VC w d f news vs R) (B : Below A₀ base outer h₀) (F : Fr h₀ L s.heap m) (X : (hK w.params).In h₀) (N : News h₀ L s.heap news) (T : Top hQ (looseW hQ [Str.ofString "ones_sum", Str.ofString "checksum", Str.ofString "IpHeader"]) mean mg mb h₀) (hk : cs.kind = .function)
    (hd : dp + d < recursionLimit) (hu : un + 8 * d < cLine)
    (h : ∀ (t : Tok) (h' : Heap) (tk' : Nat), Fr h₀ L h' m → News h₀ L h' news → Q (R t) { s with heap := h', toks := tk' }) :
    wpAny (model PySem.Challenge.rw_qz0161_01.row.prog w) (ktrTop dp un gd cn cs L a ccd cl outer) (call (.ref f) vs) Q E s :=
  C _ _ _ _ _ _ _ _ _ _ _ _ _ _ _ _ _ _ _ _ B F X N T hk hd hu h

section
variable {h₀ h : Heap} {L : Addr} {m : Str → Option Value} {news news' : Led} {s : Shared} {Q : Value → Shared → Prop} {t : Tok} {tk : Nat}
theorem VC.retI {x y : Int} (hret : ∀ (t : Tok) (h' : Heap) (tk' : Nat), Fr h₀ L h' m → News h₀ L h' news → Q (.int x t) { s with heap := h', toks := tk' })
    (e : y = x) (F : Fr h₀ L h m) (N : News h₀ L h news') (hs : ∀ p ∈ news, p ∈ news') : Q (.int y t) { s with heap := h, toks := tk } := by
  subst e
  exact hret t h tk F (cb_drop N hs)
theorem VC.retY {x y : Array UInt8} (hret : ∀ (t : Tok) (h' : Heap) (tk' : Nat), Fr h₀ L h' m → News h₀ L h' news → Q (.bytes x t) { s with heap := h', toks := tk' })
    (e : y = x) (F : Fr h₀ L h m) (N : News h₀ L h news') (hs : ∀ p ∈ news, p ∈ news') : Q (.bytes y t) { s with heap := h, toks := tk } := by
  subst e
  exact hret t h tk F (cb_drop N hs)
theorem VC.retB {x y : Bool} (hret : ∀ (t : Tok) (h' : Heap) (tk' : Nat), Fr h₀ L h' m → News h₀ L h' news → Q (.bool x) { s with heap := h', toks := tk' })
    (e : y = x) (F : Fr h₀ L h m) (N : News h₀ L h news') (hs : ∀ p ∈ news, p ∈ news') : Q (.bool y) { s with heap := h, toks := tk } := by
  subst e
  exact hret 0 h tk F (cb_drop N hs)
theorem VC.retN (hret : ∀ (t : Tok) (h' : Heap) (tk' : Nat), Fr h₀ L h' m → News h₀ L h' news → Q .none { s with heap := h', toks := tk' })
    (F : Fr h₀ L h m) (N : News h₀ L h news') (hs : ∀ p ∈ news, p ∈ news') : Q .none { s with heap := h, toks := tk } := hret 0 h tk F (cb_drop N hs)
end
-- p20_put
def put16A (n : Int) : Array UInt8 := byteArr [n / 256 % 256, n % 256]
theorem put16A_size (n : Int) : (put16A n).size = 2 := by simp [put16A, byteArr_size]
def put32A (n : Int) : Array UInt8 := put16A (n / 65536) ++ put16A n
theorem put32A_size (n : Int) : (put32A n).size = 4 := by simp [put32A, put16A_size]
-- p01_macros
local macro_rules | `(tactic| k_room) => `(tactic| ktr_room)
local macro_rules | `(tactic| walk_at "mine enter") => `(tactic| (unfold VC; k_fill; intro mean mg mb dp un gd cn cs a ccd cl outer A₀ base h₀ L m s Q E B F X N T hk hd hu hret; refine wpAny_call ?_; k_dflt (walk_at "mine code")))
local macro_rules | `(tactic| walk_at "mine code") => `(tactic| (refine' code_def ?k1 ?k2 ?k3 ?k4 ?k5 ?kA ?kF ?kK ?k6 ?k7 ?k8 ?k9 ?kB ?_ ?c2 ?c3 ?c4 ?c5; (case kA => exact rfl); (case kF => exact rfl); (case kK => assumption); (case k1 => k_asm); (case k2 => k_asm); (case k3 => k_asm); (case k4 => k_asm); (case k5 => k_asm); (case k6 => k_is); (case k7 => k_is); (case k8 => ktr_room); (case k9 => first | exact BindsTo.of_eq rfl | exact binds_K (by k_in) rfl (by k_is) rfl rfl rfl); (case c5 => decide); (case kB => exact locs rfl); (case c2 => exact rfl); (case c3 => exact rfl); (case c4 => exact rfl); k_whole; intro g' L' h' FG' F' N' B' X' T'; (try dsimp only); (try k_fold); (try k_gentoks)))
local macro_rules | `(tactic| walk_at "mine sub") => `(tactic| first | exact fun _ h => h | kcj_all | (intro p hp; simp only [List.mem_cons, List.mem_append]; simp [hp]))
local macro_rules | `(tactic| walk_at "mine fact") => `(tactic| ((try dsimp only); first | with_reducible assumption | omega | decide | ((try simp only [Array.size_append, put16A_size, put32A_size, byteArr_size, Array.size_replicate, List.length_cons, List.length_nil]); omega)))
local macro_rules | `(tactic| walk_at "mine in") => `(tactic| (intro n9 hn9; simp only [List.mem_cons, List.not_mem_nil, or_false] at hn9; (repeat' (first | (rcases hn9 with hn9 | hn9) | subst hn9)); all_goals (constructor <;> walk_at "mine fact")))
local macro_rules | `(tactic| walk_at "mine end") => `(tactic| ((rename ∀ (t : Tok) (h' : Heap) (tk' : Nat), Fr _ _ h' _ → News _ _ h' _ → _ => hret); (first | refine' VC.retI hret ?e1 ?e2 ?e3 ?e4 | refine' VC.retY hret ?e1 ?e2 ?e3 ?e4 | refine' VC.retB hret ?e1 ?e2 ?e3 ?e4 | refine' VC.retN hret ?e2 ?e3 ?e4); (case e2 => k_asm); (case e3 => k_asm); (case e4 => walk_at "mine sub"); (try (case e1 => exact rfl))))
local macro_rules | `(tactic| walk_at "binaryOp RShift int int") => `(tactic| with_reducible first | refine mRsh (n := 8) 256 (by decide) (by decide) ?_ | refine mRsh (n := 16) 65536 (by decide) (by decide) ?_)
local macro_rules | `(tactic| walk_at "binaryOp LShift int int") => `(tactic| (with_reducible first | refine mLsh (n := 8) 256 (by decide) (by decide) ?hl (by decide) ?_ | refine mLsh (n := 16) 65536 (by decide) (by decide) ?hl (by decide) ?_); (case hl => walk_at "mine fact"))
local macro_rules | `(tactic| walk_at "binaryOp BitAnd int int") => `(tactic| with_reducible first | refine mAnd255 ?_ | refine mAnd65535 ?_)
local macro_rules | `(tactic| walk_at "binaryOp BitOr int int") => `(tactic| (with_reducible first | refine mOr256 ?h1 ?h2 ?h3 ?_ | refine mOr65536 ?h1 ?h2 ?h3 ?_); (case h1 => walk_at "mine fact"); (case h2 => walk_at "mine fact"); (case h3 => walk_at "mine fact"))
local macro_rules | `(tactic| walk_at "binaryOp Mod int int") => `(tactic| (with_reducible refine mMod ?h1 ?_; (case h1 => walk_at "mine fact")))
local macro_rules | `(tactic| walk_at "binaryOp FloorDiv int int") => `(tactic| (with_reducible refine mDiv ?h1 ?h2 ?_; (case h1 => walk_at "mine fact"); (case h2 => decide)))
local macro_rules | `(tactic| walk_at "binaryOp Add bytes bytes") => `(tactic| (k_here; (with_reducible show wpAny _ _ (binaryOp Operator.Add (Value.bytes _ _) (Value.bytes _ _)) _ _ _); (refine mAdd ?hz ?_; (case hz => walk_at "mine fact")); intro _ _))
local macro_rules | `(tactic| walk_at "call builtin:len") => `(tactic| (k_here; (with_reducible show wpAny _ _ (call (Value.builtin "len") [Value.bytes _ _]) _ _ _); (refine mLen ?hz ?_; (case hz => walk_at "mine fact"))))
local macro_rules | `(tactic| walk_at "call type:bytes") => `(tactic| (k_here; (with_reducible show wpAny _ _ (call (Value.type "bytes") _) _ _ _); k_dflt (first
  | (refine call_bytes_count ?h0 ?h1 ?_; (case h0 => walk_at "mine fact"); (case h1 => walk_at "mine fact"); intro _ _)
  | (with_reducible refine call_bytes_same ?_)
  | (refine' KBa.make_K ?kbaF ?kbaN ?kbah ?kbal ?kbai ?kbar ?kban ?_; (case kbaF => k_asm); (case kbaN => k_asm); (case kbah => rfl); (case kbal => kba_isList); (case kbai => first | l_ints | l_intsW | kba_listInts); (case kbar => walk_at "mine in"); (case kban => walk_at "mine fact"); intro _ _ _ F' N' kbaIn))))
local macro_rules | `(tactic| walk_at "subscriptTail") => `(tactic| (k_here; (with_reducible show wpAny _ _ (subscriptTail _ _ (Value.bytes _ _) (Value.int _ _)) _ _ _); (refine mItem ?hz ?h0 ?h1 ?_; (case hz => walk_at "mine fact"); (case h0 => walk_at "mine fact"); (case h1 => walk_at "mine fact")); intro _ _))
local macro_rules | `(tactic| walk_at "subscriptTail") => `(tactic| (k_here; (with_reducible show wpAny _ _ (subscriptTail _ (Expr.Slice _ _ none _) (Value.bytes _ _) (Value.ref _)) _ _ _); (with_reducible rename Fr _ _ _ _ => F'); (with_reducible rename News _ _ _ _ => N'); (refine mSlice F' N' ?hz (by constructor) (by constructor) ?_; (case hz => walk_at "mine fact")); intro _ _ _ F' N'))
local macro_rules | `(tactic| walk_at "mine use") => `(tactic| (walk_at "mine k5"; walk_at "mine kk"; k_whole; intro t9 h9 tk9 F9 N9; (try dsimp only); (try k_fold)))
local macro_rules | `(tactic| walk_at "mine till iter") => `(tactic| repeat' (first | (k_unfold; (try dsimp only)) | ((fail_if_success (with_reducible show wpAny _ _ (pyIter _) _ _ _)); first | walk1 | (dsimp only; (fail_if_success (with_reducible show wpAny _ _ (pyIter _) _ _ _)); walk1))))
local macro_rules | `(tactic| walk_at "mine till call") => `(tactic| repeat' (first | (k_unfold; (try dsimp only)) | ((fail_if_success (with_reducible show wpAny _ _ (call (Value.ref _) _) _ _ _)); first | walk1 | (dsimp only; (fail_if_success (with_reducible show wpAny _ _ (call (Value.ref _) _) _ _ _)); walk1))))
local macro_rules | `(tactic| walk_at "binaryOp Add int int") => `(tactic| with_reducible refine mAddI ?_)
local macro_rules | `(tactic| walk_at "binaryOp Sub int int") => `(tactic| with_reducible refine mSubI ?_)
local macro_rules | `(tactic| walk_at "binaryOp Mult int int") => `(tactic| first | (with_reducible refine mMulL ?h1 ?h2 ?_; (case h1 => walk_at "mine fact"); (case h2 => walk_at "mine fact")) | (with_reducible refine mMulR ?h1 ?h2 ?_; (case h1 => walk_at "mine fact"); (case h2 => walk_at "mine fact")))
local macro_rules | `(tactic| walk_at "binaryOp Pow int int") => `(tactic| (with_reducible refine mPow2 ?h1 ?h2 ?hk ?_; (case h1 => walk_at "mine fact"); (case h2 => walk_at "mine fact"); (case hk => first | with_reducible assumption | decide)))
local macro_rules | `(tactic| walk_at "exec For Name Tuple cons nil") => `(tactic| (k_here; (with_reducible show wpAny _ _ (exec (Stmt.For (Expr.Name _ _) _ _ [] _) _) _ _ _); (with_reducible rename Fr _ _ _ _ => lF'); (with_unfolding_all refine' For_invVF lF' ?k1 ?k2 ?_; (case k1 => exact rfl); (case k2 => exact rfl); k_whole)))
local macro_rules | `(tactic| walk_at "exec For Name Call cons nil") => `(tactic| (k_here; (with_reducible show wpAny _ _ (exec (Stmt.For (Expr.Name _ _) _ _ [] _) _) _ _ _); (with_reducible rename Fr _ _ _ _ => lF'); (with_unfolding_all refine' For_invVF lF' ?k1 ?k2 ?_; (case k1 => exact rfl); (case k2 => exact rfl); k_whole)))
local macro_rules | `(tactic| walk_at "mine mem") => `(tactic| first | with_reducible assumption | assumption | exact List.Mem.head _ | (refine List.Mem.tail _ ?_; walk_at "mine mem"))
local macro_rules | `(tactic| k_mem) => `(tactic| walk_at "mine mem")
local macro_rules | `(tactic| walk_at "mine k5") => `(tactic| ((case k1 => k_asm); (case k2 => k_asm); (case k3 => k_asm); (try (case k4 => k_asm)); (case k5 => k_asm)))
local macro_rules | `(tactic| walk_at "mine kk") => `(tactic| ((case kK => first | exact rfl | assumption); (case kd => ktr_room); (case ku => ktr_units)))
local macro_rules | `(tactic| walk_at "mine as") => `(tactic| ((first | (case a1 => walk_at "mine fact") | fail_if_success (case' a1 => skip)); (first | (case a2 => walk_at "mine fact") | fail_if_success (case' a2 => skip)); (first | (case a3 => walk_at "mine fact") | fail_if_success (case' a3 => skip)); (first | (case a4 => walk_at "mine fact") | fail_if_success (case' a4 => skip)); (first | (case a5 => walk_at "mine fact") | fail_if_success (case' a5 => skip)); (first | (case a6 => walk_at "mine fact") | fail_if_success (case' a6 => skip)); (first | (case a7 => walk_at "mine fact") | fail_if_success (case' a7 => skip)); (first | (case a8 => walk_at "mine fact") | fail_if_success (case' a8 => skip)); (first | (case a9 => walk_at "mine fact") | fail_if_success (case' a9 => skip)); (first | (case a10 => walk_at "mine fact") | fail_if_success (case' a10 => skip)); (first | (case a11 => walk_at "mine fact") | fail_if_success (case' a11 => skip)); (first | (case a12 => walk_at "mine fact") | fail_if_success (case' a12 => skip)); (first | (case a13 => walk_at "mine fact") | fail_if_success (case' a13 => skip)); (first | (case a14 => walk_at "mine fact") | fail_if_success (case' a14 => skip)); (first | (case a15 => walk_at "mine fact") | fail_if_success (case' a15 => skip))))
-- p21_put
theorem put16_spec (w : World) (news : Led) (n : Int) (t : Tok) : VC w 1 72 news [.int n t] (fun t' => .bytes (put16A n) t') := by
  walk_at "mine enter"
  k_steps
  walk_at "mine end"
-- m21
local macro_rules | `(tactic| walk_at "call ref") => `(tactic| (k_here; (with_reducible show wpAny _ _ (call (Value.ref 72) _) _ _ _); k_dflt (refine' VC.use (put16_spec _ _ _ _) ?k1 ?k2 ?k3 ?k4 ?k5 ?kK ?kd ?ku ?_; walk_at "mine use")))
-- p22_put
theorem put32_spec (w : World) (news : Led) (n : Int) (t : Tok) : VC w 2 79 news [.int n t] (fun t' => .bytes (put32A n) t') := by
  walk_at "mine enter"
  k_steps
  walk_at "mine end"
-- p22_need
theorem need_spec (w : World) (news : Led) (b : Array UInt8) (tb : Tok) (i : Int) (ti : Tok) (n : Int) (tn : Tok) (hb : b.size ≤ 16777216) (h0 : 0 ≤ i) (h1 : i + n ≤ b.size) :
    VC w 1 86 news [.bytes b tb, .int i ti, .int n tn] (fun _ => .none) := by
  walk_at "mine enter"
  k_steps
  walk_at "mine end"
-- m22
local macro_rules | `(tactic| walk_at "call ref") => `(tactic| (k_here; (with_reducible show wpAny _ _ (call (Value.ref 79) _) _ _ _); k_dflt (refine' VC.use (put32_spec _ _ _ _) ?k1 ?k2 ?k3 ?k4 ?k5 ?kK ?kd ?ku ?_; walk_at "mine use")))
local macro_rules | `(tactic| walk_at "call ref") => `(tactic| (k_here; (with_reducible show wpAny _ _ (call (Value.ref 86) _) _ _ _); k_dflt (refine' VC.use (need_spec _ _ _ _ _ _ _ _ ?a1 ?a2 ?a3) ?k1 ?k2 ?k3 ?k4 ?k5 ?kK ?kd ?ku ?_; walk_at "mine as"; walk_at "mine use")))
-- p23_get16
def get16A (b : Array UInt8) (i : Nat) : Int := oct b i * 256 + oct b (i + 1)
theorem get16A_lo (b : Array UInt8) (i : Nat) : 0 ≤ get16A b i := by have := oct_lo b i; have := oct_lo b (i + 1); unfold get16A; omega
theorem get16A_hi (b : Array UInt8) (i : Nat) : get16A b i < 65536 := by have := oct_hi b i; have := oct_hi b (i + 1); unfold get16A; omega
theorem get16_spec (w : World) (news : Led) (b : Array UInt8) (tb : Tok) (i : Int) (ti : Tok) (hb : b.size ≤ 16777216) (h0 : 0 ≤ i) (h1 : i + 2 ≤ b.size) :
    VC w 2 93 news [.bytes b tb, .int i ti] (fun t => .int (get16A b i.toNat) t) := by
  walk_at "mine enter"
  k_steps
  walk_at "mine end"
  have e : (i + 1).toNat = i.toNat + 1 := by omega
  rw [e]; rfl
def get32A (b : Array UInt8) (i : Nat) : Int := get16A b i * 65536 + get16A b (i + 2)
theorem get32A_lo (b : Array UInt8) (i : Nat) : 0 ≤ get32A b i := by have := get16A_lo b i; have := get16A_lo b (i + 2); unfold get32A; omega
theorem get32A_hi (b : Array UInt8) (i : Nat) : get32A b i < 4294967296 := by have := get16A_hi b i; have := get16A_hi b (i + 2); unfold get32A; omega
-- m23
local macro_rules | `(tactic| walk_at "call ref") => `(tactic| (k_here; (with_reducible show wpAny _ _ (call (Value.ref 93) _) _ _ _); k_dflt (refine' VC.use (get16_spec _ _ _ _ _ _ ?a1 ?a2 ?a3) ?k1 ?k2 ?k3 ?k4 ?k5 ?kK ?kd ?ku ?_; walk_at "mine as"; walk_at "mine use")))
-- p24_get32
theorem get32_spec (w : World) (news : Led) (b : Array UInt8) (tb : Tok) (i : Int) (ti : Tok) (hb : b.size ≤ 16777216) (h0 : 0 ≤ i) (h1 : i + 4 ≤ b.size) :
    VC w 3 100 news [.bytes b tb, .int i ti] (fun t => .int (get32A b i.toNat) t) := by
  have g1 := get16A_lo b i.toNat
  have g2 := get16A_hi b i.toNat
  have g3 := get16A_lo b (i + 2).toNat
  have g4 := get16A_hi b (i + 2).toNat
  walk_at "mine enter"
  k_steps
  walk_at "mine end"
  have e : (i + 2).toNat = i.toNat + 2 := by omega
  rw [e]; rfl
-- p30_fold
def foldF (x : Int) : Int := if x = 0 then 0 else (x - 1) % 65535 + 1
theorem foldF_step {x : Int} (h : 65535 < x) : foldF (x % 65536 + x / 65536) = foldF x := by
  unfold foldF
  rw [if_neg (by omega), if_neg (by omega)]
  omega
theorem foldF_small {x : Int} (h0 : 0 ≤ x) (h : x ≤ 65535) : foldF x = x := by
  unfold foldF
  split <;> omega
theorem foldF_lo {x : Int} (h0 : 0 ≤ x) : 0 ≤ foldF x := by unfold foldF; split <;> omega
theorem foldF_hi {x : Int} : foldF x ≤ 65535 := by unfold foldF; split <;> omega
theorem fr_expose {h₀ h : Heap} {L : Addr} {m : Str → Option Value} {x : Str} {v : Value} (e : m x = some v) (F : Fr h₀ L h m) : Fr h₀ L h (fun y => if y = x then some v else m y) := by
  have : (fun y => if y = x then some v else m y) = m := by
    funext y
    by_cases hy : y = x
    · rw [if_pos hy, hy, e]
    · rw [if_neg hy]
  rw [this]; exact F
-- p31_fold
theorem fold_spec (w : World) (news : Led) (x₀ : Int) (t₀ : Tok) (hx0 : 0 ≤ x₀) : VC w 1 107 news [.int x₀ t₀] (fun t => .int (foldF x₀) t) := by
  walk_at "mine enter"
  refine wpAny_execs_cons ?_
  rename_i s _ _ _ _ _ _ _ _ _ _ _ g' L' h' FG' F' N' B' X' T' 
  refine while_inv (fun k s' => ∃ (x : Int) (t : Tok) (m : Str → Option Value) (h : Heap) (tk : Nat), s' = { s with heap := h, toks := tk } ∧ 0 ≤ x ∧ x.toNat = k ∧ foldF x = foldF x₀ ∧
     Fr g' L' h (fun y => if y = Str.ofString "total" then some (.int x t) else m y) ∧ News g' L' h news) (by passes_own) ?_ x₀.toNat ?_
  · rintro k s₁ ⟨x, t, m, h, tk, rfl, h0, rfl, he, F₁, N₁⟩
    clear F' N' FG'
    k_steps
    by_cases hx : 65535 < x
    · refine WhlIf.yes (decide_eq_true hx) ?_
      k_steps
      refine WEnd.mk (x % 65536 + x / 65536).toNat (by omega) ⟨_, _, _, _, _, rfl, ?_, rfl, ?_, by k_asm, by k_asm⟩
      · omega
      · rw [foldF_step hx]; exact he
    · refine WhlIf.no (decide_eq_false hx) ?_
      k_steps
      walk_at "mine end"
      rw [← he, foldF_small h0 (by omega)]
  · exact ⟨x₀, t₀, _, _, _, rfl, hx0, rfl, rfl, fr_expose rfl F', N'⟩
-- p32_sum
/-- the words' sum -/
def sumW (b : Array UInt8) : Nat → Int
  | 0 => 0
  | n + 1 => sumW b n + get16A b (2 * n)
theorem sumW_lo (b : Array UInt8) : ∀ n, 0 ≤ sumW b n
  | 0 => Int.le_refl _
  | n + 1 => by have := sumW_lo b n; have := get16A_lo b (2 * n); unfold sumW; omega
theorem sumW_hi (b : Array UInt8) : ∀ n : Nat, sumW b n ≤ 65535 * (n : Int)
  | 0 => Int.le_refl _
  | n + 1 => by have := sumW_hi b n; have := get16A_hi b (2 * n); unfold sumW; omega
-- m31
local macro_rules | `(tactic| walk_at "call ref") => `(tactic| (k_here; (with_reducible show wpAny _ _ (call (Value.ref 107) _) _ _ _); k_dflt (refine' VC.use (fold_spec _ _ _ _ ?a1) ?k1 ?k2 ?k3 ?k4 ?k5 ?kK ?kd ?ku ?_; (case a1 => walk_at "mine fact"); walk_at "mine use")))
-- p33_sum
theorem ones_spec (w : World) (news : Led) (b : Array UInt8) (tb : Tok) (c : Int) (tc : Tok) (hb : b.size ≤ 65536) (he : b.size % 2 = 0) (hc : 0 ≤ c) : VC w 2 115 news [.bytes b tb, .int c tc] (fun t => .int (foldF (c + sumW b (b.size / 2))) t) := by
  have hs := sumW_lo b (b.size / 2)
  walk_at "mine enter"
  rename_i g L₁ h₁ FG F₁ N₁ B₁ X₁ T₁
  replace F₁ : Fr g L₁ h₁ (fun y => List.lookup y [(Str.ofString "begin", .int c tc), (Str.ofString "octets", .bytes b tb)]) := F₁
  walk_at "mine till iter"
  rename_i hr F₂ N₂ _
  refine iterRangeC_acc1 (y := Str.ofString "total") (tc := tc) (n := b.size / 2) (fun i => c + sumW b i) rfl hr (small_two (by omega)) size_two F₂ N₂ ?_ ?_ ?_
  · show some (Value.int c tc) = some (Value.int (c + 0) tc)
    rw [Int.add_zero]
  · intro i t ta h tk own hi hoff F₃ N₃
    k_steps
    have e1 : (0 + (i : Int) * 2).toNat = 2 * i := by omega
    have e2 : (0 + (i : Int) * 2 + 1).toNat = 2 * i + 1 := by omega
    refine InvEndN.intro (nx := news) (by k_asm) (by k_asm) ⟨rfl, ⟨_, congrArg (fun z => some (Value.int z _)) (?_ : c + sumW b i + (oct b (0 + (i : Int) * 2).toNat * 256 + oct b (0 + (i : Int) * 2 + 1).toNat) = c + sumW b (i + 1))⟩, ?_⟩ rfl (fun p hp => List.mem_append_left _ hp) (fun p hp => List.mem_append_right _ hp)
    · rw [e1, e2]; show _ = c + (sumW b i + (oct b (2 * i) * 256 + oct b (2 * i + 1))); omega
    · intro z h1 h2
      simp only [h1, h2, if_false]
  · intro u t h tk F₃ N₃
    k_steps
    walk_at "mine end"
-- m33
local macro_rules | `(tactic| walk_at "call ref") => `(tactic| (k_here; (with_reducible show wpAny _ _ (call (Value.ref 115) _) _ _ _); k_dflt (refine' VC.use (ones_spec _ _ _ _ _ _ ?a1 ?a2 ?a3) ?k1 ?k2 ?k3 ?k4 ?k5 ?kK ?kd ?ku ?_; walk_at "mine as"; walk_at "mine use")))
-- p34_check
def checkA (b : Array UInt8) : Int := 65535 - foldF (sumW b (b.size / 2))
theorem check_spec (w : World) (news : Led) (b : Array UInt8) (tb : Tok) (hb : b.size ≤ 65536) (he : b.size % 2 = 0) : VC w 3 123 news [.bytes b tb] (fun t => .int (checkA b) t) := by
  walk_at "mine enter"
  k_steps
  walk_at "mine end"
  rw [Int.zero_add]; rfl
-- p40_hdr
/-- what an IpHeader's dict holds -/
abbrev hdrL (w : World) (k0 k1 k2 k3 k4 k5 k6 k7 k8 k9 v0 v1 v2 v3 v4 v5 v8 v9 : Tok) (src tgt pr id ttl tos : Int) (dont more : Bool) (off : Int) (opt : Array UInt8) : List DictEntry :=
  [{ hash := PyData.keyHash w.params (Str.ofString "source"), key := .str (Str.ofString "source") k0, val := .int src v0 },
   { hash := PyData.keyHash w.params (Str.ofString "target"), key := .str (Str.ofString "target") k1, val := .int tgt v1 },
   { hash := PyData.keyHash w.params (Str.ofString "protocol"), key := .str (Str.ofString "protocol") k2, val := .int pr v2 },
   { hash := PyData.keyHash w.params (Str.ofString "ident"), key := .str (Str.ofString "ident") k3, val := .int id v3 },
   { hash := PyData.keyHash w.params (Str.ofString "ttl"), key := .str (Str.ofString "ttl") k4, val := .int ttl v4 },
   { hash := PyData.keyHash w.params (Str.ofString "tos"), key := .str (Str.ofString "tos") k5, val := .int tos v5 },
   { hash := PyData.keyHash w.params (Str.ofString "dont"), key := .str (Str.ofString "dont") k6, val := .bool dont },
   { hash := PyData.keyHash w.params (Str.ofString "more"), key := .str (Str.ofString "more") k7, val := .bool more },
   { hash := PyData.keyHash w.params (Str.ofString "offset"), key := .str (Str.ofString "offset") k8, val := .int off v8 },
   { hash := PyData.keyHash w.params (Str.ofString "options"), key := .str (Str.ofString "options") k9, val := .bytes opt v9 }]
-- p41_within
theorem within_spec (w : World) (news : Led) (x : Int) (tx : Tok) (n : Int) (tn : Tok) (P : Int) (hn : 0 ≤ n) (hn2 : n ≤ 64) (hP : (2 : Int) ^ n.toNat = P) (h0 : 0 ≤ x) (h1 : x < P) : VC w 1 187 news [.int x tx, .int n tn] (fun _ => .bool true) := by
  walk_at "mine enter"
  k_steps
  walk_at "mine end"
  first | exact decide_eq_true h1 | (rw [hP]; exact decide_eq_true h1)
-- m41
local macro_rules | `(tactic| walk_at "call ref") => `(tactic| (k_here; (with_reducible show wpAny _ _ (call (Value.ref 187) _) _ _ _); k_dflt ((first | (refine' VC.use (within_spec _ _ _ _ (n := 32) _ 4294967296 ?a1 ?a2 ?a3 ?a4 ?a5) ?k1 ?k2 ?k3 ?k4 ?k5 ?kK ?kd ?ku ?_) | (refine' VC.use (within_spec _ _ _ _ (n := 8) _ 256 ?a1 ?a2 ?a3 ?a4 ?a5) ?k1 ?k2 ?k3 ?k4 ?k5 ?kK ?kd ?ku ?_) | (refine' VC.use (within_spec _ _ _ _ (n := 16) _ 65536 ?a1 ?a2 ?a3 ?a4 ?a5) ?k1 ?k2 ?k3 ?k4 ?k5 ?kK ?kd ?ku ?_) | (refine' VC.use (within_spec _ _ _ _ (n := 13) _ 8192 ?a1 ?a2 ?a3 ?a4 ?a5) ?k1 ?k2 ?k3 ?k4 ?k5 ?kK ?kd ?ku ?_)); (case a1 => decide); (case a2 => decide); (case a3 => decide); (case a4 => walk_at "mine fact"); (case a5 => walk_at "mine fact"); walk_at "mine use")))
-- p42_fields
theorem fields_spec (w : World) (news : Led) (x dx : Addr) (k0 k1 k2 k3 k4 k5 k6 k7 k8 k9 v0 v1 v2 v3 v4 v5 v8 v9 : Tok) (src tgt pr id ttl tos : Int) (dont more : Bool) (off : Int) (opt : Array UInt8) (hx : (x, instObj 176 dx) ∈ news) (hdx : (dx, dictOf (hdrL w k0 k1 k2 k3 k4 k5 k6 k7 k8 k9 v0 v1 v2 v3 v4 v5 v8 v9 src tgt pr id ttl tos dont more off opt) 10) ∈ news)
    (b0 : 0 ≤ src) (b1 : src < 4294967296) (b2 : 0 ≤ tgt) (b3 : tgt < 4294967296) (b4 : 0 ≤ pr) (b5 : pr < 256) (b6 : 0 ≤ ttl) (b7 : ttl < 256) (b8 : 0 ≤ tos) (b9 : tos < 256) (c0 : 0 ≤ id) (c1 : id < 65536)
    (c2 : off % 8 = 0) (c3 : 0 ≤ off) (c4 : off < 65536) : VC w 2 194 news [.ref x] (fun _ => .none) := by
  walk_at "mine enter"
  walk_at "mine till iter"
  rename_i F₁ N₁ l₁
  refine iterTup (vs := [.int src v0, .int tgt v1]) rfl F₁ N₁ l₁ rfl rfl ?_ ?_
  · intro v h tk own hv F₂ N₂
    obtain ⟨z, t, rfl, z0, z1⟩ : ∃ z t, v = .int z t ∧ 0 ≤ z ∧ z < 4294967296 := by
      simp only [List.mem_cons, List.not_mem_nil, or_false] at hv
      rcases hv with rfl | rfl
      · exact ⟨_, _, rfl, b0, b1⟩
      · exact ⟨_, _, rfl, b2, b3⟩
    k_steps
    exact InvEndN.intro (nx := news) (by k_asm) (by k_asm) ⟨rfl, fun z hz => if_neg hz⟩ rfl (fun p hp => List.mem_append_left _ hp) (fun p hp => List.mem_append_right _ hp)
  · intro u h tk F₂ N₂
    walk_at "mine till iter"
    rename_i F₁ N₁ l₁
    refine iterTup (vs := [.int pr v2, .int ttl v4, .int tos v5]) rfl F₁ N₁ l₁ rfl rfl ?_ ?_
    · intro v h tk own hv F₂ N₂
      obtain ⟨z, t, rfl, z0, z1⟩ : ∃ z t, v = .int z t ∧ 0 ≤ z ∧ z < 256 := by
        simp only [List.mem_cons, List.not_mem_nil, or_false] at hv
        rcases hv with rfl | rfl | rfl
        · exact ⟨_, _, rfl, b4, b5⟩
        · exact ⟨_, _, rfl, b6, b7⟩
        · exact ⟨_, _, rfl, b8, b9⟩
      k_steps
      exact InvEndN.intro (nx := news) (by k_asm) (by k_asm) ⟨rfl, fun z hz => if_neg hz⟩ rfl (fun p hp => List.mem_append_left _ hp) (fun p hp => List.mem_append_right _ hp)
    · intro u h tk F₂ N₂
      k_steps
      all_goals first | walk_at "mine end" | (exfalso; omega)
-- p43_size
theorem size_spec (w : World) (news : Led) (x dx : Addr) (k0 k1 k2 k3 k4 k5 k6 k7 k8 k9 v0 v1 v2 v3 v4 v5 v8 v9 : Tok) (src tgt pr id ttl tos : Int) (dont more : Bool) (off : Int) (opt : Array UInt8) (hx : (x, instObj 176 dx) ∈ news) (hdx : (dx, dictOf (hdrL w k0 k1 k2 k3 k4 k5 k6 k7 k8 k9 v0 v1 v2 v3 v4 v5 v8 v9 src tgt pr id ttl tos dont more off opt) 10) ∈ news) (hz : opt.size ≤ 65536) : VC w 1 145 news [.ref x] (fun t => .int (20 + opt.size) t) := by
  walk_at "mine enter"
  k_steps
  all_goals walk_at "mine end"
-- m43
local macro_rules | `(tactic| walk_at "call ref") => `(tactic| (k_here; (first | (with_reducible show wpAny _ _ (call (Value.ref 145) _) _ _ _) | ((try dsimp only [List.nil_append, List.cons_append]); (with_reducible show wpAny _ _ (call (Value.ref 145) _) _ _ _))); k_dflt (refine' VC.use (size_spec _ _ _ _ _ _ _ _ _ _ _ _ _ _ _ _ _ _ _ _ _ _ _ _ _ _ _ _ _ _ _ _  ?hx ?hdx ?a1) ?k1 ?k2 ?k3 ?k4 ?k5 ?kK ?kd ?ku ?_; (case k4 => k_asm); (case hx => walk_at "mine mem"); (case hdx => walk_at "mine mem"); (case a1 => walk_at "mine fact"); walk_at "mine use")))
-- p44_csize
theorem csize_spec (w : World) (news : Led) (x dx : Addr) (k0 k1 k2 k3 k4 k5 k6 k7 k8 k9 v0 v1 v2 v3 v4 v5 v8 v9 : Tok) (src tgt pr id ttl tos : Int) (dont more : Bool) (off : Int) (opt : Array UInt8) (hx : (x, instObj 176 dx) ∈ news) (hdx : (dx, dictOf (hdrL w k0 k1 k2 k3 k4 k5 k6 k7 k8 k9 v0 v1 v2 v3 v4 v5 v8 v9 src tgt pr id ttl tos dont more off opt) 10) ∈ news) (p : Array UInt8) (tp : Tok) (hz : opt.size ≤ 40) (hz4 : opt.size % 4 = 0) (hp : p.size ≤ 60000) : VC w 2 201 news [.ref x, .bytes p tp] (fun _ => .none) := by
  walk_at "mine enter"
  k_steps
  all_goals first | walk_at "mine end" | (exfalso; omega)
theorem flags_spec (w : World) (news : Led) (x dx : Addr) (k0 k1 k2 k3 k4 k5 k6 k7 k8 k9 v0 v1 v2 v3 v4 v5 v8 v9 : Tok) (src tgt pr id ttl tos : Int) (dont more : Bool) (off : Int) (opt : Array UInt8) (hx : (x, instObj 176 dx) ∈ news) (hdx : (dx, dictOf (hdrL w k0 k1 k2 k3 k4 k5 k6 k7 k8 k9 v0 v1 v2 v3 v4 v5 v8 v9 src tgt pr id ttl tos dont more off opt) 10) ∈ news) (ho : off = 0) (hd0 : dont = false) (hm0 : more = false) : VC w 1 208 news [.ref x] (fun t => .int 0 t) := by
  subst ho hd0 hm0
  walk_at "mine enter"
  k_steps
  all_goals walk_at "mine end"
-- p45_pack
/-- what pack_ip makes -/
def headA (src tgt pr id ttl tos : Int) (opt p : Array UInt8) (c : Int) : Array UInt8 :=
  byteArr [4 * 16 + (20 + (opt.size : Int)) / 4, tos] ++ (put16A (20 + opt.size + p.size) ++ put16A id ++ put16A 0) ++ byteArr [ttl, pr] ++ put16A c ++ (put32A src ++ put32A tgt ++ opt)
def packA (src tgt pr id ttl tos : Int) (opt p : Array UInt8) : Array UInt8 :=
  headA src tgt pr id ttl tos opt p (checkA (headA src tgt pr id ttl tos opt p 0)) ++ p
-- m34
local macro_rules | `(tactic| walk_at "call ref") => `(tactic| (k_here; (with_reducible show wpAny _ _ (call (Value.ref 123) _) _ _ _); k_dflt (refine' VC.use (check_spec _ _ _ _ ?a1 ?a2) ?k1 ?k2 ?k3 ?k4 ?k5 ?kK ?kd ?ku ?_; (case a1 => walk_at "mine fact"); (case a2 => walk_at "mine fact"); walk_at "mine use")))
-- m42
local macro_rules | `(tactic| walk_at "call ref") => `(tactic| (k_here; (with_reducible show wpAny _ _ (call (Value.ref 194) _) _ _ _); k_dflt (refine' VC.use (fields_spec _ _ _ _ _ _ _ _ _ _ _ _ _ _ _ _ _ _ _ _ _ _ _ _ _ _ _ _ _ _ _ _  ?hx ?hdx ?a1 ?a2 ?a3 ?a4 ?a5 ?a6 ?a7 ?a8 ?a9 ?a10 ?a11 ?a12 ?a13 ?a14 ?a15) ?k1 ?k2 ?k3 ?k4 ?k5 ?kK ?kd ?ku ?_; (case k4 => k_asm); (case hx => walk_at "mine mem"); (case hdx => walk_at "mine mem"); walk_at "mine as"; walk_at "mine use")))
-- m44
local macro_rules | `(tactic| walk_at "call ref") => `(tactic| (k_here; (with_reducible show wpAny _ _ (call (Value.ref 201) _) _ _ _); k_dflt (refine' VC.use (csize_spec _ _ _ _ _ _ _ _ _ _ _ _ _ _ _ _ _ _ _ _ _ _ _ _ _ _ _ _ _ _ _ _  ?hx ?hdx _ _ ?a1 ?a2 ?a3) ?k1 ?k2 ?k3 ?k4 ?k5 ?kK ?kd ?ku ?_; (case k4 => k_asm); (case hx => walk_at "mine mem"); (case hdx => walk_at "mine mem"); walk_at "mine as"; walk_at "mine use")))
local macro_rules | `(tactic| walk_at "call ref") => `(tactic| (k_here; (with_reducible show wpAny _ _ (call (Value.ref 208) _) _ _ _); k_dflt (refine' VC.use (flags_spec _ _ _ _ _ _ _ _ _ _ _ _ _ _ _ _ _ _ _ _ _ _ _ _ _ _ _ _ _ _ _ _  ?hx ?hdx ?a1 ?a2 ?a3) ?k1 ?k2 ?k3 ?k4 ?k5 ?kK ?kd ?ku ?_; (case k4 => k_asm); (case hx => walk_at "mine mem"); (case hdx => walk_at "mine mem"); (case a1 => first | exact rfl | assumption); (case a2 => first | exact rfl | assumption); (case a3 => first | exact rfl | assumption); walk_at "mine use")))
-- p46_pack
theorem pack_spec (w : World) (news : Led) (x dx : Addr) (k0 k1 k2 k3 k4 k5 k6 k7 k8 k9 v0 v1 v2 v3 v4 v5 v8 v9 : Tok) (src tgt pr id ttl tos : Int) (dont more : Bool) (off : Int) (opt : Array UInt8) (hx : (x, instObj 176 dx) ∈ news) (hdx : (dx, dictOf (hdrL w k0 k1 k2 k3 k4 k5 k6 k7 k8 k9 v0 v1 v2 v3 v4 v5 v8 v9 src tgt pr id ttl tos dont more off opt) 10) ∈ news) (p : Array UInt8) (tp : Tok) (hz : opt.size ≤ 40) (hz4 : opt.size % 4 = 0) (hp : p.size ≤ 1000)
    (b0 : 0 ≤ src) (b1 : src < 4294967296) (b2 : 0 ≤ tgt) (b3 : tgt < 4294967296) (b4 : 0 ≤ pr) (b5 : pr < 256) (b6 : 0 ≤ ttl) (b7 : ttl < 256) (b8 : 0 ≤ tos) (b9 : tos < 256) (c0 : 0 ≤ id) (c1 : id < 65536)
    (ho : off = 0) (hd0 : dont = false) (hm0 : more = false) : VC w 4 215 news [.ref x, .bytes p tp] (fun t => .bytes (packA src tgt pr id ttl tos opt p) t) := by
  subst ho hd0 hm0
  walk_at "mine enter"
  k_steps
  all_goals walk_at "mine end"
-- p50_exc
/-! an exception of the text's own class: its message stored -/
section
variable {prog : Program} {w : World} {A : Around} {E : Value → Shared → Prop}
theorem refuse_form (self : Value) : refuseLoop self "__setattr__" [.ref 51, .ref 38, .type "Exception", .type "BaseException", .type "object"] = pure () := by
  rw [refuseLoop_ref, refuseLoop_ref]
  kernel_rfl
theorem exc_set {K : Frag} {h : Heap} {g : Array GenState} {d : Drawn} {t : Nat} {os : OsState} (X : K.In h) {e : Addr} {fs : Array Value} {cd : ClassData} {name : Str} {v : Value} {Q : Unit → Shared → Prop}
    (he : h.get? e = some { cls := .ref 51, data := .fields fs })
    (hs : findIn K (.ref 51) "__setattr__" = some (some (.builtin "object.__setattr__"))) (hc : clsIn K 51 = some cd) (hmro : cd.mro = [.ref 51, .ref 38, .type "Exception", .type "BaseException", .type "object"])
    (hd : cd.hasDict = true) (hm : findIn K (.ref 51) name = some none) (hsub : subIn K (.ref 51) (.type "object") = some true)
    (hQ : ∀ h' tk', (∀ b o, b ≠ e → h.get? b = some o → h'.get? b = some o) → (∃ dx, h'.get? e = some { cls := .ref 51, dict := some dx, data := .fields fs }) → Q () ⟨h', g, d, tk', os⟩) :
    wpAny (model prog w) A (setAttr (.ref e) name v) Q E ⟨h, g, d, t, os⟩ := by
  have I : InstAt h e { cls := .ref 51, data := .fields fs } 51 none := ⟨he, rfl, rfl, trivial⟩
  refine set_plain (s := ⟨h, g, d, t, os⟩) X I hs ?_
  have SF := PySem.F.store_object
  refine codeAny_call_builtin SF.slot.plain SF.entry (@check_slot (model prog w) _ _ ⟨h, g, d, t + 1, os⟩ "object.__setattr__" "object" "__setattr__" (.ref e) [.str name t, v] [] _ SF.kind SF.split (I.type.andThen (looks_subIn X hsub)) (SF.args (.ref e) (.str name t) v) ?_)
  have hmr : Looks (model prog w) h (mroOf (.ref 51)) cd.mro := (looks_clsIn X hc).andThen .now
  rw [osa_eq, refuse_eq]
  refine wpAny_bind (wpAny_bind (I.type.here (wpAny_bind (hmr.here ?_))))
  rw [hmro, refuse_form]
  refine wpAny_pure (wpAny_bind (I.type.here (wpAny_bind ((looks_findIn X hm).here (wpAny_bind (wpAny_pure ?_))))))
  refine wpAny_bind (wpAny_pure (wpAny_bind ?_))
  refine wpAny_bind (wpAny_loadPart he (wpAny_bind ((looks_clsIn X hc).here ?_)))
  rw [hd]
  refine wpAny_bind (wpAny_alloc ?_)
  have hlt : e ≠ h.objs.size := Nat.ne_of_lt (Heap.lt_size he)
  refine wpAny_bind (wpAny_update (Heap.get?_push_of_some _ he) ?_)
  refine wpAny_pure (wpAny_bind (wpAny_pure (wpAny_bind ?_)))
  have hD : ((h.push { cls := .type "dict", data := .dict #[] }).update e fun o => { o with dict := some h.objs.size }).get? h.objs.size = some { cls := .type "dict", data := .dict #[] } :=
    (Heap.get?_update_other _ _ hlt).trans (Heap.get?_push_size h rfl)
  have hE : ((h.push { cls := .type "dict", data := .dict #[] }).update e fun o => { o with dict := some h.objs.size }).get? e = some { cls := .ref 51, dict := some h.objs.size, data := .fields fs } :=
    Heap.get?_update_self (fun o => { o with dict := some h.objs.size }) (Heap.get?_push_of_some _ he) rfl
  unfold nsSet
  refine wpAny_bind (wpAny_bind (wpAny_askSetting (wpAny_pure (wpAny_bind (wpAny_mkText (wpAny_bind (wpAny_loadPart hD ?_)))))))
  refine wpAny_updatePart hD ?_
  refine wpAny_bind (wpAny_lookBehind (o := dictOf (putL name (PyData.keyHash w.params name) (.str name (t + 1)) v []) (putN name [] 0)) ?_ ?_ ?_)
  · rw [← putName_dict]
    exact Heap.get?_update_self (Obj.putName name (PyData.keyHash w.params name) (.str name (t + 1)) v) hD (by first | rfl | (rw [putName_dict]; rfl))
  · exact pastItsLine_dict (by rw [List.size_toArray]; show 1 ≤ _; rw [sizeLine_eq]; omega)
  · refine wpAny_pure (hQ _ _ (fun b o hb ho => ?_) ⟨h.objs.size, (Heap.get?_update_other _ _ (Ne.symm hlt)).trans hE⟩)
    exact (Heap.get?_update_other _ _ (Ne.symm (Nat.ne_of_lt (Heap.lt_size ho)))).trans ((Heap.get?_update_other _ _ (Ne.symm hb)).trans (Heap.get?_push_of_some _ ho))
end
-- p51_exc
section
variable {prog : Program} {w : World} {A : Around} {E : Value → Shared → Prop} {h : Heap} {g : Array GenState} {d : Drawn} {t : Nat} {os : OsState}
variable {nm q : Str} {C N : Addr} {bs bmB : List Value} {hdct : Bool} {sn : List Str} {sub : List Value} {ab : Bool} {col : Option Bool} {dd : Option Addr} {k0 k1 k2 k3 k5 : Option Value} {B newId initId : String}

/-- the maker of an own class's exception, the class's own base bearing the __init__ -/
theorem my_new (F : ExcBaseFacts B newId initId bmB) {D : Addr} {rest : List Value} {R : Result → Shared → Prop}
    (hC : h.get? C = some (excClassObj nm q C N bs (.ref D :: bmB) hdct sn sub ab col dd k0 k1 k2 k3 k5 newId))
    (hq : R (.ok (.ret (.ref (h.objs.size + 1)))) ⟨(h.push { cls := .type "tuple", data := .seq rest.toArray }).push
      { cls := .ref C, data := .fields #[.ref h.objs.size, .none, .none, .none, .bool false, .none] }, g, d, t, os⟩) (hrest : rest.length ≤ sizeLine) :
    codeAny (model prog w) A (.builtin newId ⟨.ref C :: rest, []⟩) R ⟨h, g, d, t, os⟩ := by
  have hT : ∀ X, (Value.ref D :: bmB).contains (.type X) = bmB.contains (.type X) := fun X => by rw [List.contains_cons]; rfl
  have hends := F.ends
  have hcB : (Value.ref C :: Value.ref D :: bmB).contains (.type B) = true := by rw [List.contains_cons, hT, F.hasB, Bool.or_true]
  have hcA : (Value.ref C :: Value.ref D :: bmB).contains (.type "AttributeError") = false := by rw [List.contains_cons, hT, F.noAttr]; rfl
  have hcN : (Value.ref C :: Value.ref D :: bmB).contains (.type "NameError") = false := by rw [List.contains_cons, hT, F.noName]; rfl
  refine codeAny_builtinAt F.entry ?_
  unfold Builtin.«BaseException.__new__»
  refine PySem.wpAt_bind ?_
  show PySem.wpAt _ _ _ (stack >>= _) _ _ _
  refine PySem.wpAt_bind (PySem.wpAt_stack fun p below => PySem.wpAt_of_wpAny ?_)
  wp_walk
  refine PySem.wpAt_of_wpAny ?_
  rw [F.owner]
  repeat (first | with_reducible refine wpAny_madeHere_exc F.canon hC ?_ | with_reducible refine wpAny_loadPart_at hC ?_ | (with_reducible refine wpAny_isSubtype_exc hC ?_; first | rw [hcB] | rw [hcA] | rw [hcN]) | wp_step)
  show R _ _
  rw [Heap.size_push]
  exact hq

theorem my_check_new (F : ExcBaseFacts B newId initId bmB) {D : Addr} {rest : List Value} {Q : Unit → Shared → Prop} (hC : h.get? C = some (excClassObj nm q C N bs (.ref D :: bmB) hdct sn sub ab col dd k0 k1 k2 k3 k5 newId))
    (hq : Q () ⟨h, g, d, t, os⟩) : wpAny (model prog w) A (checkBuiltinCall newId ⟨.ref C :: rest, []⟩) Q E ⟨h, g, d, t, os⟩ := by
  have hT : ∀ X, (Value.ref D :: bmB).contains (.type X) = bmB.contains (.type X) := fun X => by rw [List.contains_cons]; rfl
  have hcont : (Value.ref C :: Value.ref D :: bmB).contains (.type B) = true := by rw [List.contains_cons, hT, F.hasB, Bool.or_true]
  have hstar := F.noStar
  simp only [checkBuiltinCall, F.newKind, F.newSplit, F.newRow]
  repeat (first | refine wpAny_loadPart_at hC ?_ | (refine wpAny_isSubtype_exc hC ?_; rw [hcont]) | refine wpAny_staticBase_exc hC ?_ | refine wpAny_madeBy_exc hC ?_ | simp only [bne_self_eq_false, Bool.false_eq_true, if_false] | wp_step)
  exact hq

theorem my_type_call (F : ExcBaseFacts B newId initId bmB) {K : Frag} {D : Addr} {rest : List Value} {fI : Addr} {oI : Obj} {Q : Fin → Shared → Prop} (X : K.In h)
    (hC : h.get? C = some (excClassObj nm q C N bs (.ref D :: bmB) hdct sn sub ab col dd k0 k1 k2 k3 k5 newId)) (hi : findIn K (.ref C) "__init__" = some (some (.ref fI)))
    (hfI : h.get? fI = some oI) (hfc : oI.cls = .type "function")
    (hq : ∀ h' e, Heap.MadeExcOf h h' e (.ref C) rest →
      wpAny (model prog w) A (call (.ref fI) (.ref e :: rest)) (fun r s' => r = .none ∧ Q (.done (.ret (.ref e))) s') E ⟨h', g, d, t, os⟩) (hrest : rest.length ≤ sizeLine) :
    wpAny (model prog w) A (Builtin.«type.__call__» ⟨.ref C :: rest, []⟩) Q E ⟨h, g, d, t, os⟩ := by
  repeat (first | with_reducible refine wpAny_loadPart_at hC ?_ | with_reducible refine wpAny_madeBy_exc hC ?_ | wp_step)
  refine codeAny_call_builtin_code (Code.quiet_builtin _ F.quiet) (my_check_new F hC ?_)
  refine my_new F hC ?_ hrest
  show wpAny _ _ _ _ _ _
  have keep : ∀ b o, h.get? b = some o → ((h.push { cls := .type "tuple", data := .seq rest.toArray }).push { cls := .ref C, data := .fields #[.ref h.objs.size, .none, .none, .none, .bool false, .none] }).get? b = some o :=
    fun b o hb => Heap.get?_push_of_some _ (Heap.get?_push_of_some _ hb)
  have hC₁ := keep _ _ hC
  have hfI₁ := keep _ _ hfI
  have X₁ := X.keeps keep
  have hget : ((h.push { cls := .type "tuple", data := .seq rest.toArray }).push
      { cls := .ref C, data := .fields #[.ref h.objs.size, .none, .none, .none, .bool false, .none] }).get? (h.objs.size + 1) = some
      { cls := .ref C, data := .fields #[.ref h.objs.size, .none, .none, .none, .bool false, .none] } := by heap_get
  have hcC : (Value.ref C :: Value.ref D :: bmB).contains (.ref C) = true := by simp
  unfold isInstance
  repeat (first | with_reducible refine wpAny_loadPart_at hget ?_ | (with_reducible refine wpAny_isSubtype_exc hC₁ ?_; rw [hcC]) | wp_step)
  show wpAny _ _ (typeLookup (.ref C) _) _ _ _
  refine (looks_findIn X₁ hi).here ?_
  refine wpAny_holding (wpAny_bind ?_)
  unfold bindSpecial
  refine wpAny_bind (wpAny_typeOf (T := "function") ⟨_, hfI₁, hfc⟩ ?_)
  rw [if_pos (by decide)]
  refine wpAny_pure (wpAny_bind (wpAny_mono (hq _ (h.objs.size + 1) ⟨keep, Heap.get?_none_of_le (Nat.le_succ _), h.objs.size, hget, Heap.get?_none_of_le (Nat.le_refl _), ?_⟩) (fun r s' hr => ?_) fun _ _ x => x))
  · exact Heap.get?_push_of_some _ (Heap.get?_push_at rfl rfl)
  · obtain ⟨rfl, hQ⟩ := hr
    wp_walk
    exact hQ

theorem my_call_exc (F : ExcBaseFacts B newId initId bmB) {K : Frag} {D : Addr} {rest : List Value} {fI : Addr} {oI : Obj} {Q : Value → Shared → Prop} (X : K.In h)
    (hC : h.get? C = some (excClassObj nm q C N bs (.ref D :: bmB) hdct sn sub ab col dd k0 k1 k2 k3 k5 newId)) (hi : findIn K (.ref C) "__init__" = some (some (.ref fI)))
    (hfI : h.get? fI = some oI) (hfc : oI.cls = .type "function")
    (hq : ∀ h' e, Heap.MadeExcOf h h' e (.ref C) rest →
      wpAny (model prog w) (A.under (.builtin "type.__call__" ⟨.ref C :: rest, []⟩)) (call (.ref fI) (.ref e :: rest)) (fun r s' => r = .none ∧ Q (.ref e) s') E ⟨h', g, d, t, os⟩) (hrest : rest.length ≤ sizeLine) :
    wpAny (model prog w) A (call (.ref C) rest) Q E ⟨h, g, d, t, os⟩ := by
  have f1 := tc_lookup
  have f2 := tc_bind (.ref C)
  have hT : (⟨h, g, d, t, os⟩ : Shared).TypeIs (.ref C) "type" := ⟨_, hC, rfl⟩
  refine wpAny_call (codeAny_of_tree ?_)
  show wpAny _ _ (callAny (.ref C) _) _ _ _
  repeat (any_goals (first | assumption | with_reducible refine wpAny_loadPart_at hC ?_ | wp_step))
  refine ⟨rfl, ?_⟩
  refine codeAny_call_builtin_at (Code.quiet_builtin _ (by decide +kernel)) entry_typeCall (wpAny_check_type_call_sub hC (my_type_call (hrest := hrest) F X hC hi hfI hfc fun h' e hm => ?_))
  exact hq h' e hm
end
-- p52_exc
theorem new_form {w : World} {A : Around} {E Q : Value → Shared → Prop} {h : Heap} {g : Array GenState} {dr : Drawn} {t : Nat} {os : OsState} {msg : Str} {tm : Tok}
    {mean : ExcName → Option Value} {mg mb : Str → Option Value}
    (X : (hK w.params).In h) (T : Top hQ (looseW hQ [Str.ofString "ones_sum", Str.ofString "checksum", Str.ofString "IpHeader"]) mean mg mb h)
    (hroom : (A.under (.builtin "type.__call__" ⟨[.ref 51, .str msg tm], []⟩)).depth < recursionLimit)
    (hq : ∀ h' e tk', (∀ b o, h.get? b = some o → h'.get? b = some o) → h.get? e = none →
      (∃ d t, h'.get? e = some { cls := .ref 51, dict := some d, data := .fields #[.ref t, .none, .none, .none, .bool false, .none] }) → Q (.ref e) ⟨h', g, dr, tk', os⟩) :
    wpAny (model PySem.Challenge.rw_qz0161_01.row.prog w) A (call (.ref 51) [.str msg tm]) Q E ⟨h, g, dr, t, os⟩ := by
  have X' := X
  revert X'
  k_fill
  intro _
  refine my_call_exc (fI := 35) (D := 38) PySem.F.excBase_Exception X (X _ _ (by k_is)) (by k_is) (X _ _ (by k_is)) rfl ?_ (by size_fits)
  intro h₁ e hm
  obtain ⟨te, he, hte, _⟩ := hm.there
  have X₁ := X.keeps hm.keeps
  refine wpAny_call ?_
  refine codeAny_call_def (fd := fnOf _ _ _ _ _ _ _ _ _ _ _ _) (body := _) (binds := [(Str.ofString "self", .ref e), (Str.ofString "message", .str msg tm)]) hroom (X₁ _ _ (by k_is)) rfl (T.nolimit.keeps hm.keeps) (codeRec_of X₁ (by k_is)) rfl (BindsTo.of_eq rfl) (by decide) (locs rfl) (fun h₂ hns hk₂ => ?_) rfl rfl rfl
  have X₂ := X₁.keeps hk₂
  refine wpAny_execs_cons (plainObj_wpAny_Assign_Attribute ?_)
  refine wpAny_Name (wpAny_loadName_local rfl rfl hns rfl ?_) (by decide)
  refine wpAny_Name (wpAny_loadName_local rfl rfl hns rfl ?_) (by decide)
  refine exc_set X₂ (hk₂ _ _ he) (by k_is) (by k_is) rfl rfl (by k_is) (by k_is) ?_
  intro h₃ tk₃ hk₃ hd₃
  refine wpAny_execs_nil ⟨rfl, hq h₃ e tk₃ (fun b o hb => hk₃ b o ?_ (hk₂ _ _ (hm.keeps _ _ hb))) hm.new ?_⟩
  · intro q
    have := hm.new
    rw [← q, hb] at this
    cases this
  · obtain ⟨dx, hx⟩ := hd₃
    exact ⟨dx, te, hx⟩
-- p53_exc
/-- a FormError, freshly made -/
structure NewForm (h h' : Heap) (e : Addr) : Prop where
  keeps : ∀ b o, h.get? b = some o → h'.get? b = some o
  new : h.get? e = none
  there : ∃ d t, h'.get? e = some { cls := .ref 51, dict := some d, data := .fields #[.ref t, .none, .none, .none, .bool false, .none] }
def FormRaisable (K : Frag) (E : Value → Shared → Prop) (v : Value) (s₁ : Shared) : Prop :=
  ∃ a d t, v = .ref a ∧ K.In s₁.heap ∧ s₁.heap.get? a = some { cls := .ref 51, dict := some d, data := .fields #[.ref t, .none, .none, .none, .bool false, .none] } ∧ E (.ref a) s₁
theorem my_raise {K : Frag} {prog : Program} {w : World} {A : Around} {E : Value → Shared → Prop} {s : Shared} {env : Env} {e : PySem.Expr} {pos : Pos} {Q : Flow → Shared → Prop} (hh : A.handled = none)
    (hb : subIn K (.ref 51) (.type "BaseException") = some true) (ht : typeIn K (.ref 51) = some (.type "type"))
    (h : wpAny (model prog w) A (eval e env) (FormRaisable K E) E s) : wpAny (model prog w) A (exec (.Raise (some e) none pos) env) Q E s := by
  show wpAny (model prog w) A (do standAt pos; raiseStmt env (some (do let v ← eval e env; standAt pos; pure v)) none) Q E s
  refine wpAny_bind (wpAny_standAt ?_)
  unfold raiseStmt
  dsimp only
  refine wpAny_bind (wpAny_bind (wpAny_mono h (fun v s₁ h₁ => wpAny_bind (wpAny_standAt (wpAny_pure ?_))) fun _ _ x => x))
  obtain ⟨a, d, t, rfl, X, ha, hE⟩ := h₁
  obtain ⟨hp, gn, dr, tk, os⟩ := s₁
  have LT : Looks (model prog w) hp (typeOf (.ref a)) (.ref 51) := (Looks.ld ha).andThen .now
  have LI : Looks (model prog w) hp (isInstance (.ref a) (.type "BaseException")) true := LT.andThen (looks_subIn X hb)
  have hnt : ∀ {Q' : Bool → Shared → Prop}, Q' false ⟨hp, gn, dr, tk, os⟩ → wpAny (model prog w) A (isType (.ref a)) Q' E ⟨hp, gn, dr, tk, os⟩ := by
    intro Q' hq
    simp only [isType, loadHead]
    exact wpAny_bind (wpAny_loadPart ha (wpAny_pure hq))
  refine wpAny_bind (wpAny_pure ?_)
  dsimp only
  refine wpAny_bind (wpAny_holding ?_)
  unfold excFromValue isExcClass
  refine wpAny_bind (wpAny_bind (hnt ?_))
  simp only [Bool.false_eq_true, if_false]
  refine wpAny_pure ?_
  simp only [Bool.false_eq_true, if_false]
  refine wpAny_bind (LI.here ?_)
  simp only [if_true]
  refine wpAny_pure ?_
  refine wpAny_bind (hnt ?_)
  simp only [Bool.false_eq_true, if_false]
  unfold raisedInstance
  refine wpAny_bind (wpAny_bind (LT.here (wpAny_bind ((looks_typeIn X ht).here ?_))))
  rw [if_pos (by decide)]
  refine wpAny_pure ?_
  unfold setFlight raiseNew
  refine wpAny_bind (wpAny_bind (wpAny_field ha rfl (x := .none) rfl ?_))
  rw [if_neg (by decide)]
  refine wpAny_pure (wpAny_bind (wpAny_handled ?_))
  rw [hh]
  first
    | exact wpAny_throw hE
    | exact wpAny_bind (wpAny_pure (wpAny_throw hE))

theorem leave_form {M : Model} {A : Around} {E : Value → Shared → Prop} {s' : Shared} {base g h : Heap} {outer : List Env} {L a e : Addr} {m : Str → Option Value} {name : Str} {scope : Scope} {cd : Value} {Q : Unit → Shared → Prop} {news : List (Addr × Obj)}
    (K : Below A base outer g) (hx : NewForm h s'.heap e) (F : Fr g L h m) (N : News g L h news)
    (hQ : ∀ h', RaisedSN base g outer e (.ref 51) news h' → g.UpToSlots h' → Q () { s' with heap := h' }) (hk : scope.kind = .function := by rfl) :
    wpAny M (A.deeper (envOf name scope L a cd)) (leaving (envOf name scope L a cd) (.ref e)) Q E s' := by
  have K' := K.push (name := name) (a := a) (cd := cd) F hk
  have hin : ∀ env ∈ (envOf name scope L a cd :: outer), ∀ b, env.frame = some b → b ∈ (envOf name scope L a cd :: outer).filterMap (·.frame) := fun env he b hb => List.mem_filterMap.mpr ⟨env, he, hb⟩
  have st : base.StaysIn (hideAll h ((envOf name scope L a cd :: outer).filterMap (·.frame))) := fun b o q => hideAll_get _ (K'.stays b o q) fun hm => by
    rw [(K'.frames.mem hm).1] at q; cases q
  have sg : ∀ b o, g.get? b = some o → b ∉ outer.filterMap (·.frame) → (hideAll h ((envOf name scope L a cd :: outer).filterMap (·.frame))).get? b = some o := fun b o q nm => hideAll_get _ (F.keep b o q) fun hm => by
    rcases kts_mem hm with z | z
    · rw [z, kts_self F] at q
      cases q
    · exact nm z
  have hl : ∀ q ∈ news, (hideAll h ((envOf name scope L a cd :: outer).filterMap (·.frame))).get? q.1 = some q.2 ∧ g.get? q.1 = none ∧ base.get? q.1 = none := fun q hq => by
    refine ⟨hideAll_get _ (N q hq).1 fun hm => ?_, (N q hq).2.2, fresh_of_stays K.stays (N q hq).2.2⟩
    obtain ⟨env, he, hf⟩ := List.mem_filterMap.mp hm
    rcases List.mem_cons.mp he with rfl | he
    · exact (N q hq).2.1 (Option.some.inj hf).symm
    · obtain ⟨o, ho, _⟩ := (K.frames.mem (List.mem_filterMap.mpr ⟨env, he, hf⟩)).2
      rw [(N q hq).2.2] at ho; cases ho
  obtain ⟨d, tp, he⟩ := hx.there
  have hen : (hideAll h ((envOf name scope L a cd :: outer).filterMap (·.frame))).get? e = none := by
    cases q : (hideAll h ((envOf name scope L a cd :: outer).filterMap (·.frame))).get? e with
    | none => rfl
    | some o => have := of_hideAll _ q; rw [hx.new] at this; cases this
  refine wpAny_leaving_firstW (a0 := .ref tp) K'.stack ((funFrames_hide K'.frames hin).of_keeps fun b o hb _ => ⟨o, hx.keeps b o hb, rfl⟩) rfl he (fun b o hb => hx.keeps b o (of_hideAll _ hb)) hen rfl rfl rfl fun h' hL => ?_
  obtain ⟨k1, ⟨_, _, k2⟩, k3, k4⟩ := hL
  exact hQ h' ⟨_, .ref tp, st, sg, hl, k1, hen, k2, k3⟩ (((Heap.UpToSlots.of_keeps F.keep).trans (Heap.UpToSlots.of_keeps hx.keeps)).trans k4)

/-- a def of the text that raises a FormError -/
def XC (w : World) (d : Nat) (f : Addr) (news : Led) (vs : List Value) : Prop :=
  ∀ (mean : ExcName → Option Value) (mg mb : Str → Option Value) (dp un : Nat) (gd : Option (List Code)) (cn : Str) (cs : Scope) (a : Addr) (ccd : Value) (cl : List (Str × Addr)) (outer : List Env) (A₀ : Around) (base h₀ : Heap) (L : Addr) (m : Str → Option Value) (s : Shared) (Q E : Value → Shared → Prop),
    Below A₀ base outer h₀ → Fr h₀ L s.heap m → (hK w.params).In h₀ → News h₀ L s.heap news → Top hQ (looseW hQ [Str.ofString "ones_sum", Str.ofString "checksum", Str.ofString "IpHeader"]) mean mg mb h₀ → cs.kind = .function →
    dp + d < recursionLimit → un + 8 * d < cLine →
    (∀ (e : Addr) (g₂ h' : Heap) (tk' : Nat), Fr h₀ L g₂ m → RaisedSN base g₂ (envX cn cs L a ccd cl :: outer) e (.ref 51) news h' → g₂.UpToSlots h' → E (.ref e) { s with heap := h', toks := tk' }) →
    wpAny (model PySem.Challenge.rw_qz0161_01.row.prog w) (ktrTop dp un gd cn cs L a ccd cl outer) (call (.ref f) vs) Q E s

theorem XC.use {w : World} {d : Nat} {f : Addr} {news : Led} {vs : List Value} {mean : ExcName → Option Value} {mg mb : Str → Option Value} {dp un : Nat} {gd : Option (List Code)} {cn : Str} {cs : Scope} {a : Addr} {ccd : Value} {cl : List (Str × Addr)} {outer : List Env} {A₀ : Around} {base h₀ : Heap} {L : Addr} {m : Str → Option Value} {s : Shared} {Q E : Value → Shared → Prop}
    (C : XC w d f news vs) (B : Below A₀ base outer h₀) (F : Fr h₀ L s.heap m) (X : (hK w.params).In h₀) (N : News h₀ L s.heap news) (T : Top hQ (looseW hQ [Str.ofString "ones_sum", Str.ofString "checksum", Str.ofString "IpHeader"]) mean mg mb h₀) (hk : cs.kind = .function)
    (hd : dp + d < recursionLimit) (hu : un + 8 * d < cLine)
    (h : ∀ (e : Addr) (g₂ h' : Heap) (tk' : Nat), Fr h₀ L g₂ m → RaisedSN base g₂ (envX cn cs L a ccd cl :: outer) e (.ref 51) news h' → g₂.UpToSlots h' → E (.ref e) { s with heap := h', toks := tk' }) :
    wpAny (model PySem.Challenge.rw_qz0161_01.row.prog w) (ktrTop dp un gd cn cs L a ccd cl outer) (call (.ref f) vs) Q E s :=
  C _ _ _ _ _ _ _ _ _ _ _ _ _ _ _ _ _ _ _ _ B F X N T hk hd hu h
theorem raised_drop {base G : Heap} {l : List Env} {e : Addr} {cls : Value} {news news' : Led} {h : Heap} (R : RaisedSN base G l e cls news' h) (hs : ∀ p ∈ news, p ∈ news') : RaisedSN base G l e cls news h := by
  obtain ⟨B, a0, hB, hBG, hl, hfl⟩ := R
  exact ⟨B, a0, hB, hBG, fun q hq => hl q (hs q hq), hfl⟩
-- p60_raise
theorem my_raiseF {w : World} {A : Around} {E : Value → Shared → Prop} {s : Shared} {env : Env} {e : PySem.Expr} {pos : Pos} {Q : Flow → Shared → Prop} (hh : A.handled = none)
    (hb : subIn (hK w.params) (.ref 51) (.type "BaseException") = some true) (ht : typeIn (hK w.params) (.ref 51) = some (.type "type"))
    (h : wpAny (model PySem.Challenge.rw_qz0161_01.row.prog w) A (eval e env) (FormRaisable (hK w.params) E) E s) : wpAny (model PySem.Challenge.rw_qz0161_01.row.prog w) A (exec (.Raise (some e) none pos) env) Q E s := my_raise hh hb ht h
-- m60
local macro_rules | `(tactic| walk_at "mine enterX") => `(tactic| (unfold XC; k_fill; intro mean mg mb dp un gd cn cs a ccd cl outer A₀ base h₀ L m s Q E B F X N T hk hd hu hret; refine wpAny_call ?_; k_dflt (walk_at "mine code")))
local macro_rules | `(tactic| walk_at "exec Raise some none") => `(tactic| (k_here; (with_reducible show wpAny _ _ (exec (Stmt.Raise (some (Expr.Call (Expr.Name _ _) (_ :: _) [] _)) none _) _) _ _ _); k_dflt (refine' my_raiseF ?hh ?hb ?ht ?_; (case hh => exact rfl); (case hb => k_is); (case ht => k_is); k_whole)))
local macro_rules | `(tactic| walk_at "call ref") => `(tactic| (k_here; (with_reducible show wpAny _ _ (call (Value.ref 51) [Value.str _ _]) _ _ _); k_dflt (walk_at "mine form")))
local macro_rules | `(tactic| walk_at "mine form") => `(tactic| ((with_reducible rename Fr _ _ _ _ => kF6); (with_reducible rename News _ _ _ _ => kN6); (refine' new_form (Frag.In.keeps ?kx kF6.keep) (Top.keeps ?kt kF6.keep) ?kr ?_; (case kx => k_asm); (case kt => k_asm); (case kr => ktr_room); intro h9 e9 tk9 keep9 new9 there9; refine ⟨e9, there9.choose, there9.choose_spec.choose, rfl, ?_, there9.choose_spec.choose_spec, ?_⟩; (exact Frag.In.keeps (Frag.In.keeps (by k_asm) kF6.keep) keep9); k_unfold; (try dsimp only); (refine' leave_form ?kb ⟨keep9, new9, there9⟩ kF6 kN6 ?_; (case kb => k_asm); intro h8 R8 U8; (rename ∀ (e : Addr) (g₂ h' : Heap) (tk' : Nat), Fr _ _ g₂ _ → _ => hret); refine hret _ _ _ _ ?k1 (raised_drop R8 ?k2) U8; (case k1 => k_asm); (case k2 => walk_at "mine sub")))))
-- p61_head
theorem head_cut (w : World) (news : Led) (b : Array UInt8) (tb : Tok) (hb : 20 ≤ b.size) (hz : b.size ≤ 65536) (h4 : oct b (Int.toNat 0) / 16 = 4) (hs : (b.size : Int) < oct b (Int.toNat 0) % 16 * 4) : XC w 3 222 news [.bytes b tb] := by
  walk_at "mine enterX"
  k_steps
  all_goals (exfalso; omega)
theorem head_spec (w : World) (news : Led) (b : Array UInt8) (tb : Tok) (hb : 20 ≤ b.size) (hz : b.size ≤ 65536) (h4 : oct b (Int.toNat 0) / 16 = 4) (hs : oct b (Int.toNat 0) % 16 * 4 ≤ (b.size : Int)) (hs' : 20 ≤ oct b (Int.toNat 0) % 16 * 4) : VC w 1 222 news [.bytes b tb] (fun t => .int (oct b (Int.toNat 0) % 16 * 4) t) := by
  walk_at "mine enter"
  k_steps
  all_goals first | walk_at "mine end" | (exfalso; omega)
-- p62_unpack
/-- a def of the text that gives back a new thing -/
def VN (w : World) (d : Nat) (f : Addr) (news : Led) (vs : List Value) (P : Value → Led → Prop) : Prop :=
  ∀ (mean : ExcName → Option Value) (mg mb : Str → Option Value) (dp un : Nat) (gd : Option (List Code)) (cn : Str) (cs : Scope) (a : Addr) (ccd : Value) (cl : List (Str × Addr)) (outer : List Env) (A₀ : Around) (base h₀ : Heap) (L : Addr) (m : Str → Option Value) (s : Shared) (Q E : Value → Shared → Prop),
    Below A₀ base outer h₀ → Fr h₀ L s.heap m → (hK w.params).In h₀ → News h₀ L s.heap news → Top hQ (looseW hQ [Str.ofString "ones_sum", Str.ofString "checksum", Str.ofString "IpHeader"]) mean mg mb h₀ → cs.kind = .function →
    dp + d < recursionLimit → un + 8 * d < cLine →
    (∀ (r : Value) (tl : Led) (h' : Heap) (tk' : Nat), P r tl → Fr h₀ L h' m → News h₀ L h' (tl ++ news) → Q r { s with heap := h', toks := tk' }) →
    wpAny (model PySem.Challenge.rw_qz0161_01.row.prog w) (ktrTop dp un gd cn cs L a ccd cl outer) (call (.ref f) vs) Q E s

theorem VN.use {w : World} {d : Nat} {f : Addr} {news : Led} {vs : List Value} {P : Value → Led → Prop} {mean : ExcName → Option Value} {mg mb : Str → Option Value} {dp un : Nat} {gd : Option (List Code)} {cn : Str} {cs : Scope} {a : Addr} {ccd : Value} {cl : List (Str × Addr)} {outer : List Env} {A₀ : Around} {base h₀ : Heap} {L : Addr} {m : Str → Option Value} {s : Shared} {Q E : Value → Shared → Prop}
    (C : VN w d f news vs P) (B : Below A₀ base outer h₀) (F : Fr h₀ L s.heap m) (X : (hK w.params).In h₀) (N : News h₀ L s.heap news) (T : Top hQ (looseW hQ [Str.ofString "ones_sum", Str.ofString "checksum", Str.ofString "IpHeader"]) mean mg mb h₀) (hk : cs.kind = .function)
    (hd : dp + d < recursionLimit) (hu : un + 8 * d < cLine)
    (h : ∀ (r : Value) (tl : Led) (h' : Heap) (tk' : Nat), P r tl → Fr h₀ L h' m → News h₀ L h' (tl ++ news) → Q r { s with heap := h', toks := tk' }) :
    wpAny (model PySem.Challenge.rw_qz0161_01.row.prog w) (ktrTop dp un gd cn cs L a ccd cl outer) (call (.ref f) vs) Q E s :=
  C _ _ _ _ _ _ _ _ _ _ _ _ _ _ _ _ _ _ _ _ B F X N T hk hd hu h
theorem mAnd0 {prog : Program} {w : World} {A : Around} {E : Value → Shared → Prop} {hp : Heap} {gn : Array GenState} {dr : Drawn} {tk : Nat} {os : OsState} {t u : Tok} {Q : Value → Shared → Prop} {a n : Int} (ha : a = 0) (hn : Builtin.bitAnd 0 n = 0) (h : Q (.int 0 tk) ⟨hp, gn, dr, tk + 1, os⟩) : wpAny (model prog w) A (binaryOp .BitAnd (.int a t) (.int n u)) Q E ⟨hp, gn, dr, tk, os⟩ := by
  subst ha
  refine and_int ?_
  rw [hn]; exact h
-- p62b_made
/-- a header and a payload, freshly made -/
def MadeP (w : World) (src tgt pr id ttl tos : Int) (opt p : Array UInt8) (r : Value) (tl : Led) : Prop :=
  ∃ D x d k0 k1 k2 k3 k4 k5 k6 k7 k8 k9 v0 v1 v2 v3 v4 v5 v8 v9 t, r = .ref D ∧ tl = [(D, { cls := .type "tuple", data := .seq #[.ref x, .bytes p t] }), (x, instObj 176 d), (d, dictOf (hdrL w k0 k1 k2 k3 k4 k5 k6 k7 k8 k9 v0 v1 v2 v3 v4 v5 v8 v9 src tgt pr id ttl tos false false 0 opt) 10)]
-- m62
local macro_rules | `(tactic| walk_at "mine enterN") => `(tactic| (unfold VN; k_fill; intro mean mg mb dp un gd cn cs a ccd cl outer A₀ base h₀ L m s Q E B F X N T hk hd hu hret; refine wpAny_call ?_; k_dflt (walk_at "mine code")))
local macro_rules | `(tactic| walk_at "call ref") => `(tactic| (k_here; (with_reducible show wpAny _ _ (call (Value.ref 222) _) _ _ _); k_dflt (refine' VC.use (head_spec _ _ _ _ ?a1 ?a2 ?a3 ?a4 ?a5) ?k1 ?k2 ?k3 ?k4 ?k5 ?kK ?kd ?ku ?_; walk_at "mine as"; walk_at "mine use")))
local macro_rules | `(tactic| walk_at "call ref") => `(tactic| (k_here; (with_reducible show wpAny _ _ (call (Value.ref 100) _) _ _ _); k_dflt (refine' VC.use (get32_spec _ _ _ _ _ _ ?a1 ?a2 ?a3) ?k1 ?k2 ?k3 ?k4 ?k5 ?kK ?kd ?ku ?_; walk_at "mine as"; walk_at "mine use")))
local macro_rules | `(tactic| walk_at "binaryOp BitAnd int int") => `(tactic| k_dflt (refine mAnd0 ?h1 ?h2 ?_; (case h1 => first | assumption | exact rfl); (case h2 => rfl)))
local macro_rules | `(tactic| walk_at "mine endN") => `(tactic| ((rename ∀ (r : Value) (tl : Led) (h' : Heap) (tk' : Nat), _ → Fr _ _ h' _ → News _ _ h' _ → _ => hret); (with_reducible rename News _ _ _ _ => kN); (with_reducible rename Fr _ _ _ _ => kF); refine hret _ _ _ _ ⟨_, _, _, _, _, _, _, _, _, _, _, _, _, _, _, _, _, _, _, _, _, _, rfl, rfl⟩ kF kN))
-- p63_unpack
theorem unpack_bad (w : World) (news : Led) (b : Array UInt8) (tb : Tok) (hb : 20 ≤ b.size) (hz : b.size ≤ 65536) (h4 : oct b (Int.toNat 0) / 16 = 4) (hs : oct b (Int.toNat 0) % 16 * 4 ≤ (b.size : Int)) (hs' : 20 ≤ oct b (Int.toNat 0) % 16 * 4)
    (ht1 : oct b (Int.toNat 0) % 16 * 4 ≤ get16A b (Int.toNat 2)) (ht2 : get16A b (Int.toNat 2) ≤ (b.size : Int)) (he : (KBy.picked b none (some (oct b (Int.toNat 0) % 16 * 4))).size % 2 = 0) (he' : (KBy.picked b none (some (oct b (Int.toNat 0) % 16 * 4))).size ≤ 65536) (hc : checkA (KBy.picked b none (some (oct b (Int.toNat 0) % 16 * 4))) ≠ 0) : XC w 5 229 news [.bytes b tb] := by
  walk_at "mine enterX"
  k_steps
  all_goals (exfalso; omega)
-- p64_unpack
theorem unpack_spec (w : World) (news : Led) (b : Array UInt8) (tb : Tok) (hb : 20 ≤ b.size) (hz : b.size ≤ 65536) (h4 : oct b (Int.toNat 0) / 16 = 4) (hs : oct b (Int.toNat 0) % 16 * 4 ≤ (b.size : Int)) (hs' : 20 ≤ oct b (Int.toNat 0) % 16 * 4)
    (ht1 : oct b (Int.toNat 0) % 16 * 4 ≤ get16A b (Int.toNat 2)) (ht2 : get16A b (Int.toNat 2) ≤ (b.size : Int)) (he : (KBy.picked b none (some (oct b (Int.toNat 0) % 16 * 4))).size % 2 = 0) (he' : (KBy.picked b none (some (oct b (Int.toNat 0) % 16 * 4))).size ≤ 65536) (hc : checkA (KBy.picked b none (some (oct b (Int.toNat 0) % 16 * 4))) = 0) (hf : get16A b (Int.toNat 6) = 0) : VN w 5 229 news [.bytes b tb] (MadeP w (get32A b (Int.toNat 12)) (get32A b (Int.toNat 16)) (oct b (Int.toNat 9)) (get16A b (Int.toNat 4)) (oct b (Int.toNat 8)) (oct b (Int.toNat 1)) (KBy.picked b (some 20) (some (oct b (Int.toNat 0) % 16 * 4))) (KBy.picked b (some (oct b (Int.toNat 0) % 16 * 4)) (some (get16A b (Int.toNat 2))))) := by
  walk_at "mine enterN"
  k_steps
  all_goals first | (exfalso; omega) | walk_at "mine endN"
-- p65_kind
def isErr (kind : Int) : Bool := [3, 4, 5, 11, 12].any fun x => x == kind
theorem kind_spec (w : World) (news : Led) (kind : Int) (tk : Tok) : VC w 1 299 news [.int kind tk] (fun _ => .bool (isErr kind)) := by
  walk_at "mine enter"
  k_steps
  walk_at "mine end"
/-- what an IcmpMessage's dict holds -/
abbrev msgL (w : World) (k0 k1 k2 k3 v0 v1 v2 v3 : Tok) (kind code rest : Int) (b : Array UInt8) : List DictEntry :=
  [{ hash := PyData.keyHash w.params (Str.ofString "kind"), key := .str (Str.ofString "kind") k0, val := .int kind v0 },
   { hash := PyData.keyHash w.params (Str.ofString "code"), key := .str (Str.ofString "code") k1, val := .int code v1 },
   { hash := PyData.keyHash w.params (Str.ofString "rest"), key := .str (Str.ofString "rest") k2, val := .int rest v2 },
   { hash := PyData.keyHash w.params (Str.ofString "payload"), key := .str (Str.ofString "payload") k3, val := .bytes b v3 }]
-- m65
local macro_rules | `(tactic| walk_at "call ref") => `(tactic| (k_here; (with_reducible show wpAny _ _ (call (Value.ref 299) _) _ _ _); k_dflt (refine' VC.use (kind_spec _ _ _ _) ?k1 ?k2 ?k3 ?k4 ?k5 ?kK ?kd ?ku ?_; walk_at "mine use")))
-- p66_iserr
theorem iserr_spec (w : World) (news : Led) (x dx : Addr) (k0 k1 k2 k3 v0 v1 v2 v3 : Tok) (kind code rest : Int) (b : Array UInt8) (hx : (x, instObj 288 dx) ∈ news) (hdx : (dx, dictOf (msgL w k0 k1 k2 k3 v0 v1 v2 v3 kind code rest b) 4) ∈ news) : VC w 2 257 news [.ref x] (fun _ => .bool (isErr kind)) := by
  walk_at "mine enter"
  k_steps
  walk_at "mine end"
-- m66
local macro_rules | `(tactic| walk_at "call ref") => `(tactic| (k_here; (first | (with_reducible show wpAny _ _ (call (Value.ref 257) _) _ _ _) | ((try dsimp only [List.nil_append, List.cons_append]); (with_reducible show wpAny _ _ (call (Value.ref 257) _) _ _ _))); k_dflt (refine' VC.use (iserr_spec _ _ _ _ _ _ _ _ _ _ _ _ _ _ _ _ ?hx ?hdx) ?k1 ?k2 ?k3 ?k4 ?k5 ?kK ?kd ?ku ?_; (case k4 => k_asm); (case hx => walk_at "mine mem"); (case hdx => walk_at "mine mem"); walk_at "mine use")))
local macro_rules | `(tactic| walk_at "mine useX") => `(tactic| (walk_at "mine k5"; walk_at "mine kk"; k_whole; intro e9 g9 h9 tk9 F9 R9 U9; (try dsimp only); k_unfold; (try dsimp only); (refine' leave_onSN ?kb F9 R9 U9 ?_; (case kb => k_asm); intro h8 R8 _ U8; (rename ∀ (e : Addr) (g₂ h' : Heap) (tk' : Nat), Fr _ _ g₂ _ → _ => hret); refine hret _ _ _ _ ?k1 (raised_drop R8 ?k2) U8; (case k1 => k_asm); (case k2 => walk_at "mine sub"))))
local macro_rules | `(tactic| walk_at "call ref") => `(tactic| (k_here; (with_reducible show wpAny _ _ (call (Value.ref 222) _) _ _ _); k_dflt (refine' XC.use (head_cut _ _ _ _ ?a1 ?a2 ?a3 ?a4) ?k1 ?k2 ?k3 ?k4 ?k5 ?kK ?kd ?ku ?_; walk_at "mine as"; walk_at "mine useX")))
-- p67_about
theorem about_kind (w : World) (news : Led) (x dx : Addr) (k0 k1 k2 k3 v0 v1 v2 v3 : Tok) (kind code rest : Int) (b : Array UInt8) (hx : (x, instObj 288 dx) ∈ news) (hdx : (dx, dictOf (msgL w k0 k1 k2 k3 v0 v1 v2 v3 kind code rest b) 4) ∈ news) (hk : isErr kind = false) : XC w 4 236 news [.ref x] := by
  walk_at "mine enterX"
  k_steps
theorem about_short (w : World) (news : Led) (x dx : Addr) (k0 k1 k2 k3 v0 v1 v2 v3 : Tok) (kind code rest : Int) (b : Array UInt8) (hx : (x, instObj 288 dx) ∈ news) (hdx : (dx, dictOf (msgL w k0 k1 k2 k3 v0 v1 v2 v3 kind code rest b) 4) ∈ news) (hk : isErr kind = true) (hb : b.size < 20) : XC w 4 236 news [.ref x] := by
  walk_at "mine enterX"
  k_steps
  all_goals (exfalso; omega)
theorem about_cut (w : World) (news : Led) (x dx : Addr) (k0 k1 k2 k3 v0 v1 v2 v3 : Tok) (kind code rest : Int) (b : Array UInt8) (hx : (x, instObj 288 dx) ∈ news) (hdx : (dx, dictOf (msgL w k0 k1 k2 k3 v0 v1 v2 v3 kind code rest b) 4) ∈ news) (hk : isErr kind = true) (hb : 20 ≤ b.size) (hz : b.size ≤ 65536) (h4 : oct b (Int.toNat 0) / 16 = 4) (hs : (b.size : Int) < oct b (Int.toNat 0) % 16 * 4) : XC w 5 236 news [.ref x] := by
  walk_at "mine enterX"
  k_steps
-- m91
local macro_rules | `(tactic| walk_at "mine till u") => `(tactic| repeat' (first | (k_unfold; (try dsimp only)) | ((fail_if_success (with_reducible show wpAny _ _ (call (Value.ref 229) _) _ _ _)); first | walk1 | (dsimp only; (fail_if_success (with_reducible show wpAny _ _ (call (Value.ref 229) _) _ _ _)); walk1))))
-- p68_about
/-- the octets of an error, filled up with noughts to what their head tells -/
abbrev padA (b : Array UInt8) : Array UInt8 := b ++ Array.replicate (if get16A b (Int.toNat 2) - ↑b.size > 0 then get16A b (Int.toNat 2) - ↑b.size else 0).toNat 0
theorem news_pick {h₀ h : Heap} {L : Addr} {a b c d : Addr × Obj} {news : Led} (N : News h₀ L h (a :: b :: c :: d :: news)) : News h₀ L h ([a, c, d] ++ news) := cb_drop N (by
  intro p hp
  simp only [List.cons_append, List.nil_append, List.mem_cons] at hp ⊢
  rcases hp with h | h | h | h <;> simp [h])
theorem about_bad (w : World) (news : Led) (x dx : Addr) (k0 k1 k2 k3 v0 v1 v2 v3 : Tok) (kind code rest : Int) (b : Array UInt8) (hx : (x, instObj 288 dx) ∈ news) (hdx : (dx, dictOf (msgL w k0 k1 k2 k3 v0 v1 v2 v3 kind code rest b) 4) ∈ news) (hk : isErr kind = true) (hb : 20 ≤ b.size) (hz : b.size ≤ 60000) (h4 : oct b (Int.toNat 0) / 16 = 4) (hs : oct b (Int.toNat 0) % 16 * 4 ≤ (b.size : Int)) (hs' : 20 ≤ oct b (Int.toNat 0) % 16 * 4) (hU : ∀ news t, XC w 5 229 news [.bytes (padA b) t]) : XC w 6 236 news [.ref x] := by
  have g1 := get16A_lo b (Int.toNat 2)
  have g2 := get16A_hi b (Int.toNat 2)
  walk_at "mine enterX"
  walk_at "mine till u"
  refine' XC.use (hU _ _) ?k1 ?k2 ?k3 ?k4 ?k5 ?kK ?kd ?ku ?_
  walk_at "mine useX"
theorem about_ok (w : World) (news : Led) (x dx : Addr) (k0 k1 k2 k3 v0 v1 v2 v3 : Tok) (kind code rest : Int) (b : Array UInt8) (hx : (x, instObj 288 dx) ∈ news) (hdx : (dx, dictOf (msgL w k0 k1 k2 k3 v0 v1 v2 v3 kind code rest b) 4) ∈ news) (hk : isErr kind = true) (hb : 20 ≤ b.size) (hz : b.size ≤ 60000) (h4 : oct b (Int.toNat 0) / 16 = 4) (hs : oct b (Int.toNat 0) % 16 * 4 ≤ (b.size : Int)) (hs' : 20 ≤ oct b (Int.toNat 0) % 16 * 4) (src tgt pr id ttl tos : Int) (opt p : Array UInt8) (ho : opt.size ≤ 40) (hp : p.size ≤ 65536) (hU : ∀ news t, VN w 5 229 news [.bytes (padA b) t] (MadeP w src tgt pr id ttl tos opt p)) : VN w 6 236 news [.ref x] (MadeP w src tgt pr id ttl tos opt (KBy.picked p none (some (if (b.size : Int) - (20 + opt.size) > 0 then (b.size : Int) - (20 + opt.size) else 0)))) := by
  have g1 := get16A_lo b (Int.toNat 2)
  have g2 := get16A_hi b (Int.toNat 2)
  walk_at "mine enterN"
  walk_at "mine till u"
  refine' VN.use (hU _ _) ?k1 ?k2 ?k3 ?k4 ?k5 ?kK ?kd ?ku ?_
  (case k1 => k_asm); (case k2 => k_asm); (case k3 => k_asm); (case k4 => k_asm); (case k5 => k_asm); (case kK => first | exact rfl | assumption); (case kd => ktr_room); (case ku => ktr_units); k_whole
  intro r9 tl9 h9 tk9 P9 F9 N9
  (try dsimp only); (try k_fold)
  obtain ⟨D, y, dy, q0, q1, q2, q3, q4, q5, q6, q7, q8, q9, u0, u1, u2, u3, u4, u5, u8, u9, t, rfl, rfl⟩ := P9
  simp only [List.cons_append, List.nil_append] at N9
  k_steps
  rename ∀ (r : Value) (tl : Led) (h' : Heap) (tk' : Nat), _ → Fr _ _ h' _ → News _ _ h' _ → _ => hret
  (with_reducible rename News _ _ _ _ => kN)
  (with_reducible rename Fr _ _ _ _ => kF)
  exact hret _ _ _ _ ⟨_, _, _, _, _, _, _, _, _, _, _, _, _, _, _, _, _, _, _, _, _, _, rfl, rfl⟩ kF (news_pick kN)
-- p70_try
/-! a def that catches: its call turns the slots of the frames below -/
theorem mem_frames {env : Env} {outer : List Env} {L b : Addr} (hf : env.frame = some L) (hm : b ∈ (env :: outer).filterMap (·.frame)) : b = L ∨ b ∈ outer.filterMap (·.frame) := by
  obtain ⟨env', he, hf'⟩ := List.mem_filterMap.mp hm
  rcases List.mem_cons.mp he with rfl | he
  · rw [hf] at hf'
    exact .inl (Option.some.inj hf').symm
  · exact .inr (List.mem_filterMap.mpr ⟨env', he, hf'⟩)
section
variable {prog : Program} {w : World} {A₀ A : Around} {s : Shared} {base h₀ : Heap} {outer : List Env} {L : Addr} {m : PySem.Str → Option Value} {env : Env} {news : Led} {K : Frag} {p : Program} {loose : List PySem.Str} {mean : ExcName → Option Value} {mg mb : PySem.Str → Option Value}
    {R : Result → Shared → Prop} {name qual : PySem.Str} {params : Arguments} {body : List Stmt} {scope : Scope} {dV kV doc pm cdv ct oc : Value} {an od : Option Addr} {osl : Array (Option Value)} {f : Addr} {args : Args} {binds : List (PySem.Str × Value)}

theorem my_enter (B : Below A₀ base outer h₀) (F : Fr h₀ L s.heap m) (N : News h₀ L s.heap news) (hA : A.frames = some (env :: outer)) (hf : env.frame = some L) (hke : env.scope.kind = .function) :
    ∃ oL es ep, (hideAll s.heap (news.map (·.1))).get? L = some oL ∧ oL.data = .dict es ep ∧ (∀ h', h'.get? L = some oL → Heap.Ns h' L m) ∧ (∀ (sl : Array (Option Value)) h', h'.get? L = some { oL with slots := sl } → Heap.Ns h' L m) ∧
      h₀.StaysIn (hideAll s.heap (news.map (·.1))) ∧ Below A base (env :: outer) (hideAll s.heap (news.map (·.1))) := by
  have nm : ∀ b o, h₀.get? b = some o → b ∉ news.map (·.1) := fun b o e q => by
    obtain ⟨p, hp, rfl⟩ := List.mem_map.mp q
    rw [(N p hp).2.2] at e; cases e
  have st : h₀.StaysIn (hideAll s.heap (news.map (·.1))) := fun b o e => hideAll_get _ (F.keep b o e) (nm b o e)
  obtain ⟨oL, es, ep, hL, hLd, hLk, hLf⟩ := F.ns
  have nL : L ∉ news.map (·.1) := fun q => by
    obtain ⟨p, hp, e⟩ := List.mem_map.mp q
    exact (N p hp).2.1 e
  have hLg := hideAll_get (news.map (·.1)) hL nL
  have B₁ := pushX B F hf hke
  exact ⟨oL, es, ep, hLg, hLd, fun h' e => ⟨oL, es, ep, e, hLd, hLk, hLf⟩, fun sl h' e => ⟨_, es, ep, e, hLd, hLk, hLf⟩, st, ⟨hA, fun b o e => st b o (B.stays b o e), funFrames_hideAll B₁.frames fun env' he b hb hf' => by
    cases he with
    | head =>
      rw [hf] at hf'
      exact nL ((Option.some.inj hf' : L = b) ▸ hb)
    | tail _ he =>
      obtain ⟨L₁, o₁, hf₁, ho₁⟩ := funFrames_in B.frames env' he
      rw [hf₁] at hf'
      exact nm L₁ o₁ ho₁ ((Option.some.inj hf' : L₁ = b) ▸ hb)⟩⟩

/-- how such a def leaves -/
def LeaveT (fs : List Addr) (A₀ : Around) (base : Heap) (outer : List Env) (K : Frag) (p : Program) (loose : List PySem.Str) (mean : ExcName → Option Value) (mg mb : PySem.Str → Option Value) (h₀ : Heap) (L : Addr) (m : PySem.Str → Option Value) (g : Heap) (R : Result → Shared → Prop) (v : Value) (s' : Shared) : Prop :=
  ∃ g' L' m' news', KtsTurn fs g g' ∧ Fr g' L' s'.heap m' ∧ News g' L' s'.heap news' ∧ ∀ h₀', KtsTurn (outer.filterMap (·.frame)) h₀ h₀' → Fr h₀' L s'.heap m → News h₀' L s'.heap news' → Below A₀ base outer h₀' → K.In h₀' → Top p loose mean mg mb h₀' →
    KtsDicts (outer.filterMap (·.frame)) h₀' → R (.ok (.ret v)) s'

theorem code_defT (B : Below A₀ base outer h₀) (F : Fr h₀ L s.heap m) (X₀ : K.In h₀) (N : News h₀ L s.heap news) (T : Top p loose mean mg mb h₀) (XB : K.In base) (TB : Top p loose mean mg mb base) (D : KtsDicts (outer.filterMap (·.frame)) h₀)
    (hA : A.frames = some (env :: outer)) (hf : env.frame = some L) (hke : env.scope.kind = .function)
    (ho : K.lookup f = some ⟨oc, od, .func (fnOf name qual params body scope dV kV doc pm an cdv ct), osl⟩) (hcd : codeIn K cdv qual = true) (hroom : A.depth < recursionLimit)
    (hbind : BindsTo s (fnOf name qual params body scope dV kV doc pm an cdv ct) args binds) (hloc : ∀ y ∈ binds, scope.names.lookup y.1 = some .local)
    (h : ∀ g L' h₁, Fr h₀ L g m → Fr g L' h₁ (fun y => binds.reverse.lookup y) → News g L' h₁ news → Below A base (env :: outer) g → K.In g → Top p loose mean mg mb g → KtsDicts ((env :: outer).filterMap (·.frame)) g →
      wpAny (model prog w) (A.deeper (envOf qual scope L' f cdv)) (execs body (envOf qual scope L' f cdv))
        (fun fl s' => LeaveT ((env :: outer).filterMap (·.frame)) A₀ base outer K p loose mean mg mb h₀ L m g R (match fl with | .ret v => v | _ => .none) s')
        (fun e s' => wpAny (model prog w) (A.deeper (envOf qual scope L' f cdv)) (leaving (envOf qual scope L' f cdv) e) (fun _ s'' => R (.error e) s'') (fun e' s'' => R (.error e') s'') s')
        { s with heap := h₁, toks := s.toks + binds.length })
    (hco : scope.isCoroutine = false) (hgen : scope.isGenerator = false) (hk : scope.kind = .function)
    (hcell : ∀ x ∈ scope.names, x.2 ≠ .cell) : codeAny (model prog w) A (.call (.ref f) args) R s := by
  have X := X₀.keeps F.keep
  refine codeAny_call_def (fd := fnOf name qual params body scope dV kV doc pm an cdv ct) (body := body) (binds := binds) hroom (X _ _ ho) rfl (T.nolimit.keeps F.keep) (codeRec_of X hcd) rfl hbind hcell hloc (fun h₁ hns hk₁ => ?_) hco hgen hk
  obtain ⟨oL, es, ep, hLg, hLd, hN, hNs, st, B₂⟩ := my_enter B F N hA hf hke
  refine wpAny_mono (h _ s.heap.objs.size h₁ ⟨hN _ hLg, st, F.above⟩ ⟨hns, fun b o e => hk₁ b o (of_hideAll _ e), Nat.le_of_eq (hideAll_size _ _)⟩
    (fun p hp => ⟨hk₁ _ _ (N p hp).1, Nat.ne_of_lt (Heap.lt_size (N p hp).1), hideAll_none _ (List.mem_map_of_mem hp)⟩) B₂ (X₀.keeps st) (T.keeps st) (fun b hb => by
      rcases mem_frames hf hb with rfl | hb
      · exact ⟨oL, es, ep, hLg, hLd⟩
      · obtain ⟨o, es', n', ho', hd'⟩ := D b hb
        exact ⟨o, es', n', st b o ho', hd'⟩)) (fun fl s' hl => ?_) fun _ _ y => y
  have nL₀ : h₀.get? L = none := kts_self F
  obtain ⟨g', L', m', news', T', F', N', k⟩ := hl
  obtain ⟨sl, hs⟩ := T'.up hLg
  obtain ⟨T₁, S₁⟩ := kts_turn_at (h := s'.heap) (fs := outer.filterMap (·.frame)) (g := h₀)
    (fun b hb => by
      obtain ⟨_, o, ho', _⟩ := B.frames.mem hb
      exact ⟨o, ho'⟩)
    (fun b o e nmem => F'.keep b o (T'.other b o (st b o e) (fun q => by
      rcases mem_frames hf q with z | z
      · rw [z, nL₀] at e
        cases e
      · exact nmem z)))
    (fun b o e hm => by
      obtain ⟨sl', hs'⟩ := T'.up (st b o e)
      exact ⟨sl', F'.keep _ _ hs'⟩)
  have B₃ : Below A₀ base outer (ktsHeap s'.heap (outer.filterMap (·.frame)) h₀) := ⟨B.stack, fun b o e => T₁.other b o (B.stays b o e) (fun hm => by
    rw [(B.frames.mem hm).1] at e
    cases e), B.frames.of_keeps fun b o e _ => by
    obtain ⟨sl', hs'⟩ := T₁.up e
    exact ⟨_, hs', rfl⟩⟩
  refine k _ T₁ ⟨hNs sl _ (F'.keep _ _ hs), S₁, by rw [T₁.size]; exact F.above⟩ (fun p hp => ⟨(N' p hp).1, fun q => ?_, ?_⟩) B₃ (XB.keeps B₃.stays) (TB.keeps B₃.stays) (D.turn T₁)
  · have := (N' p hp).2.2; rw [q, hs] at this; cases this
  · refine T₁.none_ _ ?_
    cases q : h₀.get? p.1 with
    | none => rfl
    | some o =>
      obtain ⟨sl', hs'⟩ := T'.up (st _ _ q)
      have := (N' p hp).2.2
      rw [hs'] at this
      cases this
end
section
variable {prog : Program} {w : World} {A₀ : Around} {E : Value → Shared → Prop} {s' : Shared} {base g g₀ G : Heap} {outer : List Env} {L a e C : Addr} {m : PySem.Str → Option Value} {name : PySem.Str} {scope : Scope} {cd : Value}
  {b₀ : Stmt} {suite : List Stmt} {pos np : Pos} {rest : List ExceptHandler} {Q : Flow → Shared → Prop} {news : Led} {KF : Frag}
  {p : Program} {loose : List PySem.Str} {mean : ExcName → Option Value} {mg mb : PySem.Str → Option Value} {x : PySem.Str}
theorem caught_own (R : RaisedSN base G (envOf name scope L a cd :: outer) e (.ref C) news s'.heap) (F : Fr g L G m) (K : Below A₀ base outer g) (hsm : G.UpToSlots s'.heap) (XB : KF.In base) (TB : Top p loose mean mg mb base)
    (D : KtsDicts (outer.filterMap (·.frame)) g) (T0 : KtsTurn (outer.filterMap (·.frame)) g₀ g)
    (ex : nsIn KF mainGlobals x = some (some (.ref C))) (q : ktsIn KF C "BaseException" = true)
    (k : ∀ h' g', KtsTurn (outer.filterMap (·.frame)) g₀ g' → Fr g' L h' m → News g' L h' news → Below A₀ base outer g' → KF.In g' → Top p loose mean mg mb g' → KtsDicts (outer.filterMap (·.frame)) g' →
      wpAny (model prog w) ((A₀.deeper (envOf name scope L a cd)).mark (some (.ref e))) (execs (b₀ :: suite) (envOf name scope L a cd)) Q E { s' with heap := h' })
    (hk : scope.kind = .function := by rfl) (hx : (envOf name scope L a cd).kindOf x = some .globalImplicit := by rfl) (hd : (x == ("__debug__" : PySem.Str)) = false := by decide)
    (hE : PassesOwnAt (model prog w) ((A₀.deeper (envOf name scope L a cd)).mark (some (.ref e))) (A₀.deeper (envOf name scope L a cd)) (envOf name scope L a cd) E := by passes_own) :
    wpAny (model prog w) (A₀.deeper (envOf name scope L a cd)) (noteFrame (.ref e) (envOf name scope L a cd))
      (fun _ s₂ => wpAny (model prog w) (A₀.deeper (envOf name scope L a cd)) (setFlight (.ref e) none) (fun _ s₃ =>
        wpAny (model prog w) (A₀.deeper (envOf name scope L a cd)) (handleBy (.ref e) (envOf name scope L a cd) (.ExceptHandler (some (.Name x np)) none (b₀ :: suite) pos :: rest)) Q E s₃) E s₂) E s' := by
  obtain ⟨B, a0, hB, hBG, hl, hfl⟩ := R
  have hL : B.get? L = none := by
    obtain ⟨_, ⟨L', _, hf, hn', _⟩, _⟩ := hfl.2.2.1
    obtain rfl : L = L' := Option.some.inj hf
    exact hn'
  refine wpAny_looks_onW (Around.frames_deeper K.stack) rfl hfl fun h₄ hheld₄ hsm₄ => ?_
  refine wpAny_landsW hheld₄ fun h₅ hheld hsm₅' => ?_
  have hsm₅ := hsm₄.trans hsm₅'
  obtain ⟨g₅, T₅, F₅, K₅⟩ := kts_ground K F hBG hheld.1 (hsm.trans hsm₅)
  have X₅ : KF.In g₅ := XB.keeps K₅.stays
  have P₅ : TopRead p loose mg mb g₅ := topRead_of (TB.keeps K₅.stays)
  obtain ⟨ob, hob, hobc⟩ := hheld.there
  obtain ⟨nm, q', N, bs, bm, hdct, sn, sub, ab, col, dd, k0, k1, k2, k3, k5, newId, hC, hbase, hbT⟩ := kts_cls X₅ q
  have hC₅ := F₅.keep _ _ hC
  refine wpAny_handleBy_cons (codeAny_handlers_test (name_K F₅ X₅ P₅ ex ?_ hk hx hd)) (by intro q; cases q)
  refine wpAny_excMatches_sub_self hC₅ hob hobc hbase (codeAny_handlers_suite ?_)
  refine lands_againW hheld fun h₆ hfl₆ hsm₆ => ?_
  obtain ⟨g₆, T₆, F₆, K₆⟩ := kts_ground K F hBG hfl₆.1 ((hsm.trans hsm₅).trans hsm₆)
  have Nl : News g₆ L h₆ news := fun q hq => ⟨hfl₆.1 _ _ (hl q hq).1, (fun z => by have := (hl q hq).1; rw [z, hL] at this; cases this), T₆.none_ _ (kts_none F.keep (hl q hq).2.1)⟩
  have X₆ : KF.In g₆ := XB.keeps K₆.stays
  have P₆ : Top p loose mean mg mb g₆ := TB.keeps K₆.stays
  have D₆ : KtsDicts (outer.filterMap (·.frame)) g₆ := D.turn T₆
  exact wpAny_passesOwnAt hE (k h₆ g₆ (T0.trans T₆) F₆ Nl K₆ X₆ P₆ D₆)
end
/-- a def of the text that catches -/
def VT (w : World) (d : Nat) (f : Addr) (news : Led) (vs : List Value) (P : Value → Led → Prop) : Prop :=
  ∀ (mean : ExcName → Option Value) (mg mb : Str → Option Value) (dp un : Nat) (gd : Option (List Code)) (cn : Str) (cs : Scope) (a : Addr) (ccd : Value) (cl : List (Str × Addr)) (outer : List Env) (A₀ : Around) (base h₀ : Heap) (L : Addr) (m : Str → Option Value) (s : Shared) (Q E : Value → Shared → Prop),
    Below A₀ base outer h₀ → Fr h₀ L s.heap m → (hK w.params).In h₀ → News h₀ L s.heap news → Top hQ (looseW hQ [Str.ofString "ones_sum", Str.ofString "checksum", Str.ofString "IpHeader"]) mean mg mb h₀ →
    (hK w.params).In base → Top hQ (looseW hQ [Str.ofString "ones_sum", Str.ofString "checksum", Str.ofString "IpHeader"]) mean mg mb base → KtsDicts (outer.filterMap (·.frame)) h₀ → cs.kind = .function →
    dp + d < recursionLimit → un + 8 * d < cLine →
    (∀ (r : Value) (tl : Led) (h₀' h' : Heap) (tk' : Nat), P r tl → KtsTurn (outer.filterMap (·.frame)) h₀ h₀' → Fr h₀' L h' m → News h₀' L h' (tl ++ news) → Below A₀ base outer h₀' → (hK w.params).In h₀' →
      Top hQ (looseW hQ [Str.ofString "ones_sum", Str.ofString "checksum", Str.ofString "IpHeader"]) mean mg mb h₀' → KtsDicts (outer.filterMap (·.frame)) h₀' → Q r { s with heap := h', toks := tk' }) →
    wpAny (model PySem.Challenge.rw_qz0161_01.row.prog w) (ktrTop dp un gd cn cs L a ccd cl outer) (call (.ref f) vs) Q E s
-- m70
local macro_rules | `(tactic| walk_at "mine enterT") => `(tactic| (unfold VT; k_fill; intro mean mg mb dp un gd cn cs a ccd cl outer A₀ base h₀ L m s Q E B F X N T XB TB D hk hd hu hret; refine wpAny_call ?_; k_dflt (walk_at "mine codeT")))
local macro_rules | `(tactic| walk_at "mine codeT") => `(tactic| (refine' code_defT ?k1 ?k2 ?k3 ?k4 ?k5 ?xb ?tb ?dd ?kA ?kF ?kK ?k6 ?k7 ?k8 ?k9 ?kB ?_ ?c2 ?c3 ?c4 ?c5; (case kA => exact rfl); (case kF => exact rfl); (case kK => assumption); walk_at "mine k5"; (case xb => assumption); (case tb => assumption); (case dd => assumption); (case k6 => k_is); (case k7 => k_is); (case k8 => ktr_room); (case k9 => first | exact BindsTo.of_eq rfl | exact binds_K (by k_in) rfl (by k_is) rfl rfl rfl); (case c5 => decide); (case kB => exact locs rfl); (case c2 => exact rfl); (case c3 => exact rfl); (case c4 => exact rfl); k_whole; intro g' L' h' FG' F' N' B' X' T' D'; (try dsimp only); (try k_fold); (try k_gentoks)))
local macro_rules | `(tactic| walk_at "mine till a") => `(tactic| repeat' (first | (k_unfold; (try dsimp only)) | ((fail_if_success (with_reducible show wpAny _ _ (call (Value.ref 236) _) _ _ _)); first | walk1 | (dsimp only; (fail_if_success (with_reducible show wpAny _ _ (call (Value.ref 236) _) _ _ _)); walk1))))
-- p71_told
theorem news_pick2 {h₀ h : Heap} {L : Addr} {a b c d e f g : Addr × Obj} {news : Led} (N : News h₀ L h (a :: b :: c :: d :: e :: f :: g :: news)) : News h₀ L h ([a, b] ++ news) := cb_drop N (by
  intro p hp
  simp only [List.cons_append, List.nil_append, List.mem_cons] at hp ⊢
  rcases hp with h | h | h <;> simp [h])
def FormP (r : Value) (tl : Led) : Prop := ∃ t, r = .str (Str.ofString "form") t ∧ tl = []
theorem told_form (w : World) (news : Led) (kind : Int) (tk : Tok) (b : Array UInt8) (tb : Tok)
    (hA : ∀ (news : Led) x dx k0 k1 k2 k3 v0 v1 v2 v3, (x, instObj 288 dx) ∈ news → (dx, dictOf (msgL w k0 k1 k2 k3 v0 v1 v2 v3 kind 0 0 b) 4) ∈ news → XC w 6 236 news [.ref x]) : VT w 8 327 news [.int kind tk, .bytes b tb] FormP := by
  walk_at "mine enterT"
  walk_at "mine till a"
  refine' XC.use (hA _ _ _ _ _ _ _ _ _ _ _ ?hx ?hdx) ?k1 ?k2 ?k3 ?k4 ?k5 ?kK ?kd ?ku ?_
  (case k1 => k_asm); (case k2 => k_asm); (case k3 => k_asm); (case k4 => k_asm); (case hx => walk_at "mine mem"); (case hdx => walk_at "mine mem"); (case k5 => k_asm); (case kK => first | exact rfl | assumption); (case kd => ktr_room); (case ku => ktr_units); k_whole
  intro e9 g9 h9 tk9 F9 R9 U9
  (try dsimp only)
  refine' caught_own R9 F9 ?kb U9 ?xb ?tb ?dd KtsTurn.refl ?ex ?q ?_
  (case kb => k_asm); (case xb => assumption); (case tb => assumption); (case dd => assumption); (case ex => k_is); (case q => kts_isx); k_whole
  intro h8 g8 T8 F8 N8 K8 X8 P8 D8
  (try k_lift K8); (try k_sweep)
  k_steps
  dsimp only
  k_unfold
  (try dsimp only)
  rename ∀ (r : Value) (tl : Led) (h₀' h' : Heap) (tk' : Nat), FormP _ _ → _ => hret
  refine ⟨g8, _, _, _, T8, F8, N8, fun g1 t1 f1 n1 b1 x1 p1 d1 => hret _ [] g1 _ _ ⟨_, rfl, rfl⟩ t1 f1 (cb_drop n1 ?_) b1 x1 p1 d1⟩
  walk_at "mine sub"

def RowP (src tgt pr id ttl tos : Int) (opt p : Array UInt8) (r : Value) (tl : Led) : Prop :=
  ∃ D R v0 v1 v2 v3 v4 v5 v8 v9 t, r = .ref D ∧ tl = [(D, { cls := .type "tuple", data := .seq #[.ref R, .bytes p t] }), (R, { cls := .type "tuple", data := .seq #[.int src v0, .int tgt v1, .int pr v2, .int id v3, .int ttl v4, .int tos v5, .bool false, .bool false, .int 0 v8, .bytes opt v9] })]
theorem told_ok (w : World) (news : Led) (kind : Int) (tk : Tok) (b : Array UInt8) (tb : Tok) (src tgt pr id ttl tos : Int) (opt p : Array UInt8)
    (hA : ∀ (news : Led) x dx k0 k1 k2 k3 v0 v1 v2 v3, (x, instObj 288 dx) ∈ news → (dx, dictOf (msgL w k0 k1 k2 k3 v0 v1 v2 v3 kind 0 0 b) 4) ∈ news → VN w 6 236 news [.ref x] (MadeP w src tgt pr id ttl tos opt p)) : VT w 8 327 news [.int kind tk, .bytes b tb] (RowP src tgt pr id ttl tos opt p) := by
  walk_at "mine enterT"
  walk_at "mine till a"
  refine' VN.use (hA _ _ _ _ _ _ _ _ _ _ _ ?hx ?hdx) ?k1 ?k2 ?k3 ?k4 ?k5 ?kK ?kd ?ku ?_
  (case k1 => k_asm); (case k2 => k_asm); (case k3 => k_asm); (case k4 => k_asm); (case hx => walk_at "mine mem"); (case hdx => walk_at "mine mem"); (case k5 => k_asm); (case kK => first | exact rfl | assumption); (case kd => ktr_room); (case ku => ktr_units); k_whole
  intro r9 tl9 h9 tk9 P9 F9 N9
  (try dsimp only); (try k_fold)
  obtain ⟨D, y, dy, q0, q1, q2, q3, q4, q5, q6, q7, q8, q9, u0, u1, u2, u3, u4, u5, u8, u9, t, rfl, rfl⟩ := P9
  simp only [List.cons_append, List.nil_append] at N9
  k_steps
  show LeaveT _ _ _ _ _ _ _ _ _ _ _ _ _ _ _ _ _
  rename ∀ (r : Value) (tl : Led) (h₀' h' : Heap) (tk' : Nat), RowP _ _ _ _ _ _ _ _ _ _ → _ => hret
  (with_reducible rename News _ _ _ _ => kN)
  (with_reducible rename Fr _ _ _ _ => kF)
  exact ⟨_, _, _, _, KtsTurn.refl, kF, kN, fun g1 t1 f1 n1 b1 x1 p1 d1 => hret _ _ g1 _ _ ⟨_, _, _, _, _, _, _, _, _, _, _, rfl, rfl⟩ t1 f1 (news_pick2 n1) b1 x1 p1 d1⟩
-- p72_for
/-! a loop over a range in which each turn may turn the ground -/
section
variable {prog : Program} {w : World} {A : Around} {E : Value → Shared → Prop} {s : Shared} {env : Env} {x : PySem.Str} {px : Pos} {body : List Stmt} {Q : Flow → Shared → Prop}
def LoopT (prog : Program) (w : World) (A : Around) (env : Env) (x : PySem.Str) (px : Pos) (body : List Stmt) (Q : Flow → Shared → Prop) (E : Value → Shared → Prop) (it : Value) (s₂ : Shared) : Prop :=
  codeAny (model prog w) A (.forLoop (.Name x px) it body [] env) (fun r s' => match r with | .ok f => Q f s' | .error e => cameBackBy (model prog w) A env E e s') s₂
theorem For_T {pos : Pos} {iter : PySem.Expr} (h : wpAny (model prog w) A (eval iter env) (fun xv s₁ => wpAny (model prog w) A (pyIter xv) (fun it s₂ => LoopT prog w A env x px body Q E it s₂) E s₁) E s)
    (hs : ∀ x, foldedSetIterable iter env x = pure x := by intro _; rfl) : wpAny (model prog w) A (exec (.For (.Name x px) iter body [] pos) env) Q E s := wpAny_For h hs
/-- the end of a turn -/
def EndT (s : Shared) (L : Addr) (x y : PySem.Str) (m₀ : PySem.Str → Option Value) (G : Heap → Prop) (own : Led) (news : Led) (Q : Flow → Shared → Prop) (f : Flow) (s' : Shared) : Prop :=
  match f with
  | .next | .cont => ∃ g h tk m', s' = { s with heap := h, toks := tk } ∧ G g ∧ Fr g L h m' ∧ News g L h (own ++ news) ∧ ∀ z, z ≠ x → z ≠ y → m' z = m₀ z
  | .brk => Q .next s'
  | .ret v => Q (.ret v) s'
theorem iterRangeT {r : Addr} {a₀ b₀ c : Int} {t₀ u₀ v₀ : Tok} {n : Nat} {m₀ : PySem.Str → Option Value} {news : Led} {g₀ : Heap} (y : PySem.Str) (G : Heap → Prop)
    (hh : A.handled = none) (hx : env.kindOf x = some .local) (hp : (env.scope.kind == .class || (env.scope.kind == .module && env.locals != env.globals)) = false)
    (hr : IsRange s.heap r a₀ b₀ c t₀ u₀ v₀) (hsmall : Builtin.Range.small a₀ b₀ c = true) (hn : Builtin.Range.rangeSize a₀ b₀ c = (n : Int)) (F : Fr g₀ env.locals s.heap m₀) (N : News g₀ env.locals s.heap news) (hG : G g₀)
    (turn : ∀ i t g h tk own (u : PySem.Str → Option Value), i < n → G g → Fr g env.locals h (fun z => if z = x then some (.int (a₀ + (i : Int) * c) t) else if z = y then u z else m₀ z) → News g env.locals h (own ++ news) →
      wpAny (model prog w) A (execs body env) (EndT s env.locals x y m₀ G own news Q) E { s with heap := h, toks := tk })
    (done : ∀ (u : PySem.Str → Option Value) g h tk, G g → Fr g env.locals h (fun z => if z = x then u z else if z = y then u z else m₀ z) → News g env.locals h news → Q .next { s with heap := h, toks := tk })
    (hE : PassesOwn (model prog w) A env E := by passes_own) :
    wpAny (model prog w) A (pyIter (.ref r)) (fun it s₂ => LoopT prog w A env x px body Q E it s₂) E s := by
  refine wpAny_pyIter_range hr hsmall ?_
  have hIL : s.heap.objs.size ≠ env.locals := fun q => absurd F.ns.lt (by rw [← q]; exact Nat.lt_irrefl _)
  have hIn : ∀ p ∈ news, p.1 ≠ s.heap.objs.size := fun p hp => Nat.ne_of_lt (Heap.lt_size (N p hp).1)
  let o : Nat → Obj := fun i => { cls := .type "range_iterator", dict := none, data := .fields #[rawInt (a₀ + (i : Int) * c), rawInt ((n : Int) - (i : Nat)), rawInt c], slots := #[] }
  refine codeAny_forLoop (fun k s' => ∃ i g h' tk m', s' = { s with heap := h', toks := tk } ∧ G g ∧ Fr g env.locals h' m' ∧ News g env.locals h' ([(s.heap.objs.size, o i)] ++ news) ∧ (∀ z, z ≠ x → z ≠ y → m' z = m₀ z) ∧ i ≤ n ∧ k = n + 1 - i) ?_ (n + 1) ⟨0, g₀, _, s.toks, m₀, rfl, hG, F.push _, ?_, fun _ _ _ => rfl, Nat.zero_le _, rfl⟩
  · rintro k s' ⟨i, g, h', tk, m', rfl, hg, F', N', hm, hi, rfl⟩
    have hI := N' (s.heap.objs.size, o i) (List.Mem.head _)
    have hit : IsRangeIter h' s.heap.objs.size (a₀ + (i : Nat) * c) ((n : Int) - (i : Nat)) c := hI.1
    by_cases hlt : i < n
    · refine wpAny_pyNext_range_item hit (by omega) fun h₁ hit₁ hs₁ => ?_
      have e1 : a₀ + (i : Int) * c + c = a₀ + ((i + 1 : Nat) : Int) * c := by push_cast; rw [Int.add_mul, Int.one_mul, Int.add_assoc]
      have e2 : (n : Int) - (i : Int) - 1 = (n : Int) - ((i + 1 : Nat) : Int) := by push_cast; omega
      rw [e1, e2] at hit₁
      have F₁ : Fr g env.locals h₁ m' := Fr.update F' N' (List.Mem.head _) hs₁
      have N₁ : News g env.locals h₁ ([] ++ (s.heap.objs.size, o (i + 1)) :: news) := News.setAt (own := []) (o := o i) N' (fun _ h => nomatch h) hIn hs₁ hit₁
      refine wpAny_assign_Name (wpAny_storeName_local hx F₁.ns (fun h₂ hn₂ hs₂ => ?_) hp)
      have F₂ := F₁.set hn₂ hs₂
      have N₂ := N₁.set hs₂
      have em : (fun z => if z = x then some (Value.int (a₀ + (i : Int) * c) tk) else m' z) = fun z => if z = x then some (Value.int (a₀ + (i : Int) * c) tk) else if z = y then m' z else m₀ z := by
        funext z
        by_cases q : z = x
        · simp only [q, if_true]
        · by_cases r : z = y
          · simp only [q, r, if_true, if_false]
          · simp only [q, r, if_false]; exact hm z q r
      rw [em] at F₂
      refine wpAny_passesOwn hE (wpAny_mono (turn i tk g h₂ _ [(s.heap.objs.size, o (i + 1))] m' hlt hg F₂ N₂) (fun f s₃ h₃ => ?_) fun _ _ e => e)
      cases f with
      | next =>
        obtain ⟨g₃, h₃', tk₃, m₃, rfl, hg₃, F₃, N₃, hm₃⟩ := h₃
        exact ⟨n + 1 - (i + 1), by omega, i + 1, g₃, h₃', tk₃, m₃, rfl, hg₃, F₃, N₃, hm₃, hlt, rfl⟩
      | cont =>
        obtain ⟨g₃, h₃', tk₃, m₃, rfl, hg₃, F₃, N₃, hm₃⟩ := h₃
        exact ⟨n + 1 - (i + 1), by omega, i + 1, g₃, h₃', tk₃, m₃, rfl, hg₃, F₃, N₃, hm₃, hlt, rfl⟩
      | brk => exact h₃
      | ret v => exact h₃
    · have hin : i = n := by omega
      subst hin
      refine wpAny_pyNext_range_end hh hit (by omega) fun h₁ he₁ => wpAny_execs_nil ?_
      have em : m' = fun z => if z = x then m' z else if z = y then m' z else m₀ z := by
        funext z
        by_cases q : z = x
        · simp only [q, if_true]
        · by_cases r : z = y
          · simp only [q, r, if_true, if_false]
            by_cases q' : y = x <;> simp [q']
          · simp only [q, r, if_false]; exact hm z q r
      refine done m' g h₁ tk hg ?_ ?_
      · rw [← em]
        exact ⟨F'.ns.extBut he₁ (Ne.symm hIL), fun b ob e => he₁ b ob (fun q => by rw [q, hI.2.2] at e; cases e) (F'.keep b ob e), F'.above⟩
      · intro p hp
        have := N' p (List.mem_append_right _ hp)
        exact ⟨he₁ _ _ (hIn p hp) this.1, this.2⟩
  · intro p hp
    rcases List.mem_append.mp hp with hp | hp
    · rcases List.mem_singleton.mp hp with rfl
      refine ⟨?_, hIL, Heap.get?_none_of_le (Nat.le_trans F.above (Nat.le_of_lt F.ns.lt))⟩
      have : IsRangeIter (s.heap.push { cls := .type "range_iterator", data := .fields #[rawInt a₀, rawInt (Builtin.Range.rangeSize a₀ b₀ c), rawInt c] }) s.heap.objs.size (a₀ + ((0 : Nat) : Int) * c) ((n : Int) - ((0 : Nat) : Int)) c := by
        rw [hn]
        have e1 : a₀ + ((0 : Nat) : Int) * c = a₀ := by simp
        have e2 : (n : Int) - ((0 : Nat) : Int) = n := by simp
        rw [e1, e2]
        exact Heap.get?_push_size _ rfl
      exact this
    · exact ⟨Heap.get?_push_of_some _ (N p hp).1, (N p hp).2⟩
end
-- p73_right
def TrueP (r : Value) (tl : Led) : Prop := r = .bool true ∧ tl = []
theorem VT.use {w : World} {d : Nat} {f : Addr} {news : Led} {vs : List Value} {P : Value → Led → Prop} {mean : ExcName → Option Value} {mg mb : Str → Option Value} {dp un : Nat} {gd : Option (List Code)} {cn : Str} {cs : Scope} {a : Addr} {ccd : Value} {cl : List (Str × Addr)} {outer : List Env} {A₀ : Around} {base h₀ : Heap} {L : Addr} {m : Str → Option Value} {s : Shared} {Q E : Value → Shared → Prop}
    (C : VT w d f news vs P) (B : Below A₀ base outer h₀) (F : Fr h₀ L s.heap m) (X : (hK w.params).In h₀) (N : News h₀ L s.heap news) (T : Top hQ (looseW hQ [Str.ofString "ones_sum", Str.ofString "checksum", Str.ofString "IpHeader"]) mean mg mb h₀)
    (XB : (hK w.params).In base) (TB : Top hQ (looseW hQ [Str.ofString "ones_sum", Str.ofString "checksum", Str.ofString "IpHeader"]) mean mg mb base) (D : KtsDicts (outer.filterMap (·.frame)) h₀) (hk : cs.kind = .function)
    (hdp : dp + d < recursionLimit) (hu : un + 8 * d < cLine)
    (h : ∀ (r : Value) (tl : Led) (h₀' h' : Heap) (tk' : Nat), P r tl → KtsTurn (outer.filterMap (·.frame)) h₀ h₀' → Fr h₀' L h' m → News h₀' L h' (tl ++ news) → Below A₀ base outer h₀' → (hK w.params).In h₀' →
      Top hQ (looseW hQ [Str.ofString "ones_sum", Str.ofString "checksum", Str.ofString "IpHeader"]) mean mg mb h₀' → KtsDicts (outer.filterMap (·.frame)) h₀' → Q r { s with heap := h', toks := tk' }) :
    wpAny (model PySem.Challenge.rw_qz0161_01.row.prog w) (ktrTop dp un gd cn cs L a ccd cl outer) (call (.ref f) vs) Q E s :=
  C _ _ _ _ _ _ _ _ _ _ _ _ _ _ _ _ _ _ _ _ B F X N T XB TB D hk hdp hu h
theorem frAs {α : Type} {g h : Heap} {L : Addr} {m : Str → Option Value} (m' : α → Str → Option Value) (F : Fr g L h m) (a : α) (e : m = m' a) : ∃ a, Fr g L h (m' a) := ⟨a, e ▸ F⟩
theorem size_up {m : Nat} : Builtin.Range.rangeSize 0 ((m : Int) + 1) 1 = ((m + 1 : Nat) : Int) := by
  unfold Builtin.Range.rangeSize
  rw [if_pos (by decide)]
  split <;> omega
theorem small_up {m : Nat} (h : m ≤ 16777216) : Builtin.Range.small 0 ((m : Int) + 1) 1 = true := small_one (by decide) (by decide) (by omega) (by omega)
/-- a ground on which the def's frame stands -/
structure Ground (w : World) (mean : ExcName → Option Value) (mg mb : Str → Option Value) (A : Around) (base : Heap) (outer : List Env) (g₀ g : Heap) : Prop where
  turn : KtsTurn (outer.filterMap (·.frame)) g₀ g
  below : Below A base outer g
  inn : (hK w.params).In g
  top : Top hQ (looseW hQ [Str.ofString "ones_sum", Str.ofString "checksum", Str.ofString "IpHeader"]) mean mg mb g
  dicts : KtsDicts (outer.filterMap (·.frame)) g
-- p72b_eq
/-! tuples of equal things are equal -/
section
variable {A : Around} {s : Shared}
open SeqAt
theorem rc_bytes (p : Array UInt8) (t u : Tok) : RcAt A s (.bytes p t) (.bytes p u) true := fun prog w E Q h =>
  richCompare_gives (typeIs_bytes s p t) (typeIs_bytes s p u) FB.slot_bytes_eq FB.entry_bytes_eq (FB.args_bytes_eq_2 _ _) (gives_bytes_eq p p t u) (fun x => nomatch x) (by rw [beq_self_eq_true]; exact h)
theorem eq_bytes (p : Array UInt8) (t u : Tok) : EqAt A s (.bytes p t) (.bytes p u) true := fun prog w E Q h => by
  unfold eqBool
  refine wpAny_holding ?_
  refine wpAny_ite_split (fun hab => ?_) (fun _ => ?_)
  · exact wpAny_bind (wpAny_rule (wpAny_pure h))
  · exact wpAny_bind (rc_bytes p t u prog w E _ (wpAny_truthy_bool h))
theorem eq_int (i : Int) (t u : Tok) : EqAt A s (.int i t) (.int i u) true := by
  have := EqAt.int_int (A := A) (s := s) i t i u
  simpa using this
abbrev rowV (src tgt pr id ttl tos : Int) (opt : Array UInt8) (v0 v1 v2 v3 v4 v5 v8 v9 : Tok) : Array Value := #[.int src v0, .int tgt v1, .int pr v2, .int id v3, .int ttl v4, .int tos v5, .bool false, .bool false, .int 0 v8, .bytes opt v9]
theorem rc_rows {R R' : Addr} {src tgt pr id ttl tos : Int} {opt : Array UInt8} {v0 v1 v2 v3 v4 v5 v8 v9 u0 u1 u2 u3 u4 u5 u8 u9 : Tok}
    (hl : s.heap.IsTuple R (rowV src tgt pr id ttl tos opt v0 v1 v2 v3 v4 v5 v8 v9)) (hb : s.heap.IsTuple R' (rowV src tgt pr id ttl tos opt u0 u1 u2 u3 u4 u5 u8 u9)) (hu : A.units < cLine) : RcAt A s (.ref R) (.ref R') true := by
  have := RcAt.tuples (e := fun _ => true) hl hb hu (fun j h1 h2 => by
    match j, h1, h2 with
    | 0, _, _ => exact eq_int src v0 u0
    | 1, _, _ => exact eq_int tgt v1 u1
    | 2, _, _ => exact eq_int pr v2 u2
    | 3, _, _ => exact eq_int id v3 u3
    | 4, _, _ => exact eq_int ttl v4 u4
    | 5, _, _ => exact eq_int tos v5 u5
    | 6, _, _ => exact EqAt.same _
    | 7, _, _ => exact EqAt.same _
    | 8, _, _ => exact eq_int 0 v8 u8
    | 9, _, _ => exact eq_bytes opt v9 u9
    | n + 10, h1, _ => exact absurd h1 (by simp))
  exact this
theorem ne_rows {prog : Program} {w : World} {E Q : Value → Shared → Prop} {D D' R R' : Addr} {src tgt pr id ttl tos : Int} {opt p : Array UInt8} {v0 v1 v2 v3 v4 v5 v8 v9 u0 u1 u2 u3 u4 u5 u8 u9 t t' : Tok}
    (hD : s.heap.IsTuple D #[.ref R, .bytes p t]) (hD' : s.heap.IsTuple D' #[.ref R', .bytes p t'])
    (hl : s.heap.IsTuple R (rowV src tgt pr id ttl tos opt v0 v1 v2 v3 v4 v5 v8 v9)) (hb : s.heap.IsTuple R' (rowV src tgt pr id ttl tos opt u0 u1 u2 u3 u4 u5 u8 u9)) (hu : A.units + 4 < cLine)
    (h : Q (.bool false) s) : wpAny (model prog w) A (compareOp .NotEq (.ref D) (.ref D')) Q E s := by
  have := RcNeAt.tuples (A := A) (e := fun _ => true) hD hD' (by omega) (fun j h1 h2 => by
    match j, h1, h2 with
    | 0, _, _ =>
      show EqAt A.in1 s (.ref R) (.ref R') true
      by_cases q : R = R'
      · subst q; exact EqAt.same _
      · exact EqAt.of_refs q (rc_rows hl hb (by show A.units + 1 < cLine; omega))
    | 1, _, _ => exact eq_bytes p t t'
    | n + 2, h1, _ => exact absurd h1 (by simp))
  exact this prog w E Q h
theorem ne_rowsN {prog : Program} {w : World} {E Q : Value → Shared → Prop} {h₀ : Heap} {L : Addr} {news : Led} {D D' R R' : Addr} {src tgt pr id ttl tos : Int} {opt p : Array UInt8} {v0 v1 v2 v3 v4 v5 v8 v9 u0 u1 u2 u3 u4 u5 u8 u9 t t' : Tok} (N : News h₀ L s.heap news)
    (hD : (D, ({ cls := .type "tuple", data := .seq #[.ref R, .bytes p t] } : Obj)) ∈ news) (hD' : (D', ({ cls := .type "tuple", data := .seq #[.ref R', .bytes p t'] } : Obj)) ∈ news)
    (hl : (R, ({ cls := .type "tuple", data := .seq (rowV src tgt pr id ttl tos opt v0 v1 v2 v3 v4 v5 v8 v9) } : Obj)) ∈ news) (hb : (R', ({ cls := .type "tuple", data := .seq (rowV src tgt pr id ttl tos opt u0 u1 u2 u3 u4 u5 u8 u9) } : Obj)) ∈ news) (hu : A.units + 4 < cLine)
    (h : Q (.bool false) s) : wpAny (model prog w) A (compareOp .NotEq (.ref D) (.ref D')) Q E s :=
  ne_rows ⟨_, (N _ hD).1, rfl, _, rfl⟩ ⟨_, (N _ hD').1, rfl, _, rfl⟩ ⟨_, (N _ hl).1, rfl, _, rfl⟩ ⟨_, (N _ hb).1, rfl, _, rfl⟩ hu h
end
-- p72c_xor
def xor1 (a : Int) : Int := if a % 2 = 0 then a + 1 else a - 1
theorem bitXor_one : ∀ n : Fin 256, Builtin.bitXor (n.val : Int) 1 = xor1 n.val := by decide +kernel
theorem mXor1 {prog : Program} {w : World} {A : Around} {E : Value → Shared → Prop} {hp : Heap} {gn : Array GenState} {dr : Drawn} {tk : Nat} {os : OsState} {t u : Tok} {Q : Value → Shared → Prop} {a : Int} (h0 : 0 ≤ a) (h1 : a < 256) (h : 0 ≤ xor1 a → xor1 a < 256 → Q (.int (xor1 a) tk) ⟨hp, gn, dr, tk + 1, os⟩) : wpAny (model prog w) A (binaryOp .BitXor (.int a t) (.int 1 u)) Q E ⟨hp, gn, dr, tk, os⟩ := by
  refine xor_int ?_
  have e := bitXor_one ⟨a.toNat, by omega⟩
  have e2 : ((a.toNat : Nat) : Int) = a := by omega
  simp only [e2] at e
  rw [e]
  refine h ?_ ?_ <;> (unfold xor1; split <;> omega)
theorem size_picked_le (b : Array UInt8) (lo hi : Option Int) : (KBy.picked b lo hi).size ≤ b.size := by
  rw [size_picked]
  exact Nat.le_trans (Nat.min_le_right _ _) (Nat.sub_le _ _)
/-- the packet with one bit turned -/
abbrev bentA (W : Array UInt8) : Array UInt8 := KBy.picked W none (some 8) ++ byteArr [xor1 (oct W (Int.toNat 8))] ++ KBy.picked W (some 9) none
-- m46
local macro_rules | `(tactic| walk_at "call ref") => `(tactic| (k_here; (with_reducible show wpAny _ _ (call (Value.ref 215) _) _ _ _); k_dflt (refine' VC.use (pack_spec _ _ _ _ _ _ _ _ _ _ _ _ _ _ _ _ _ _ _ _ _ _ _ _ _ _ _ _ _ _ _ _ ?hx ?hdx _ _ ?a1 ?a2 ?a3 ?a4 ?a5 ?a6 ?a7 ?a8 ?a9 ?a10 ?a11 ?a12 ?a13 ?a14 ?a15 ?r1 ?r2 ?r3) ?k1 ?k2 ?k3 ?k4 ?k5 ?kK ?kd ?ku ?_; (case k4 => k_asm); (case hx => walk_at "mine mem"); (case hdx => walk_at "mine mem"); walk_at "mine as"; (case r1 => first | exact rfl | assumption); (case r2 => first | exact rfl | assumption); (case r3 => first | exact rfl | assumption); walk_at "mine use")))
-- m72
local macro_rules | `(tactic| walk_at "exec For Name Call cons nil") => `(tactic| (k_here; (with_reducible show wpAny _ _ (exec (Stmt.For (Expr.Name _ _) _ _ [] _) _) _ _ _); k_dflt (refine' For_T ?_ ?k2; (case k2 => (intro _; rfl)); k_whole)))
local macro_rules | `(tactic| walk_at "mine till t") => `(tactic| repeat' (first | (k_unfold; (try dsimp only)) | ((fail_if_success (with_reducible show wpAny _ _ (call (Value.ref 327) _) _ _ _)); first | walk1 | (dsimp only; (fail_if_success (with_reducible show wpAny _ _ (call (Value.ref 327) _) _ _ _)); walk1))))
-- m73
local macro_rules | `(tactic| walk_at "mine useT") => `(tactic| (walk_at "mine k5"; (case xb => assumption); (case tb => assumption); (case dd => assumption); walk_at "mine kk"; k_whole))
local macro_rules | `(tactic| walk_at "mine till cmp") => `(tactic| repeat' (first | (k_unfold; (try dsimp only)) | ((fail_if_success (with_reducible show wpAny _ _ (compareOp _ _ _) _ _ _)); first | walk1 | (dsimp only; (fail_if_success (with_reducible show wpAny _ _ (compareOp _ _ _) _ _ _)); walk1))))
local macro_rules | `(tactic| walk_at "compareOp NotEq ref ref") => `(tactic| (k_here; (with_reducible show wpAny _ _ (compareOp CmpOp.NotEq (Value.ref _) (Value.ref _)) _ _ _); (with_reducible rename News _ _ _ _ => kN); k_dflt (refine' ne_rowsN kN ?hD ?hD' ?hl ?hb ?hu ?_; (case hD => walk_at "mine mem"); (case hD' => walk_at "mine mem"); (case hl => walk_at "mine mem"); (case hb => walk_at "mine mem"); (case hu => first | ktr_units | units_room | ke_room); k_whole)))
local macro_rules | `(tactic| walk_at "binaryOp BitXor int int") => `(tactic| k_dflt (refine mXor1 ?h0 ?h1 ?_; (case h0 => walk_at "mine fact"); (case h1 => walk_at "mine fact"); intro _ _))
-- p74_right
theorem right_spec (w : World) (news : Led) (x dx : Addr) (k0 k1 k2 k3 k4 k5 k6 k7 k8 k9 v0 v1 v2 v3 v4 v5 v8 v9 : Tok) (src tgt pr id ttl tos : Int) (dont more : Bool) (off : Int) (opt : Array UInt8) (hx : (x, instObj 176 dx) ∈ news) (hdx : (dx, dictOf (hdrL w k0 k1 k2 k3 k4 k5 k6 k7 k8 k9 v0 v1 v2 v3 v4 v5 v8 v9 src tgt pr id ttl tos dont more off opt) 10) ∈ news) (p : Array UInt8) (tp : Tok) (kind : Int) (tki : Tok) (hz : opt.size ≤ 40) (hz4 : opt.size % 4 = 0) (hp : p.size ≤ 1000)
    (b0 : 0 ≤ src) (b1 : src < 4294967296) (b2 : 0 ≤ tgt) (b3 : tgt < 4294967296) (b4 : 0 ≤ pr) (b5 : pr < 256) (b6 : 0 ≤ ttl) (b7 : ttl < 256) (b8 : 0 ≤ tos) (b9 : tos < 256) (c0 : 0 ≤ id) (c1 : id < 65536)
    (ho : off = 0) (hd0 : dont = false) (hm0 : more = false) (hw : (packA src tgt pr id ttl tos opt p).size = 20 + opt.size + p.size)
    (hF : ∀ (news : Led) (i : Int) tb tk, 0 ≤ i → i < 20 + opt.size → VT w 8 327 news [.int kind tk, .bytes (KBy.picked (packA src tgt pr id ttl tos opt p) none (some i)) tb] FormP)
    (hO : ∀ (news : Led) (i : Int) tb tk, 20 + opt.size ≤ i → i ≤ 20 + opt.size + p.size → VT w 8 327 news [.int kind tk, .bytes (KBy.picked (packA src tgt pr id ttl tos opt p) none (some i)) tb] (RowP src tgt pr id ttl tos opt (KBy.picked p none (some (i - (20 + opt.size))))))
    (hM : ∀ (news : Led) tb tk, VT w 8 327 news [.int kind tk, .bytes (packA src tgt pr id ttl tos opt p ++ #[109, 111, 114, 101]) tb] (RowP src tgt pr id ttl tos opt p))
    (hB : ∀ (news : Led) tb tk, VT w 8 327 news [.int kind tk, .bytes (bentA (packA src tgt pr id ttl tos opt p)) tb] FormP)
    (hN : ∀ (news : Led) tb tk, VT w 8 327 news [.int 8 tk, .bytes (packA src tgt pr id ttl tos opt p) tb] FormP)
    (hZ : ∀ (news : Led) tb tk, VT w 8 327 news [.int 0 tk, .bytes (packA src tgt pr id ttl tos opt p) tb] FormP) : VT w 10 334 news [.int kind tki, .ref x, .bytes p tp] TrueP := by
  subst ho hd0 hm0
  walk_at "mine enterT"
  rename_i g0 L0 h0 FG0 F0 N0 B0 X0 T0 D0
  walk_at "mine till iter"
  rename_i hr F₂ N₂ hk₂
  obtain ⟨⟨tS, tW⟩, F₂⟩ := frAs (α := Tok × Tok) (fun a y => if y = Str.ofString "whole" then some (.bytes (packA src tgt pr id ttl tos opt p) a.2) else if y = Str.ofString "size" then some (.int (20 + opt.size) a.1) else List.lookup y [(Str.ofString "payload", .bytes p tp), (Str.ofString "header", .ref x), (Str.ofString "kind", .int kind tki)]) F₂ (_, _) rfl
  refine iterRangeT (Str.ofString "due") (Ground w _ _ _ _ _ _ g0) rfl rfl rfl hr (small_up (by omega)) size_up F₂ N₂ ⟨KtsTurn.refl, B0, X0, T0, D0⟩ ?_ ?_
  · intro i t g h tk own u hi hG F₃ N₃
    obtain ⟨hT, B₁, X₁, T₁, D₁⟩ := hG
    clear hr F₂ N₂ hk₂ X0 T0 D0 B0
    walk_at "mine till t"
    · refine' VT.use (hO _ _ _ _ ?a1 ?a2) ?k1 ?k2 ?k3 ?k4 ?k5 ?xb ?tb ?dd ?kK ?kd ?ku ?_
      (case a1 => omega); (case a2 => omega)
      walk_at "mine useT"
      intro r9 tl9 g9 h9 tk9 P9 T9 F9 N9 B9 X9 Tp9 D9
      clear B₁ X₁ T₁ D₁
      obtain ⟨D, R, z0, z1, z2, z3, z4, z5, z8, z9, t9, rfl, rfl⟩ := P9
      simp only [List.cons_append, List.nil_append] at N9
      walk_at "mine till cmp"
      walk_at "compareOp NotEq ref ref"
      k_steps
      (with_reducible rename News _ _ _ _ => kN)
      (with_reducible rename Fr _ _ _ _ => kF)
      show ∃ g h tk m', _ ∧ _ ∧ _ ∧ _ ∧ _
      refine ⟨g9, _, _, _, rfl, ⟨hT.trans T9, B9, X9, Tp9, D9⟩, kF, cb_drop kN ?_, fun z h1 h2 => ?_⟩
      · walk_at "mine sub"
      · simp only [h1, h2, if_false]
    · refine' VT.use (hF _ _ _ _ ?a1 ?a2) ?k1 ?k2 ?k3 ?k4 ?k5 ?xb ?tb ?dd ?kK ?kd ?ku ?_
      (case a1 => omega); (case a2 => omega)
      walk_at "mine useT"
      intro r9 tl9 g9 h9 tk9 P9 T9 F9 N9 B9 X9 Tp9 D9
      clear B₁ X₁ T₁ D₁
      obtain ⟨t9, rfl, rfl⟩ := P9
      simp only [List.cons_append, List.nil_append] at N9
      k_steps
      (with_reducible rename News _ _ _ _ => kN)
      (with_reducible rename Fr _ _ _ _ => kF)
      show ∃ g h tk m', _ ∧ _ ∧ _ ∧ _ ∧ _
      refine ⟨g9, _, _, _, rfl, ⟨hT.trans T9, B9, X9, Tp9, D9⟩, kF, cb_drop kN ?_, fun z h1 h2 => ?_⟩
      · walk_at "mine sub"
      · simp only [h1, h2, if_false]
  · intro u g h tk hG F₃ N₃
    obtain ⟨hT, B₁, X₁, T₁, D₁⟩ := hG
    clear hr F₂ N₂ hk₂ X0 T0 D0 B0
    have hmz : (#[109, 111, 114, 101] : Array UInt8).size = 4 := rfl
    have hq1 := size_picked_le (packA src tgt pr id ttl tos opt p) none (some 8)
    have hq2 := size_picked_le (packA src tgt pr id ttl tos opt p) (some 9) none
    walk_at "mine till t"
    refine' VT.use (hM _ _ _) ?k1 ?k2 ?k3 ?k4 ?k5 ?xb ?tb ?dd ?kK ?kd ?ku ?_
    walk_at "mine useT"
    intro r9 tl9 g9 h9 tk9 P9 T9 F9 N9 B9 X9 Tp9 D9
    clear B₁ X₁ T₁ D₁
    obtain ⟨D, R, z0, z1, z2, z3, z4, z5, z8, z9, t9, rfl, rfl⟩ := P9
    simp only [List.cons_append, List.nil_append] at N9
    walk_at "mine till cmp"
    walk_at "compareOp NotEq ref ref"
    walk_at "mine till t"
    refine' VT.use (hB _ _ _) ?k1 ?k2 ?k3 ?k4 ?k5 ?xb ?tb ?dd ?kK ?kd ?ku ?_
    walk_at "mine useT"
    intro r5 tl5 g5 h5 tk5 P5 T5 F5 N5 B5 X5 Tp5 D5
    obtain ⟨t5, rfl, rfl⟩ := P5
    simp only [List.cons_append, List.nil_append] at N5
    clear B9 X9 Tp9 D9
    walk_at "mine till t"
    refine' VT.use (hN _ _ _) ?k1 ?k2 ?k3 ?k4 ?k5 ?xb ?tb ?dd ?kK ?kd ?ku ?_
    walk_at "mine useT"
    intro r6 tl6 g6 h6 tk6 P6 T6 F6 N6 B6 X6 Tp6 D6
    obtain ⟨t6, rfl, rfl⟩ := P6
    simp only [List.cons_append, List.nil_append] at N6
    clear B5 X5 Tp5 D5
    walk_at "mine till t"
    refine' VT.use (hZ _ _ _) ?k1 ?k2 ?k3 ?k4 ?k5 ?xb ?tb ?dd ?kK ?kd ?ku ?_
    walk_at "mine useT"
    intro r7 tl7 g7 h7 tk7 P7 T7 F7 N7 B7 X7 Tp7 D7
    obtain ⟨t7, rfl, rfl⟩ := P7
    simp only [List.cons_append, List.nil_append] at N7
    clear B6 X6 Tp6 D6
    k_steps
    (with_reducible rename News _ _ _ _ => kN)
    (with_reducible rename Fr _ _ _ _ => kF)
    rename ∀ (r : Value) (tl : Led) (h₀' h' : Heap) (tk' : Nat), TrueP _ _ → _ => hret
    refine ⟨g7, _, _, _, ((((hT.trans T9).trans T5).trans T6).trans T7), kF, kN, fun g1 t1 f1 n1 b1 x1 p1 d1 => hret _ [] g1 _ _ ⟨?_, rfl⟩ t1 f1 (cb_drop n1 ?_) b1 x1 p1 d1⟩
    · rw [beq_self_eq_true]
    · walk_at "mine sub"
-- p80_plain
/-! plain facts of octets -/
theorem oct_list (l : List UInt8) (i : Nat) : oct l.toArray i = ((l.getD i 0).toNat : Int) := rfl
theorem getD_left {A B : List UInt8} {i : Nat} (h : i < A.length) : (A ++ B).getD i 0 = A.getD i 0 := by
  simp only [List.getD_eq_getElem?_getD, List.getElem?_append_left h]
theorem getD_right {A B : List UInt8} {i : Nat} (h : A.length ≤ i) : (A ++ B).getD i 0 = B.getD (i - A.length) 0 := by
  simp only [List.getD_eq_getElem?_getD, List.getElem?_append_right h]
theorem oct_mid {A B X Y : List UInt8} (hl : X.length = Y.length) {i : Nat} (h : i < A.length ∨ A.length + X.length ≤ i) : oct (A ++ (X ++ B)).toArray i = oct (A ++ (Y ++ B)).toArray i := by
  rw [oct_list, oct_list]
  rcases h with h | h
  · rw [getD_left h, getD_left h]
  · rw [getD_right (by omega), getD_right (by omega), getD_right (by omega), getD_right (by omega), hl]
theorem oct_take {b : Array UInt8} {n i : Nat} (h : i < n) : oct (b.toList.take n).toArray i = oct b i := by
  rw [oct_list]
  unfold oct
  rw [List.getD_eq_getElem?_getD, List.getD_eq_getElem?_getD, List.getElem?_take_of_lt h]
theorem oct_append_left {b c : Array UInt8} {i : Nat} (h : i < b.size) : oct (b ++ c) i = oct b i := by
  unfold oct
  rw [Array.toList_append, getD_left (by simpa using h)]
theorem oct_bytes {l : List Int} {c : Array UInt8} {i : Nat} {v : Int} (h : l[i]? = some v) (h0 : 0 ≤ v) (h1 : v < 256) : oct (byteArr l ++ c) i = v := by
  have hi : i < l.length := by
    rcases Nat.lt_or_ge i l.length with q | q
    · exact q
    · rw [List.getElem?_eq_none q] at h; cases h
  unfold oct
  rw [Array.toList_append, getD_left (by simpa [byteArr] using hi)]
  unfold byteArr
  rw [List.getD_eq_getElem?_getD, List.getElem?_map, h]
  show (((v.toNat.toUInt8).toNat : Nat) : Int) = v
  have : v.toNat.toUInt8.toNat = v.toNat := by
    rw [Nat.toUInt8, UInt8.toNat_ofNat']
    omega
  rw [this]
  omega
theorem get16_congr {b c : Array UInt8} {i : Nat} (h0 : oct b i = oct c i) (h1 : oct b (i + 1) = oct c (i + 1)) : get16A b i = get16A c i := by
  unfold get16A; rw [h0, h1]
theorem sumW_congr {b c : Array UInt8} : ∀ {k : Nat}, (∀ j, j < 2 * k → oct b j = oct c j) → sumW b k = sumW c k
  | 0, _ => rfl
  | k + 1, h => by
    unfold sumW
    rw [sumW_congr (fun j hj => h j (by omega)), get16_congr (h _ (by omega)) (h _ (by omega))]
theorem sumW_one {b c : Array UInt8} (m : Nat) : ∀ k, (∀ j, j < k → j ≠ m → get16A c (2 * j) = get16A b (2 * j)) → sumW c k = sumW b k + (if m < k then get16A c (2 * m) - get16A b (2 * m) else 0)
  | 0, _ => by simp [sumW]
  | k + 1, h => by
    unfold sumW
    rw [sumW_one m k (fun j hj => h j (by omega))]
    by_cases q : k = m
    · subst q
      rw [if_neg (by omega), if_pos (by omega)]
      omega
    · rw [h k (by omega) q]
      by_cases r : m < k
      · rw [if_pos r, if_pos (by omega)]; omega
      · rw [if_neg r, if_neg (by omega)]; omega
theorem sumW_first (b : Array UInt8) : ∀ k, get16A b 0 ≤ sumW b (k + 1)
  | 0 => by simp [sumW]
  | k + 1 => by
    have := sumW_first b k
    have := get16A_lo b (2 * (k + 1))
    unfold sumW
    omega
theorem checkA_congr {b c : Array UInt8} (hs : b.size = c.size) (h : ∀ j, j < b.size → oct b j = oct c j) : checkA b = checkA c := by
  unfold checkA
  rw [← hs, sumW_congr (fun j hj => h j (by omega))]
theorem byteArr_append (l m : List Int) : byteArr l ++ byteArr m = byteArr (l ++ m) := by
  simp [byteArr]
theorem foldF_mod {x : Int} (h : 0 < x) : foldF x % 65535 = x % 65535 := by
  unfold foldF
  rw [if_neg (by omega)]
  omega
theorem foldF_eq_top {x : Int} (h : 0 < x) (h0 : x % 65535 = 0) : foldF x = 65535 := by
  unfold foldF
  rw [if_neg (by omega)]
  omega
theorem foldF_ne_top {x : Int} (h : 0 ≤ x) (h0 : x % 65535 ≠ 0) : foldF x ≠ 65535 := by
  unfold foldF
  split <;> omega
/-- the head's octets ahead of the options -/
def h20 (src tgt pr id ttl tos : Int) (n : Int) (t c : Int) : List Int :=
  [4 * 16 + (20 + n) / 4, tos, t / 256 % 256, t % 256, id / 256 % 256, id % 256, 0, 0, ttl, pr, c / 256 % 256, c % 256, src / 65536 / 256 % 256, src / 65536 % 256, src / 256 % 256, src % 256, tgt / 65536 / 256 % 256, tgt / 65536 % 256, tgt / 256 % 256, tgt % 256]
theorem headA_eq (src tgt pr id ttl tos : Int) (opt p : Array UInt8) (c : Int) : headA src tgt pr id ttl tos opt p c = byteArr (h20 src tgt pr id ttl tos opt.size (20 + opt.size + p.size) c) ++ opt := by
  unfold headA put32A put16A
  simp only [← Array.append_assoc, byteArr_append]
  rfl
theorem headA_size (src tgt pr id ttl tos : Int) (opt p : Array UInt8) (c : Int) : (headA src tgt pr id ttl tos opt p c).size = 20 + opt.size := by
  rw [headA_eq, Array.size_append, byteArr_size]; rfl
theorem packA_eq (src tgt pr id ttl tos : Int) (opt p : Array UInt8) : ∃ c, 0 ≤ c ∧ c ≤ 65535 ∧ c = checkA (headA src tgt pr id ttl tos opt p 0) ∧ packA src tgt pr id ttl tos opt p = headA src tgt pr id ttl tos opt p c ++ p := by
  refine ⟨_, ?_, ?_, rfl, rfl⟩ <;> unfold checkA
  · have := @foldF_hi (sumW (headA src tgt pr id ttl tos opt p 0) ((headA src tgt pr id ttl tos opt p 0).size / 2)); omega
  · have := foldF_lo (sumW_lo (headA src tgt pr id ttl tos opt p 0) ((headA src tgt pr id ttl tos opt p 0).size / 2)); omega
theorem packA_size (src tgt pr id ttl tos : Int) (opt p : Array UInt8) : (packA src tgt pr id ttl tos opt p).size = 20 + opt.size + p.size := by
  unfold packA
  rw [Array.size_append, headA_size]
-- p81_plain

section
variable {src tgt pr id ttl tos : Int} {opt p : Array UInt8}
theorem head_oct {c : Int} {i : Nat} {v : Int} (h : (h20 src tgt pr id ttl tos opt.size (20 + opt.size + p.size) c)[i]? = some v) (h0 : 0 ≤ v) (h1 : v < 256) : oct (headA src tgt pr id ttl tos opt p c) i = v := by
  rw [headA_eq]; exact oct_bytes h h0 h1
theorem head_other {c c' : Int} {i : Nat} (h : i < 10 ∨ 12 ≤ i) : oct (headA src tgt pr id ttl tos opt p c) i = oct (headA src tgt pr id ttl tos opt p c') i := by
  have e : ∀ c, headA src tgt pr id ttl tos opt p c = (((h20 src tgt pr id ttl tos opt.size (20 + opt.size + p.size) 0).take 10).map (fun n => n.toNat.toUInt8) ++ ([c / 256 % 256, c % 256].map (fun n => n.toNat.toUInt8) ++ (((h20 src tgt pr id ttl tos opt.size (20 + opt.size + p.size) 0).drop 12).map (fun n => n.toNat.toUInt8) ++ opt.toList))).toArray := by
    intro c
    rw [headA_eq]
    apply Array.toList_inj.mp
    rw [Array.toList_append]
    rfl
  rw [e c, e c']
  refine oct_mid ?_ ?_
  · rfl
  · exact h
theorem head_word {c : Int} (h0 : 0 ≤ c) (h1 : c ≤ 65535) : get16A (headA src tgt pr id ttl tos opt p c) 10 = c := by
  unfold get16A
  rw [head_oct (v := c / 256 % 256) rfl (by omega) (by omega), head_oct (v := c % 256) rfl (by omega) (by omega)]
  omega
theorem head_sum {c : Int} (h0 : 0 ≤ c) (h1 : c ≤ 65535) : sumW (headA src tgt pr id ttl tos opt p c) ((20 + opt.size) / 2) = sumW (headA src tgt pr id ttl tos opt p 0) ((20 + opt.size) / 2) + c := by
  rw [sumW_one (b := headA src tgt pr id ttl tos opt p 0) 5 _ (fun j _ hj => get16_congr (head_other (by omega)) (head_other (by omega)))]
  rw [if_pos (by omega), head_word h0 h1, head_word (Int.le_refl _) (by decide)]
  omega
theorem head_pos {c : Int} (hz : opt.size ≤ 40) : 0 < sumW (headA src tgt pr id ttl tos opt p c) ((20 + opt.size) / 2) := by
  have e : (20 + opt.size) / 2 = (9 + opt.size / 2) + 1 := by omega
  rw [e]
  have := sumW_first (headA src tgt pr id ttl tos opt p c) (9 + opt.size / 2)
  have h1 : oct (headA src tgt pr id ttl tos opt p c) 0 = 4 * 16 + (20 + opt.size) / 4 := head_oct rfl (by omega) (by omega)
  have h2 := oct_lo (headA src tgt pr id ttl tos opt p c) 1
  unfold get16A at this
  rw [Nat.zero_add] at this
  omega
theorem head_checkA (c : Int) : checkA (headA src tgt pr id ttl tos opt p c) = 65535 - foldF (sumW (headA src tgt pr id ttl tos opt p c) ((20 + opt.size) / 2)) := by
  unfold checkA; rw [headA_size]
/-- the sum of the whole head -/
theorem head_mod (hz : opt.size ≤ 40) : sumW (headA src tgt pr id ttl tos opt p (checkA (headA src tgt pr id ttl tos opt p 0))) ((20 + opt.size) / 2) % 65535 = 0 := by
  have e : checkA (headA src tgt pr id ttl tos opt p 0) = 65535 - foldF (sumW (headA src tgt pr id ttl tos opt p 0) ((20 + opt.size) / 2)) := head_checkA 0
  have h1 := @foldF_hi (sumW (headA src tgt pr id ttl tos opt p 0) ((20 + opt.size) / 2))
  have h2 := foldF_lo (sumW_lo (headA src tgt pr id ttl tos opt p 0) ((20 + opt.size) / 2))
  rw [e, head_sum (by omega) (by omega)]
  have h3 := foldF_mod (@head_pos src tgt pr id ttl tos opt p 0 hz)
  omega
theorem head_check (hz : opt.size ≤ 40) : checkA (headA src tgt pr id ttl tos opt p (checkA (headA src tgt pr id ttl tos opt p 0))) = 0 := by
  have h := head_mod (src := src) (tgt := tgt) (pr := pr) (id := id) (ttl := ttl) (tos := tos) (p := p) hz
  have h2 := @head_pos src tgt pr id ttl tos opt p (checkA (headA src tgt pr id ttl tos opt p 0)) hz
  rw [head_checkA, foldF_eq_top h2 h]
  rfl
theorem xor1_cases {a : Int} : xor1 a = a + 1 ∨ xor1 a = a - 1 := by
  unfold xor1; split
  · exact .inl rfl
  · exact .inr rfl
/-- one bit of the head turned -/
theorem bent_check (hz : opt.size ≤ 40) {b : Array UInt8} (hs : b.size = 20 + opt.size) (ho : ∀ j, j < 20 + opt.size → j ≠ 8 → oct b j = oct (headA src tgt pr id ttl tos opt p (checkA (headA src tgt pr id ttl tos opt p 0))) j)
    (h8 : oct b 8 = xor1 (oct (headA src tgt pr id ttl tos opt p (checkA (headA src tgt pr id ttl tos opt p 0))) 8)) : checkA b ≠ 0 := by
  have h := head_mod (src := src) (tgt := tgt) (pr := pr) (id := id) (ttl := ttl) (tos := tos) (p := p) hz
  have e := sumW_one (b := headA src tgt pr id ttl tos opt p (checkA (headA src tgt pr id ttl tos opt p 0))) (c := b) 4 ((20 + opt.size) / 2) (fun j hj hm => get16_congr (ho _ (by omega) (by omega)) (ho _ (by omega) (by omega)))
  rw [if_pos (by omega)] at e
  have e1 : get16A b (2 * 4) - get16A (headA src tgt pr id ttl tos opt p (checkA (headA src tgt pr id ttl tos opt p 0))) (2 * 4) = 256 ∨ get16A b (2 * 4) - get16A (headA src tgt pr id ttl tos opt p (checkA (headA src tgt pr id ttl tos opt p 0))) (2 * 4) = -256 := by
    unfold get16A
    rw [show 2 * 4 + 1 = 9 from rfl, show 2 * 4 = 8 from rfl, h8, ho 9 (by omega) (by omega)]
    rcases @xor1_cases (oct (headA src tgt pr id ttl tos opt p (checkA (headA src tgt pr id ttl tos opt p 0))) 8) with q | q <;> rw [q] <;> omega
  have hlo := sumW_lo b ((20 + opt.size) / 2)
  have ne : foldF (sumW b ((20 + opt.size) / 2)) ≠ 65535 := foldF_ne_top hlo (by omega)
  have hd : checkA b = 65535 - foldF (sumW b ((20 + opt.size) / 2)) := by unfold checkA; rw [hs]
  omega
end
-- p82_plain
theorem clip_nat {n : Nat} {i : Int} (h : 0 ≤ i) : clipAt n i = min i.toNat n := by
  unfold clipAt
  rw [if_neg (by omega), Int.max_eq_right (by omega)]
  rcases Int.le_total i n with h1 | h1
  · rw [Int.min_eq_left h1, Nat.min_eq_left (by omega)]
  · rw [Int.min_eq_right h1, Nat.min_eq_right (by omega)]
    exact Int.toNat_natCast n
theorem picked_to {b : Array UInt8} {i : Int} (h : 0 ≤ i) : KBy.picked b none (some i) = (b.toList.take i.toNat).toArray := by
  rw [KBc.picked_eq]
  simp only [Option.elim, clip_nat h, List.drop_zero, Nat.sub_zero]
  apply Array.toList_inj.mp
  show List.take _ _ = List.take _ _
  rw [List.take_eq_take_iff]
  simp only [Array.length_toList]
  omega
theorem picked_mid {b : Array UInt8} {l i : Int} (h0 : 0 ≤ l) (h : 0 ≤ i) (hl : l.toNat ≤ b.size) : KBy.picked b (some l) (some i) = ((b.toList.drop l.toNat).take (i.toNat - l.toNat)).toArray := by
  rw [KBc.picked_eq]
  simp only [Option.elim, clip_nat h, clip_nat h0]
  rw [Nat.min_eq_left hl]
  apply Array.toList_inj.mp
  show List.take _ _ = List.take _ _
  rw [List.take_eq_take_iff]
  simp only [List.length_drop, Array.length_toList]
  rw [Nat.sub_min_sub_right, Nat.sub_min_sub_right, Nat.min_assoc, Nat.min_self]
theorem picked_from {b : Array UInt8} {l : Int} (h0 : 0 ≤ l) (hl : l.toNat ≤ b.size) : KBy.picked b (some l) none = (b.toList.drop l.toNat).toArray := by
  rw [KBc.picked_eq]
  simp only [Option.elim, clip_nat h0]
  rw [Nat.min_eq_left hl]
  apply Array.toList_inj.mp
  show List.take _ _ = List.drop _ _
  rw [List.take_of_length_le]
  simp
section
variable {src tgt pr id ttl tos : Int} {opt p : Array UInt8}
/-- the packet's head -/
def headW (src tgt pr id ttl tos : Int) (opt p : Array UInt8) : Array UInt8 := headA src tgt pr id ttl tos opt p (checkA (headA src tgt pr id ttl tos opt p 0))
theorem packW : packA src tgt pr id ttl tos opt p = headW src tgt pr id ttl tos opt p ++ p := rfl
theorem headW_size : (headW src tgt pr id ttl tos opt p).size = 20 + opt.size := headA_size ..
/-- the ranges of the numbers in a head -/
structure Rng (src tgt pr id ttl tos : Int) (opt p : Array UInt8) : Prop where
  hz : opt.size ≤ 40
  hz4 : opt.size % 4 = 0
  hp : p.size ≤ 1000
  b0 : 0 ≤ src
  b1 : src < 4294967296
  b2 : 0 ≤ tgt
  b3 : tgt < 4294967296
  b4 : 0 ≤ pr
  b5 : pr < 256
  b6 : 0 ≤ ttl
  b7 : ttl < 256
  b8 : 0 ≤ tos
  b9 : tos < 256
  c0 : 0 ≤ id
  c1 : id < 65536
theorem w_oct {r : Array UInt8} {i : Nat} {v : Int} (h : (h20 src tgt pr id ttl tos opt.size (20 + opt.size + p.size) (checkA (headA src tgt pr id ttl tos opt p 0)))[i]? = some v) (h0 : 0 ≤ v) (h1 : v < 256) : oct (headW src tgt pr id ttl tos opt p ++ r) i = v := by
  unfold headW
  rw [headA_eq, Array.append_assoc]
  exact oct_bytes h h0 h1
variable (R : Rng src tgt pr id ttl tos opt p) (r : Array UInt8)
include R
theorem w_first : oct (headW src tgt pr id ttl tos opt p ++ r) (Int.toNat 0) = 64 + (20 + opt.size) / 4 := by
  have := R.hz
  exact (w_oct (v := 4 * 16 + (20 + (opt.size : Int)) / 4) rfl (by omega) (by omega)).trans (by omega)
theorem w_ver : oct (headW src tgt pr id ttl tos opt p ++ r) (Int.toNat 0) / 16 = 4 := by
  have := R.hz
  rw [w_first R]; omega
theorem w_hs : oct (headW src tgt pr id ttl tos opt p ++ r) (Int.toNat 0) % 16 * 4 = 20 + opt.size := by
  have := R.hz
  have := R.hz4
  rw [w_first R]; omega
theorem w_total : get16A (headW src tgt pr id ttl tos opt p ++ r) (Int.toNat 2) = 20 + opt.size + p.size := by
  have := R.hz
  have := R.hp
  have e1 : oct (headW src tgt pr id ttl tos opt p ++ r) 2 = (20 + (opt.size : Int) + p.size) / 256 % 256 := w_oct rfl (by omega) (by omega)
  have e2 : oct (headW src tgt pr id ttl tos opt p ++ r) 3 = (20 + (opt.size : Int) + p.size) % 256 := w_oct rfl (by omega) (by omega)
  show oct (headW src tgt pr id ttl tos opt p ++ r) 2 * 256 + oct (headW src tgt pr id ttl tos opt p ++ r) 3 = _
  omega
theorem w_id : get16A (headW src tgt pr id ttl tos opt p ++ r) (Int.toNat 4) = id := by
  have := R.c0
  have := R.c1
  have e1 : oct (headW src tgt pr id ttl tos opt p ++ r) 4 = id / 256 % 256 := w_oct rfl (by omega) (by omega)
  have e2 : oct (headW src tgt pr id ttl tos opt p ++ r) 5 = id % 256 := w_oct rfl (by omega) (by omega)
  show oct (headW src tgt pr id ttl tos opt p ++ r) 4 * 256 + oct (headW src tgt pr id ttl tos opt p ++ r) 5 = _
  omega
omit R in
theorem w_flags : get16A (headW src tgt pr id ttl tos opt p ++ r) (Int.toNat 6) = 0 := by
  have e1 : oct (headW src tgt pr id ttl tos opt p ++ r) 6 = 0 := w_oct rfl (by omega) (by omega)
  have e2 : oct (headW src tgt pr id ttl tos opt p ++ r) 7 = 0 := w_oct rfl (by omega) (by omega)
  show oct (headW src tgt pr id ttl tos opt p ++ r) 6 * 256 + oct (headW src tgt pr id ttl tos opt p ++ r) 7 = _
  omega
theorem w_src : get32A (headW src tgt pr id ttl tos opt p ++ r) (Int.toNat 12) = src := by
  have := R.b0
  have := R.b1
  have e1 : oct (headW src tgt pr id ttl tos opt p ++ r) 12 = src / 65536 / 256 % 256 := w_oct rfl (by omega) (by omega)
  have e2 : oct (headW src tgt pr id ttl tos opt p ++ r) 13 = src / 65536 % 256 := w_oct rfl (by omega) (by omega)
  have e3 : oct (headW src tgt pr id ttl tos opt p ++ r) 14 = src / 256 % 256 := w_oct rfl (by omega) (by omega)
  have e4 : oct (headW src tgt pr id ttl tos opt p ++ r) 15 = src % 256 := w_oct rfl (by omega) (by omega)
  show (oct (headW src tgt pr id ttl tos opt p ++ r) 12 * 256 + oct (headW src tgt pr id ttl tos opt p ++ r) 13) * 65536 + (oct (headW src tgt pr id ttl tos opt p ++ r) 14 * 256 + oct (headW src tgt pr id ttl tos opt p ++ r) 15) = _
  omega
theorem w_tgt : get32A (headW src tgt pr id ttl tos opt p ++ r) (Int.toNat 16) = tgt := by
  have := R.b2
  have := R.b3
  have e1 : oct (headW src tgt pr id ttl tos opt p ++ r) 16 = tgt / 65536 / 256 % 256 := w_oct rfl (by omega) (by omega)
  have e2 : oct (headW src tgt pr id ttl tos opt p ++ r) 17 = tgt / 65536 % 256 := w_oct rfl (by omega) (by omega)
  have e3 : oct (headW src tgt pr id ttl tos opt p ++ r) 18 = tgt / 256 % 256 := w_oct rfl (by omega) (by omega)
  have e4 : oct (headW src tgt pr id ttl tos opt p ++ r) 19 = tgt % 256 := w_oct rfl (by omega) (by omega)
  show (oct (headW src tgt pr id ttl tos opt p ++ r) 16 * 256 + oct (headW src tgt pr id ttl tos opt p ++ r) 17) * 65536 + (oct (headW src tgt pr id ttl tos opt p ++ r) 18 * 256 + oct (headW src tgt pr id ttl tos opt p ++ r) 19) = _
  omega
theorem w_pr : oct (headW src tgt pr id ttl tos opt p ++ r) (Int.toNat 9) = pr := w_oct rfl R.b4 R.b5
theorem w_ttl : oct (headW src tgt pr id ttl tos opt p ++ r) (Int.toNat 8) = ttl := w_oct rfl R.b6 R.b7
theorem w_tos : oct (headW src tgt pr id ttl tos opt p ++ r) (Int.toNat 1) = tos := w_oct rfl R.b8 R.b9
omit R in
theorem w_head : KBy.picked (headW src tgt pr id ttl tos opt p ++ r) none (some (20 + (opt.size : Int))) = headW src tgt pr id ttl tos opt p := by
  rw [picked_to (by omega)]
  apply Array.toList_inj.mp
  show List.take _ _ = _
  rw [Array.toList_append, List.take_append_of_le_length (by rw [Array.length_toList, headW_size]; omega), List.take_of_length_le (by rw [Array.length_toList, headW_size]; omega)]
omit R in
theorem w_opt : KBy.picked (headW src tgt pr id ttl tos opt p ++ r) (some 20) (some (20 + (opt.size : Int))) = opt := by
  rw [picked_mid (by omega) (by omega) (by rw [Array.size_append, headW_size]; omega)]
  apply Array.toList_inj.mp
  show List.take _ (List.drop _ _) = _
  unfold headW
  rw [headA_eq, Array.append_assoc, Array.toList_append, List.drop_append_of_le_length (by simp [byteArr, h20]), List.drop_of_length_le (by simp [byteArr, h20]), List.nil_append, Array.toList_append, List.take_append_of_le_length (by rw [Array.length_toList]; omega), List.take_of_length_le (by rw [Array.length_toList]; omega)]
omit R in
theorem w_pay : KBy.picked (headW src tgt pr id ttl tos opt p ++ r) (some (20 + (opt.size : Int))) (some (20 + opt.size + p.size)) = (r.toList.take p.size).toArray := by
  rw [picked_mid (by omega) (by omega) (by rw [Array.size_append, headW_size]; omega)]
  apply Array.toList_inj.mp
  show List.take _ (List.drop _ _) = List.take _ _
  have e : (20 + (opt.size : Int)).toNat = 20 + opt.size := by omega
  have e2 : (20 + (opt.size : Int) + p.size).toNat - (20 + (opt.size : Int)).toNat = p.size := by omega
  rw [e2, e, Array.toList_append, List.drop_append_of_le_length (by rw [Array.length_toList, headW_size]; omega), List.drop_of_length_le (by rw [Array.length_toList, headW_size]; omega), List.nil_append]
end
-- p82b_mono
theorem XC.mono {w : World} {d d' : Nat} {f : Addr} {news : Led} {vs : List Value} (C : XC w d f news vs) (h : d ≤ d' := by decide) : XC w d' f news vs := by
  intro mean mg mb dp un gd cn cs a ccd cl outer A₀ base h₀ L m s Q E B F X N T hk hd hu hret
  exact C mean mg mb dp un gd cn cs a ccd cl outer A₀ base h₀ L m s Q E B F X N T hk (by omega) (by omega) hret
-- p83_good
section
variable {src tgt pr id ttl tos : Int} {opt p : Array UInt8}
theorem good_unpack (w : World) (R : Rng src tgt pr id ttl tos opt p) (r : Array UInt8) (hr : r.size ≤ 2000) (hr' : p.size ≤ r.size) (news : Led) (t : Tok) :
    VN w 5 229 news [.bytes (headW src tgt pr id ttl tos opt p ++ r) t] (MadeP w src tgt pr id ttl tos opt (r.toList.take p.size).toArray) := by
  have hz := R.hz
  have hz4 := R.hz4
  have hp := R.hp
  have hsz : (headW src tgt pr id ttl tos opt p ++ r).size = 20 + opt.size + r.size := by rw [Array.size_append, headW_size]
  have e : KBy.picked (headW src tgt pr id ttl tos opt p ++ r) none (some (oct (headW src tgt pr id ttl tos opt p ++ r) (Int.toNat 0) % 16 * 4)) = headW src tgt pr id ttl tos opt p := by rw [w_hs R, w_head]
  have U := unpack_spec w news (headW src tgt pr id ttl tos opt p ++ r) t (by rw [hsz]; omega) (by rw [hsz]; omega) (w_ver R r) (by rw [w_hs R, hsz]; omega) (by rw [w_hs R]; omega)
    (by rw [w_hs R, w_total R]; omega) (by rw [w_total R, hsz]; omega) (by rw [e, headW_size]; omega) (by rw [e, headW_size]; omega) (by rw [e]; exact head_check hz) (w_flags r)
  rw [w_src R, w_tgt R, w_pr R, w_id R, w_ttl R, w_tos R, w_hs R, w_total R, w_opt, w_pay] at U
  exact U
theorem good_about (w : World) (R : Rng src tgt pr id ttl tos opt p) (r : Array UInt8) (hr : r.size ≤ 1100) (kind code rest : Int) (hk : isErr kind = true) (news : Led) (x dx : Addr) (k0 k1 k2 k3 v0 v1 v2 v3 : Tok) (hx : (x, instObj 288 dx) ∈ news)
    (hdx : (dx, dictOf (msgL w k0 k1 k2 k3 v0 v1 v2 v3 kind code rest (headW src tgt pr id ttl tos opt p ++ r)) 4) ∈ news) : VN w 6 236 news [.ref x] (MadeP w src tgt pr id ttl tos opt (r.toList.take p.size).toArray) := by
  have hz := R.hz
  have hz4 := R.hz4
  have hp := R.hp
  have hsz : (headW src tgt pr id ttl tos opt p ++ r).size = 20 + opt.size + r.size := by rw [Array.size_append, headW_size]
  let z := r ++ Array.replicate (p.size - r.size) (0 : UInt8)
  have hzs : z.size = max p.size r.size := by
    show (r ++ Array.replicate (p.size - r.size) (0 : UInt8)).size = _
    rw [Array.size_append, Array.size_replicate]; omega
  have epad : padA (headW src tgt pr id ttl tos opt p ++ r) = headW src tgt pr id ttl tos opt p ++ z := by
    unfold padA
    rw [w_total R, hsz, Array.append_assoc]
    have : (if (20 : Int) + opt.size + p.size - ((20 + opt.size + r.size : Nat) : Int) > 0 then (20 : Int) + opt.size + p.size - ((20 + opt.size + r.size : Nat) : Int) else 0).toNat = p.size - r.size := by
      split <;> omega
    rw [this]
  have A := about_ok w news x dx k0 k1 k2 k3 v0 v1 v2 v3 kind code rest (headW src tgt pr id ttl tos opt p ++ r) hx hdx hk (by rw [hsz]; omega) (by rw [hsz]; omega) (w_ver R r) (by rw [w_hs R, hsz]; omega) (by rw [w_hs R]; omega)
    src tgt pr id ttl tos opt (z.toList.take p.size).toArray hz (by rw [List.size_toArray, List.length_take]; omega) (fun news t => by rw [epad]; exact good_unpack w R z (by omega) (by omega) news t)
  have ef : KBy.picked (z.toList.take p.size).toArray none (some (if (((headW src tgt pr id ttl tos opt p ++ r).size : Nat) : Int) - (20 + opt.size) > 0 then (((headW src tgt pr id ttl tos opt p ++ r).size : Nat) : Int) - (20 + opt.size) else 0)) = (r.toList.take p.size).toArray := by
    rw [hsz]
    have : (if ((20 + opt.size + r.size : Nat) : Int) - (20 + opt.size) > 0 then ((20 + opt.size + r.size : Nat) : Int) - (20 + opt.size) else 0) = (r.size : Int) := by split <;> omega
    rw [this, picked_to (by omega)]
    apply Array.toList_inj.mp
    show List.take _ (List.take _ _) = List.take _ _
    rw [List.take_take]
    show List.take _ (r ++ Array.replicate (p.size - r.size) (0 : UInt8)).toList = _
    rw [Array.toList_append, List.take_append_of_le_length (by rw [Array.length_toList]; omega), List.take_eq_take_iff, Array.length_toList]
    clear A epad hzs hsz this hdx hx
    omega
  rw [ef] at A
  exact A
theorem good_told (w : World) (R : Rng src tgt pr id ttl tos opt p) (r : Array UInt8) (hr : r.size ≤ 1100) (kind : Int) (hk : isErr kind = true) (news : Led) (tk tb : Tok) :
    VT w 8 327 news [.int kind tk, .bytes (headW src tgt pr id ttl tos opt p ++ r) tb] (RowP src tgt pr id ttl tos opt (r.toList.take p.size).toArray) :=
  told_ok w news kind tk _ tb src tgt pr id ttl tos opt _ fun news x dx k0 k1 k2 k3 v0 v1 v2 v3 hx hdx => good_about w R r hr kind 0 0 hk news x dx k0 k1 k2 k3 v0 v1 v2 v3 hx hdx
/-- a packet that is cut within its head -/
theorem cut_told (w : World) (R : Rng src tgt pr id ttl tos opt p) (i : Nat) (hi : i < 20 + opt.size) (kind : Int) (hk : isErr kind = true) (news : Led) (tk tb : Tok) :
    VT w 8 327 news [.int kind tk, .bytes ((headW src tgt pr id ttl tos opt p ++ p).toList.take i).toArray tb] FormP := by
  have hz := R.hz
  have hz4 := R.hz4
  have hsz : (headW src tgt pr id ttl tos opt p ++ p).toList.length = 20 + opt.size + p.size := by rw [Array.length_toList, Array.size_append, headW_size]
  have hb : ((headW src tgt pr id ttl tos opt p ++ p).toList.take i).toArray.size = i := by rw [List.size_toArray, List.length_take, hsz]; omega
  by_cases q : i < 20
  · exact told_form w news kind tk _ tb fun news x dx k0 k1 k2 k3 v0 v1 v2 v3 hx hdx => by
      have := about_short w news x dx k0 k1 k2 k3 v0 v1 v2 v3 kind 0 0 _ hx hdx hk (by rw [hb]; exact q)
      exact this.mono
  · have e0 : oct ((headW src tgt pr id ttl tos opt p ++ p).toList.take i).toArray (Int.toNat 0) = oct (headW src tgt pr id ttl tos opt p ++ p) (Int.toNat 0) := oct_take (by show 0 < i; omega)
    exact told_form w news kind tk _ tb fun news x dx k0 k1 k2 k3 v0 v1 v2 v3 hx hdx => by
      have := about_cut w news x dx k0 k1 k2 k3 v0 v1 v2 v3 kind 0 0 _ hx hdx hk (by rw [hb]; omega) (by rw [hb]; omega) (by rw [e0]; exact w_ver R p) (by rw [e0, w_hs R, hb]; omega)
      exact this.mono
theorem other_told (w : World) (b : Array UInt8) (kind : Int) (hk : isErr kind = false) (news : Led) (tk tb : Tok) : VT w 8 327 news [.int kind tk, .bytes b tb] FormP :=
  told_form w news kind tk b tb fun news x dx k0 k1 k2 k3 v0 v1 v2 v3 hx hdx => (about_kind w news x dx k0 k1 k2 k3 v0 v1 v2 v3 kind 0 0 b hx hdx hk).mono
end
-- p84_bent
section
variable {src tgt pr id ttl tos : Int} {opt p : Array UInt8}
theorem bent_size {W : Array UInt8} (h : 9 ≤ W.size) : (bentA W).size = W.size := by
  unfold bentA
  rw [picked_to (i := 8) (by decide), picked_from (l := 9) (by decide) (by show 9 ≤ W.size; omega)]
  simp only [Array.size_append, List.size_toArray, List.length_take, List.length_drop, Array.length_toList, byteArr_size, List.length_cons, List.length_nil]
  omega
theorem bent_other {W : Array UInt8} (h : 9 ≤ W.size) {j : Nat} (hj : j ≠ 8) : oct (bentA W) j = oct W j := by
  have hl : W.toList = W.toList.take 8 ++ ([W.toList.getD 8 0] ++ W.toList.drop 9) := by
    conv => lhs; rw [← List.take_append_drop 8 W.toList]
    congr 1
    have : 8 < W.toList.length := by rw [Array.length_toList]; omega
    rw [List.drop_eq_getElem_cons this, List.getD_eq_getElem?_getD, List.getElem?_eq_getElem this]
    rfl
  have hb : bentA W = (W.toList.take 8 ++ ([(xor1 (oct W (Int.toNat 8))).toNat.toUInt8] ++ W.toList.drop 9)).toArray := by
    unfold bentA
    rw [picked_to (i := 8) (by decide), picked_from (l := 9) (by decide) (by show 9 ≤ W.size; omega)]
    apply Array.toList_inj.mp
    simp only [Array.toList_append, List.append_assoc]
    rfl
  rw [hb]
  have : oct W j = oct (W.toList.take 8 ++ ([W.toList.getD 8 0] ++ W.toList.drop 9)).toArray j := by rw [← hl]
  rw [this]
  refine oct_mid ?_ ?_
  · rfl
  · rw [List.length_take, Array.length_toList, List.length_cons, List.length_nil]
    omega
theorem bent_eight {W : Array UInt8} (h : 9 ≤ W.size) : oct (bentA W) 8 = xor1 (oct W 8) := by
  have h0 := oct_lo W 8
  have h1 := oct_hi W 8
  have hx : 0 ≤ xor1 (oct W 8) ∧ xor1 (oct W 8) < 256 := by unfold xor1; split <;> omega
  rw [show bentA W = KBy.picked W none (some 8) ++ (byteArr [xor1 (oct W 8)] ++ KBy.picked W (some 9) none) from Array.append_assoc .. , picked_to (i := 8) (by decide)]
  unfold oct
  rw [Array.toList_append, getD_right (by show (W.toList.take 8).length ≤ 8; rw [List.length_take]; omega)]
  have e : 8 - (W.toList.take (Int.toNat 8)).toArray.toList.length = 0 := by
    show 8 - (W.toList.take 8).length = 0
    rw [List.length_take, Array.length_toList]; omega
  rw [e]
  exact oct_bytes (l := [xor1 (oct W 8)]) (i := 0) rfl hx.1 hx.2
theorem bent_unpack (w : World) (R : Rng src tgt pr id ttl tos opt p) (news : Led) (t : Tok) : XC w 5 229 news [.bytes (bentA (headW src tgt pr id ttl tos opt p ++ p)) t] := by
  have hz := R.hz
  have hz4 := R.hz4
  have hp := R.hp
  have hW : (headW src tgt pr id ttl tos opt p ++ p).size = 20 + opt.size + p.size := by rw [Array.size_append, headW_size]
  have hsz : (bentA (headW src tgt pr id ttl tos opt p ++ p)).size = 20 + opt.size + p.size := by rw [bent_size (by omega), hW]
  have o : ∀ j, j ≠ 8 → oct (bentA (headW src tgt pr id ttl tos opt p ++ p)) j = oct (headW src tgt pr id ttl tos opt p ++ p) j := fun j hj => bent_other (by omega) hj
  have o0 : oct (bentA (headW src tgt pr id ttl tos opt p ++ p)) (Int.toNat 0) = oct (headW src tgt pr id ttl tos opt p ++ p) (Int.toNat 0) := o 0 (by decide)
  have o2 : get16A (bentA (headW src tgt pr id ttl tos opt p ++ p)) (Int.toNat 2) = get16A (headW src tgt pr id ttl tos opt p ++ p) (Int.toNat 2) := get16_congr (o 2 (by decide)) (o 3 (by decide))
  have ehs : oct (bentA (headW src tgt pr id ttl tos opt p ++ p)) (Int.toNat 0) % 16 * 4 = 20 + opt.size := by rw [o0, w_hs R]
  have e : KBy.picked (bentA (headW src tgt pr id ttl tos opt p ++ p)) none (some (20 + (opt.size : Int))) = ((bentA (headW src tgt pr id ttl tos opt p ++ p)).toList.take (20 + opt.size)).toArray := by
    rw [picked_to (by omega)]
    have : (20 + (opt.size : Int)).toNat = 20 + opt.size := by omega
    rw [this]
  have es : ((bentA (headW src tgt pr id ttl tos opt p ++ p)).toList.take (20 + opt.size)).toArray.size = 20 + opt.size := by
    rw [List.size_toArray, List.length_take, Array.length_toList, hsz]; omega
  refine unpack_bad w news _ t (by rw [hsz]; omega) (by rw [hsz]; omega) (by rw [o0]; exact w_ver R p) (by rw [ehs, hsz]; omega) (by rw [ehs]; omega) (by rw [ehs, o2, w_total R]; omega) (by rw [o2, w_total R, hsz]; omega) (by rw [ehs, e, es]; omega) (by rw [ehs, e, es]; omega) ?_
  rw [ehs, e]
  refine bent_check (src := src) (tgt := tgt) (pr := pr) (id := id) (ttl := ttl) (tos := tos) (p := p) hz es (fun j hj h8 => ?_) ?_
  · rw [oct_take hj, o j h8]
    exact oct_append_left (by rw [headW_size]; exact hj)
  · rw [oct_take (by omega), bent_eight (by omega)]
    rw [oct_append_left (by rw [headW_size]; omega)]
    rfl
theorem bent_told (w : World) (R : Rng src tgt pr id ttl tos opt p) (kind : Int) (hk : isErr kind = true) (news : Led) (tk tb : Tok) :
    VT w 8 327 news [.int kind tk, .bytes (bentA (headW src tgt pr id ttl tos opt p ++ p)) tb] FormP := by
  have hz := R.hz
  have hz4 := R.hz4
  have hp := R.hp
  have hW : (headW src tgt pr id ttl tos opt p ++ p).size = 20 + opt.size + p.size := by rw [Array.size_append, headW_size]
  have hsz : (bentA (headW src tgt pr id ttl tos opt p ++ p)).size = 20 + opt.size + p.size := by rw [bent_size (by omega), hW]
  have o : ∀ j, j ≠ 8 → oct (bentA (headW src tgt pr id ttl tos opt p ++ p)) j = oct (headW src tgt pr id ttl tos opt p ++ p) j := fun j hj => bent_other (by omega) hj
  have o0 : oct (bentA (headW src tgt pr id ttl tos opt p ++ p)) (Int.toNat 0) = oct (headW src tgt pr id ttl tos opt p ++ p) (Int.toNat 0) := o 0 (by decide)
  have o2 : get16A (bentA (headW src tgt pr id ttl tos opt p ++ p)) (Int.toNat 2) = get16A (headW src tgt pr id ttl tos opt p ++ p) (Int.toNat 2) := get16_congr (o 2 (by decide)) (o 3 (by decide))
  have ehs : oct (bentA (headW src tgt pr id ttl tos opt p ++ p)) (Int.toNat 0) % 16 * 4 = 20 + opt.size := by rw [o0, w_hs R]
  have epad : padA (bentA (headW src tgt pr id ttl tos opt p ++ p)) = bentA (headW src tgt pr id ttl tos opt p ++ p) := by
    unfold padA
    rw [o2, w_total R, hsz]
    have : (if (20 : Int) + opt.size + p.size - ((20 + opt.size + p.size : Nat) : Int) > 0 then (20 : Int) + opt.size + p.size - ((20 + opt.size + p.size : Nat) : Int) else 0).toNat = 0 := by split <;> omega
    rw [this]
    exact Array.append_empty
  refine told_form w news kind tk _ tb fun news x dx k0 k1 k2 k3 v0 v1 v2 v3 hx hdx => ?_
  exact about_bad w news x dx k0 k1 k2 k3 v0 v1 v2 v3 kind 0 0 _ hx hdx hk (by rw [hsz]; omega) (by rw [hsz]; omega) (by rw [o0]; exact w_ver R p) (by rw [ehs, hsz]; omega) (by rw [ehs]; omega) (fun news t => by rw [epad]; exact bent_unpack w R news t)
end
-- p85_right
/-- _law_right, for each packet -/
theorem right_all (w : World) (news : Led) (x dx : Addr) (k0 k1 k2 k3 k4 k5 k6 k7 k8 k9 v0 v1 v2 v3 v4 v5 v8 v9 : Tok) (src tgt pr id ttl tos : Int) (opt : Array UInt8) (hx : (x, instObj 176 dx) ∈ news) (hdx : (dx, dictOf (hdrL w k0 k1 k2 k3 k4 k5 k6 k7 k8 k9 v0 v1 v2 v3 v4 v5 v8 v9 src tgt pr id ttl tos false false 0 opt) 10) ∈ news) (p : Array UInt8) (tp : Tok) (kind : Int) (tki : Tok) (R : Rng src tgt pr id ttl tos opt p) (hk : isErr kind = true) : VT w 10 334 news [.int kind tki, .ref x, .bytes p tp] TrueP := by
  have hz := R.hz
  have hp := R.hp
  have hw : (packA src tgt pr id ttl tos opt p).size = 20 + opt.size + p.size := packA_size ..
  have hl : (headW src tgt pr id ttl tos opt p).toList.length = 20 + opt.size := by rw [Array.length_toList, headW_size]
  refine right_spec w news x dx k0 k1 k2 k3 k4 k5 k6 k7 k8 k9 v0 v1 v2 v3 v4 v5 v8 v9 src tgt pr id ttl tos false false 0 opt hx hdx p tp kind tki R.hz R.hz4 R.hp R.b0 R.b1 R.b2 R.b3 R.b4 R.b5 R.b6 R.b7 R.b8 R.b9 R.c0 R.c1 rfl rfl rfl hw ?_ ?_ ?_ ?_ ?_ ?_
  · intro news i tb tk h0 h1
    rw [picked_to h0, packW]
    exact cut_told w R i.toNat (by omega) kind hk news tk tb
  · intro news i tb tk h0 h1
    have e1 : KBy.picked (packA src tgt pr id ttl tos opt p) none (some i) = headW src tgt pr id ttl tos opt p ++ (p.toList.take (i.toNat - (20 + opt.size))).toArray := by
      rw [picked_to (by omega), packW]
      apply Array.toList_inj.mp
      show List.take _ _ = _
      rw [Array.toList_append, Array.toList_append, List.take_append, hl, List.take_of_length_le (by rw [hl]; omega)]
    have e2 : KBy.picked p none (some (i - (20 + opt.size))) = ((p.toList.take (i.toNat - (20 + opt.size))).toArray.toList.take p.size).toArray := by
      rw [picked_to (by omega)]
      apply Array.toList_inj.mp
      show List.take _ _ = List.take _ (List.take _ _)
      rw [List.take_take, List.take_eq_take_iff, Array.length_toList]
      clear hl hw hz hp e1
      have q1 : (i - (20 + (opt.size : Int))).toNat = i.toNat - (20 + opt.size) := by omega
      rw [q1]
      clear q1 h0 h1
      generalize i.toNat - (20 + opt.size) = q
      generalize p.size = r
      omega
    rw [e1, e2]
    exact good_told w R _ (by rw [List.size_toArray, List.length_take, Array.length_toList]; omega) kind hk news tk tb
  · intro news tb tk
    have e2 : p = ((p ++ #[109, 111, 114, 101]).toList.take p.size).toArray := by
      apply Array.toList_inj.mp
      show _ = List.take _ _
      rw [Array.toList_append, List.take_append_of_le_length (by rw [Array.length_toList]; omega), List.take_of_length_le (by rw [Array.length_toList]; omega)]
    have G := good_told w R (p ++ #[109, 111, 114, 101]) (by rw [Array.size_append]; show p.size + 4 ≤ _; omega) kind hk news tk tb
    rw [← e2, ← Array.append_assoc] at G
    exact G
  · intro news tb tk
    exact bent_told w R kind hk news tk tb
  · intro news tb tk
    exact other_told w _ 8 rfl news tk tb
  · intro news tb tk
    exact other_told w _ 0 rfl news tk tb
-- p86_take
theorem mDivB {prog : Program} {w : World} {A : Around} {E : Value → Shared → Prop} {hp : Heap} {gn : Array GenState} {dr : Drawn} {tk : Nat} {os : OsState} {t u : Tok} {Q : Value → Shared → Prop} {a k : Int} (hk : 0 < k) (hl : k < 18446744073709551616) (h : Q (.int (a / k) tk) ⟨hp, gn, dr, tk + 1, os⟩) : wpAny (model prog w) A (binaryOp .FloorDiv (.int a t) (.int k u)) Q E ⟨hp, gn, dr, tk, os⟩ := by
  refine mDiv hk ?_ h
  have : k.natAbs.log2 < 64 := by
    rw [Nat.log2_lt (by omega)]
    have : (2 : Nat) ^ 64 = 18446744073709551616 := by decide
    omega
  omega
abbrev srcObj (a b : Int) (t0 t1 : Tok) (n : Nat) : Obj := listOf #[.int a t0, .int b t1] n
/-- a def that draws from a source -/
def VS (w : World) (d : Nat) (f : Addr) (l : Addr) (n : Nat) (news : Led) (rest : Led) (vs : List Value) (P : Value → Prop) : Prop :=
  ∀ (mean : ExcName → Option Value) (mg mb : Str → Option Value) (dp un : Nat) (gd : Option (List Code)) (cn : Str) (cs : Scope) (a : Addr) (ccd : Value) (cl : List (Str × Addr)) (outer : List Env) (A₀ : Around) (base h₀ : Heap) (L : Addr) (m : Str → Option Value) (s : Shared) (Q E : Value → Shared → Prop),
    Below A₀ base outer h₀ → Fr h₀ L s.heap m → (hK w.params).In h₀ → News h₀ L s.heap news → Top hQ (looseW hQ [Str.ofString "ones_sum", Str.ofString "checksum", Str.ofString "IpHeader"]) mean mg mb h₀ → cs.kind = .function →
    dp + d < recursionLimit → un + 8 * d < cLine →
    (∀ (v : Value) (a' b' : Int) (t0 t1 : Tok) (h' : Heap) (tk' : Nat), P v → 0 ≤ a' → 0 ≤ b' → b' < 2147483647 → Fr h₀ L h' m → News h₀ L h' ((l, srcObj a' b' t0 t1 n) :: rest) → Q v { s with heap := h', toks := tk' }) →
    wpAny (model PySem.Challenge.rw_qz0161_01.row.prog w) (ktrTop dp un gd cn cs L a ccd cl outer) (call (.ref f) vs) Q E s
def IntP (top : Int) (v : Value) : Prop := ∃ i t, v = .int i t ∧ 0 ≤ i ∧ i < top
-- m86
local macro_rules | `(tactic| walk_at "mine enterS") => `(tactic| (unfold VS; k_fill; intro mean mg mb dp un gd cn cs a ccd cl outer A₀ base h₀ L m s Q E B F X N T hk hd hu hret; refine wpAny_call ?_; k_dflt (walk_at "mine code")))
local macro_rules | `(tactic| k_all) => `(tactic| assumption)
local macro_rules | `(tactic| walk_at "binaryOp FloorDiv int int") => `(tactic| (with_reducible refine mDivB ?h1 ?h2 ?_; (case h1 => walk_at "mine fact"); (case h2 => walk_at "mine fact")))
local macro_rules | `(tactic| walk_at "mine fact") => `(tactic| ((simp only [Int.toNat_one, Int.toNat_zero, List.getD_cons_succ, List.getD_cons_zero]); omega))
-- p87_take
theorem take_sp (w : World) (l : Addr) (rest : Led) (a b : Int) (t0 t1 : Tok) (n : Nat) (hl : ∀ q ∈ rest, q.1 ≠ l) (ha : 0 ≤ a) (hb : 0 ≤ b) (hb2 : b < 2147483647) (top : Int) (tt : Tok) (h0 : 0 < top) (h1 : top < 4294967296) : VS w 1 313 l n ((l, srcObj a b t0 t1 n) :: rest) rest [.ref l, .int top tt] (IntP top) := by
  walk_at "mine enterS"
  k_steps
  all_goals (rename ∀ (v : Value) (a' b' : Int) (t0 t1 : Tok) (h' : Heap) (tk' : Nat), _ → _ => hret)
  all_goals (with_reducible rename News _ _ _ _ => kN)
  all_goals (with_reducible rename Fr _ _ _ _ => kF)
  · refine hret _ _ _ _ _ _ _ ⟨_, _, rfl, ?_, ?_⟩ ?_ ?_ ?_ kF kN
    · exact Int.emod_nonneg _ (by omega)
    · exact Int.emod_lt_of_pos _ h0
    · exact Int.ediv_nonneg ha (by omega)
    · exact hb
    · exact hb2
  · refine hret _ _ _ _ _ _ _ ⟨_, _, rfl, ?_, ?_⟩ ?_ ?_ ?_ kF kN
    · exact Int.emod_nonneg _ (by omega)
    · exact Int.emod_lt_of_pos _ h0
    · exact ha
    · exact Int.emod_nonneg _ (by decide)
    · exact Int.emod_lt_of_pos _ (by decide)
-- p88_comp
section
open LCg
variable {prog : Program} {w : World} {A : Around} {h₀ : Heap} {L : Addr} {m : PySem.Str → Option Value} {env : Env} {elt : PySem.Expr} {x : PySem.Str} {scope : Scope} {cl : List (PySem.Str × Addr)} {s : Shared} {S : Led → Prop} {P : Nat → Value → Prop} {Fin : List Value → Led → Prop}
theorem comp_all (Inv : Nat → List Value → Led → Prop)
    (step : ∀ i ys news v I oI C oC D m₂ h tk (E' : Value → Shared → Prop), Inv i ys news → P i v → NsObj oC m₂ → m₂ x = some v → Fr h₀ L h m → News h₀ L h ((I, oI) :: (C, oC) :: (D, lst ys) :: news) → Off3 I C D news → ((@Ne Nat I C) ∧ (@Ne Nat I D) ∧ (@Ne Nat C D)) →
      wpAny (model prog w) A (eval elt (compEnvC scope cl C env)) (CompEnd h₀ L m { s with heap := h, toks := tk } I oI C oC D (lst ys) S (fun y news' => Inv (i + 1) (ys ++ [y]) news')) E' { s with heap := h, toks := tk }) (n : Nat)
    (fin : ∀ ys news, Inv n ys news → Fin ys news) : ∀ k i ys news, i + k = n → Inv i ys news → CompRest prog w A h₀ L m env elt x scope cl s S P Fin k i ys news
  | 0, i, ys, news, hi, hI => by
    have : i = n := by omega
    subst this
    exact CompRest.zero (fin ys news hI)
  | k + 1, i, ys, news, hi, hI => by
    refine CompRest.succ fun v I oI C oC D m₂ h tk E' hP hN hx F N off ne => ?_
    refine wpAny_mono (step i ys news v I oI C oC D m₂ h tk E' hI hP hN hx F N off ne) (fun y s₂ hc => ?_) fun _ _ e => e
    obtain ⟨h', tk', news', e, F', N', off', hS, hr⟩ := hc
    exact ⟨h', tk', news', e, F', N', off', hS, comp_all Inv step n fin k (i + 1) _ _ (by omega) hr⟩
end
-- p89_one
inductive Pick (l : Addr) (o : Obj) : Led → Led → Prop
  | head (r : Led) : Pick l o ((l, o) :: r) r
  | tail (p : Addr × Obj) (r r' : Led) : Pick l o r r' → Pick l o (p :: r) (p :: r')
theorem pick1 {l : Addr} {o : Obj} {p1 : Addr × Obj} {r : Led} : Pick l o (p1 :: (l, o) :: r) (p1 :: r) := Pick.tail p1 _ _ (Pick.head r)
theorem pick2 {l : Addr} {o : Obj} {p1 p2 : Addr × Obj} {r : Led} : Pick l o (p1 :: p2 :: (l, o) :: r) (p1 :: p2 :: r) := Pick.tail p1 _ _ (Pick.tail p2 _ _ (Pick.head r))
theorem pick3 {l : Addr} {o : Obj} {p1 p2 p3 : Addr × Obj} {r : Led} : Pick l o (p1 :: p2 :: p3 :: (l, o) :: r) (p1 :: p2 :: p3 :: r) := Pick.tail p1 _ _ (Pick.tail p2 _ _ (Pick.tail p3 _ _ (Pick.head r)))
theorem pick4 {l : Addr} {o : Obj} {p1 p2 p3 p4 : Addr × Obj} {r : Led} : Pick l o (p1 :: p2 :: p3 :: p4 :: (l, o) :: r) (p1 :: p2 :: p3 :: p4 :: r) := Pick.tail p1 _ _ (Pick.tail p2 _ _ (Pick.tail p3 _ _ (Pick.tail p4 _ _ (Pick.head r))))
theorem pick5 {l : Addr} {o : Obj} {p1 p2 p3 p4 p5 : Addr × Obj} {r : Led} : Pick l o (p1 :: p2 :: p3 :: p4 :: p5 :: (l, o) :: r) (p1 :: p2 :: p3 :: p4 :: p5 :: r) := Pick.tail p1 _ _ (Pick.tail p2 _ _ (Pick.tail p3 _ _ (Pick.tail p4 _ _ (Pick.tail p5 _ _ (Pick.head r)))))
theorem pick6 {l : Addr} {o : Obj} {p1 p2 p3 p4 p5 p6 : Addr × Obj} {r : Led} : Pick l o (p1 :: p2 :: p3 :: p4 :: p5 :: p6 :: (l, o) :: r) (p1 :: p2 :: p3 :: p4 :: p5 :: p6 :: r) := Pick.tail p1 _ _ (Pick.tail p2 _ _ (Pick.tail p3 _ _ (Pick.tail p4 _ _ (Pick.tail p5 _ _ (Pick.tail p6 _ _ (Pick.head r))))))
theorem Pick.sub {l : Addr} {o : Obj} {news rest : Led} (h : Pick l o news rest) : ∀ p ∈ (l, o) :: rest, p ∈ news := by
  induction h with
  | head r => exact fun _ h => h
  | tail p r r' _ ih =>
    intro q hq
    simp only [List.mem_cons] at hq ih ⊢
    rcases hq with h | h | h
    · exact .inr (ih q (.inl h))
    · exact .inl h
    · exact .inr (ih q (.inr h))
theorem VS.use {w : World} {d : Nat} {f : Addr} {l : Addr} {o : Obj} {n : Nat} {news rest : Led} {vs : List Value} {P : Value → Prop} {mean : ExcName → Option Value} {mg mb : Str → Option Value} {dp un : Nat} {gd : Option (List Code)} {cn : Str} {cs : Scope} {a : Addr} {ccd : Value} {cl : List (Str × Addr)} {outer : List Env} {A₀ : Around} {base h₀ : Heap} {L : Addr} {m : Str → Option Value} {s : Shared} {Q E : Value → Shared → Prop}
    (B : Below A₀ base outer h₀) (F : Fr h₀ L s.heap m) (X : (hK w.params).In h₀) (N : News h₀ L s.heap news) (T : Top hQ (looseW hQ [Str.ofString "ones_sum", Str.ofString "checksum", Str.ofString "IpHeader"]) mean mg mb h₀) (hp : Pick l o news rest) (C : VS w d f l n ((l, o) :: rest) rest vs P) (hk : cs.kind = .function)
    (hdp : dp + d < recursionLimit) (hu : un + 8 * d < cLine)
    (h : ∀ (v : Value) (a' b' : Int) (t0 t1 : Tok) (h' : Heap) (tk' : Nat), P v → 0 ≤ a' → 0 ≤ b' → b' < 2147483647 → Fr h₀ L h' m → News h₀ L h' ((l, srcObj a' b' t0 t1 n) :: rest) → Q v { s with heap := h', toks := tk' }) :
    wpAny (model PySem.Challenge.rw_qz0161_01.row.prog w) (ktrTop dp un gd cn cs L a ccd cl outer) (call (.ref f) vs) Q E s :=
  C _ _ _ _ _ _ _ _ _ _ _ _ _ _ _ _ _ _ _ _ B F X (cb_drop N hp.sub) T hk hdp hu h
-- m87
local macro_rules | `(tactic| walk_at "mine pick") => `(tactic| first | exact Pick.head _ | exact pick1 | exact pick2 | exact pick3 | exact pick4 | exact pick5 | exact pick6)
local macro_rules | `(tactic| walk_at "call ref") => `(tactic| (k_here; (with_reducible show wpAny _ _ (call (Value.ref 313) _) _ _ _); k_dflt (walk_at "mine take")))
local macro_rules | `(tactic| walk_at "mine take") => `(tactic| ((try (walk_at "mine split")); (refine' VS.use ?k1 ?k2 ?k3 ?k4 ?k5 ?kp (take_sp _ _ _ _ _ _ _ _ ?a1 ?a2 ?a3 ?a4 _ _ ?a5 ?a6) ?kK ?kd ?ku ?_); walk_at "mine k5"; (case kp => walk_at "mine pick"); (case a1 => k_all); walk_at "mine as"; walk_at "mine kk"; k_whole; intro v9 a9 b9 t9 u9 h9 tk9 P9 ha9 hb9 hc9 F9 N9; obtain ⟨i9, s9, e9, hi9, hj9⟩ := P9; subst e9; (try dsimp only); (try k_fold)))
-- p90_one
theorem four_in : ∀ k : Nat, 0 ≤ [(1 : Int), 6, 17, 255].getD k 0 ∧ [(1 : Int), 6, 17, 255].getD k 0 < 256
  | 0 => by decide
  | 1 => by decide
  | 2 => by decide
  | 3 => by decide
  | n + 4 => by simp
theorem five_in : ∀ k : Nat, k < 5 → isErr ([(3 : Int), 4, 5, 11, 12].getD k 0) = true
  | 0, _ => by decide
  | 1, _ => by decide
  | 2, _ => by decide
  | 3, _ => by decide
  | 4, _ => by decide
  | n + 5, h => by omega
def ErrP (v : Value) : Prop := ∃ i t, v = .int i t ∧ isErr i = true
theorem one_four (w : World) (l : Addr) (rest : Led) (a b : Int) (t0 t1 : Tok) (n : Nat) (th : Addr) (q0 q1 q2 q3 : Tok) (k : Nat) (hl : ∀ q ∈ (th, listOf #[.int 1 q0, .int 6 q1, .int 17 q2, .int 255 q3] k) :: rest, q.1 ≠ l) (ha : 0 ≤ a) (hb : 0 ≤ b) (hb2 : b < 2147483647) : VS w 2 320 l n ((l, srcObj a b t0 t1 n) :: (th, listOf #[.int 1 q0, .int 6 q1, .int 17 q2, .int 255 q3] k) :: rest) ((th, listOf #[.int 1 q0, .int 6 q1, .int 17 q2, .int 255 q3] k) :: rest) [.ref l, .ref th] (IntP 256) := by
  walk_at "mine enterS"
  k_steps
  (rename ∀ (v : Value) (a' b' : Int) (t0 t1 : Tok) (h' : Heap) (tk' : Nat), IntP _ _ → _ => hret)
  (with_reducible rename News _ _ _ _ => kN)
  (with_reducible rename Fr _ _ _ _ => kF)
  exact hret _ _ _ _ _ _ _ ⟨_, _, rfl, (four_in _).1, (four_in _).2⟩ (by assumption) (by assumption) (by assumption) kF kN
theorem one_five (w : World) (l : Addr) (rest : Led) (a b : Int) (t0 t1 : Tok) (n : Nat) (th : Addr) (q0 q1 q2 q3 q4 : Tok) (k : Nat) (hl : ∀ q ∈ (th, listOf #[.int 3 q0, .int 4 q1, .int 5 q2, .int 11 q3, .int 12 q4] k) :: rest, q.1 ≠ l) (ha : 0 ≤ a) (hb : 0 ≤ b) (hb2 : b < 2147483647) : VS w 2 320 l n ((l, srcObj a b t0 t1 n) :: (th, listOf #[.int 3 q0, .int 4 q1, .int 5 q2, .int 11 q3, .int 12 q4] k) :: rest) ((th, listOf #[.int 3 q0, .int 4 q1, .int 5 q2, .int 11 q3, .int 12 q4] k) :: rest) [.ref l, .ref th] ErrP := by
  walk_at "mine enterS"
  k_steps
  (rename ∀ (v : Value) (a' b' : Int) (t0 t1 : Tok) (h' : Heap) (tk' : Nat), ErrP _ → _ => hret)
  (with_reducible rename News _ _ _ _ => kN)
  (with_reducible rename Fr _ _ _ _ => kF)
  exact hret _ _ _ _ _ _ _ ⟨_, _, rfl, five_in _ (by omega)⟩ (by assumption) (by assumption) (by assumption) kF kN
-- p91_law
theorem turn_same {g g' : Heap} (T : KtsTurn [] g g') : ∀ b, g'.get? b = g.get? b := fun b => by
  cases q : g.get? b with
  | none => exact T.none_ b q
  | some o => exact T.other b o q (by intro h; cases h)
theorem turn_fr {g g' h : Heap} {L : Addr} {m : Str → Option Value} (T : KtsTurn [] g g') (F : Fr g' L h m) : Fr g L h m := ⟨F.ns, fun b o e => F.keep b o ((turn_same T b).trans e), by rw [← T.size]; exact F.above⟩
theorem turn_news {g g' h : Heap} {L : Addr} {news : Led} (T : KtsTurn [] g g') (N : News g' L h news) : News g L h news := fun p hp => ⟨(N p hp).1, (N p hp).2.1, (turn_same T p.1).symm.trans (N p hp).2.2⟩
/-- at the bottom the ground stays as it is -/
theorem VT.use0 {w : World} {d : Nat} {f : Addr} {news : Led} {vs : List Value} {P : Value → Led → Prop} {mean : ExcName → Option Value} {mg mb : Str → Option Value} {dp un : Nat} {gd : Option (List Code)} {cn : Str} {cs : Scope} {a : Addr} {ccd : Value} {cl : List (Str × Addr)} {A₀ : Around} {h₀ : Heap} {L : Addr} {m : Str → Option Value} {s : Shared} {Q E : Value → Shared → Prop}
    (C : VT w d f news vs P) (B : Below A₀ h₀ [] h₀) (F : Fr h₀ L s.heap m) (X : (hK w.params).In h₀) (N : News h₀ L s.heap news) (T : Top hQ (looseW hQ [Str.ofString "ones_sum", Str.ofString "checksum", Str.ofString "IpHeader"]) mean mg mb h₀) (hk : cs.kind = .function)
    (hdp : dp + d < recursionLimit) (hu : un + 8 * d < cLine)
    (h : ∀ (r : Value) (tl : Led) (h' : Heap) (tk' : Nat), P r tl → Fr h₀ L h' m → News h₀ L h' (tl ++ news) → Q r { s with heap := h', toks := tk' }) :
    wpAny (model PySem.Challenge.rw_qz0161_01.row.prog w) (ktrTop dp un gd cn cs L a ccd cl []) (call (.ref f) vs) Q E s :=
  C.use B F X N T X T ktsDicts_nil hk hdp hu fun r tl h₀' h' tk' hP hT F' N' _ _ _ _ => h r tl h' tk' hP (turn_fr hT F') (turn_news hT N')
theorem rng0 : Rng 9 1 17 0 64 0 (Array.replicate 4 0) (Array.replicate 8 0) :=
  { hz := by decide, hz4 := by decide, hp := by decide, b0 := by decide, b1 := by decide, b2 := by decide, b3 := by decide, b4 := by decide, b5 := by decide, b6 := by decide, b7 := by decide, b8 := by decide, b9 := by decide, c0 := by decide, c1 := by decide }
/-- the law's first line -/
theorem first_told (w : World) (news : Led) (tk tb : Tok) : VT w 8 327 news [.int 3 tk, .bytes (KBy.picked (packA 9 1 17 0 64 0 (Array.replicate (Int.toNat 4) 0) (Array.replicate (Int.toNat 8) 0)) none (some 20)) tb] FormP := by
  rw [picked_to (by decide)]
  exact cut_told w rng0 20 (by decide) 3 rfl news tk tb
-- p92_loop
/-! law's loop: the cell of one name and one name that stays -/
section
variable {prog : Program} {w : World} {A : Around} {E : Value → Shared → Prop} {s : Shared} {env : Env} {x : PySem.Str} {px : Pos} {body : List Stmt} {Q : Flow → Shared → Prop}
/-- the end of a turn -/
def EndB (s : Shared) (h₀ : Heap) (L : Addr) (y : PySem.Str) (vy : Value) (ca I : Addr) (oI : Obj) (Q : Flow → Shared → Prop) (f : Flow) (s' : Shared) : Prop :=
  match f with
  | .next | .cont => ∃ h tk m' co v, s' = { s with heap := h, toks := tk } ∧ Fr h₀ L h m' ∧ News h₀ L h [(ca, co), (I, oI)] ∧ co.data = .cell v ∧ m' y = some vy
  | .brk => Q .next s'
  | .ret v => Q (.ret v) s'
theorem iterRangeB {r : Addr} {a₀ b₀ c : Int} {t₀ u₀ v₀ : Tok} {n : Nat} {m₀ : PySem.Str → Option Value} {h₀ : Heap} {ca : Addr} {co : Obj} {cv : Option Value} {vy : Value} (y : PySem.Str)
    (hh : A.handled = none) (hx : env.kindOf x = some .local) (hp : (env.scope.kind == .class || (env.scope.kind == .module && env.locals != env.globals)) = false)
    (hr : IsRange s.heap r a₀ b₀ c t₀ u₀ v₀) (hsmall : Builtin.Range.small a₀ b₀ c = true) (hn : Builtin.Range.rangeSize a₀ b₀ c = (n : Int)) (F : Fr h₀ env.locals s.heap m₀) (N : News h₀ env.locals s.heap [(ca, co)]) (hc : co.data = .cell cv) (hy : m₀ y = some vy)
    (turn : ∀ (i : Nat) t h tk I oI co cv (u : PySem.Str → Option Value), i < n → @Ne Nat ca I → co.data = .cell cv → Fr h₀ env.locals h (fun z => if z = x then some (.int (a₀ + (i : Int) * c) t) else if z = y then some vy else u z) → News h₀ env.locals h [(ca, co), (I, oI)] →
      wpAny (model prog w) A (execs body env) (EndB s h₀ env.locals y vy ca I oI Q) E { s with heap := h, toks := tk })
    (done : ∀ (u : PySem.Str → Option Value) h tk, Fr h₀ env.locals h u → News h₀ env.locals h [] → Q .next { s with heap := h, toks := tk })
    (hE : PassesOwn (model prog w) A env E := by passes_own) :
    wpAny (model prog w) A (pyIter (.ref r)) (fun it s₂ => LoopT prog w A env x px body Q E it s₂) E s := by
  refine wpAny_pyIter_range hr hsmall ?_
  have hIL : s.heap.objs.size ≠ env.locals := fun q => absurd F.ns.lt (by rw [← q]; exact Nat.lt_irrefl _)
  have hcI : ca ≠ s.heap.objs.size := Nat.ne_of_lt (Heap.lt_size (N _ (List.Mem.head _)).1)
  let o : Nat → Obj := fun i => { cls := .type "range_iterator", dict := none, data := .fields #[rawInt (a₀ + (i : Int) * c), rawInt ((n : Int) - (i : Nat)), rawInt c], slots := #[] }
  refine codeAny_forLoop (fun k s' => ∃ i h' tk m' co v, s' = { s with heap := h', toks := tk } ∧ Fr h₀ env.locals h' m' ∧ News h₀ env.locals h' [(ca, co), (s.heap.objs.size, o i)] ∧ co.data = .cell v ∧ m' y = some vy ∧ i ≤ n ∧ k = n + 1 - i) ?_ (n + 1) ⟨0, _, s.toks, m₀, co, cv, rfl, F.push _, ?_, hc, hy, Nat.zero_le _, rfl⟩
  · rintro k s' ⟨i, h', tk, m', co, v, rfl, F', N', hc', hm, hi, rfl⟩
    have hI := N' (s.heap.objs.size, o i) (.tail _ (.head _))
    have hC := N' (ca, co) (.head _)
    have hit : IsRangeIter h' s.heap.objs.size (a₀ + (i : Nat) * c) ((n : Int) - (i : Nat)) c := hI.1
    by_cases hlt : i < n
    · refine wpAny_pyNext_range_item hit (by omega) fun h₁ hit₁ hs₁ => ?_
      have e1 : a₀ + (i : Int) * c + c = a₀ + ((i + 1 : Nat) : Int) * c := by push_cast; rw [Int.add_mul, Int.one_mul, Int.add_assoc]
      have e2 : (n : Int) - (i : Int) - 1 = (n : Int) - ((i + 1 : Nat) : Int) := by push_cast; omega
      rw [e1, e2] at hit₁
      have F₁ : Fr h₀ env.locals h₁ m' := Fr.update F' N' (.tail _ (.head _)) hs₁
      have N₁ : News h₀ env.locals h₁ [(ca, co), (s.heap.objs.size, o (i + 1))] := News.setAt (own := [(ca, co)]) (o := o i) N' (fun p hp => by rw [List.mem_singleton.mp hp]; exact hcI) (fun _ h => nomatch h) hs₁ hit₁
      refine wpAny_assign_Name (wpAny_storeName_local hx F₁.ns (fun h₂ hn₂ hs₂ => ?_) hp)
      have F₂ := F₁.set hn₂ hs₂
      have N₂ := N₁.set hs₂
      have em : (fun z => if z = x then some (Value.int (a₀ + (i : Int) * c) tk) else m' z) = fun z => if z = x then some (Value.int (a₀ + (i : Int) * c) tk) else if z = y then some vy else m' z := by
        funext z
        by_cases q : z = x
        · simp only [q, if_true]
        · by_cases r : z = y
          · simp only [r, if_true, hm]
          · simp only [q, r, if_false]
      rw [em] at F₂
      refine wpAny_passesOwn hE (wpAny_mono (turn i tk h₂ _ s.heap.objs.size (o (i + 1)) co v m' hlt hcI hc' F₂ N₂) (fun f s₃ h₃ => ?_) fun _ _ e => e)
      cases f with
      | next =>
        obtain ⟨h₃', tk₃, m₃, co₃, v₃, rfl, F₃, N₃, hc₃, hm₃⟩ := h₃
        exact ⟨n + 1 - (i + 1), by omega, i + 1, h₃', tk₃, m₃, co₃, v₃, rfl, F₃, N₃, hc₃, hm₃, hlt, rfl⟩
      | cont =>
        obtain ⟨h₃', tk₃, m₃, co₃, v₃, rfl, F₃, N₃, hc₃, hm₃⟩ := h₃
        exact ⟨n + 1 - (i + 1), by omega, i + 1, h₃', tk₃, m₃, co₃, v₃, rfl, F₃, N₃, hc₃, hm₃, hlt, rfl⟩
      | brk => exact h₃
      | ret v => exact h₃
    · have hin : i = n := by omega
      subst hin
      refine wpAny_pyNext_range_end hh hit (by omega) fun h₁ he₁ => wpAny_execs_nil ?_
      refine done m' h₁ tk ?_ (fun _ h => nomatch h)
      exact ⟨F'.ns.extBut he₁ (Ne.symm hIL), fun b ob e => he₁ b ob (fun q => by rw [q, hI.2.2] at e; cases e) (F'.keep b ob e), F'.above⟩
  · intro p hp
    rcases List.mem_cons.mp hp with rfl | hp
    · exact ⟨Heap.get?_push_of_some _ (N _ (.head _)).1, (N _ (.head _)).2⟩
    · rcases List.mem_singleton.mp hp with rfl
      refine ⟨?_, hIL, Heap.get?_none_of_le (Nat.le_trans F.above (Nat.le_of_lt F.ns.lt))⟩
      have : IsRangeIter (s.heap.push { cls := .type "range_iterator", data := .fields #[rawInt a₀, rawInt (Builtin.Range.rangeSize a₀ b₀ c), rawInt c] }) s.heap.objs.size (a₀ + ((0 : Nat) : Int) * c) ((n : Int) - ((0 : Nat) : Int)) c := by
        rw [hn]
        have e1 : a₀ + ((0 : Nat) : Int) * c = a₀ := by simp
        have e2 : (n : Int) - ((0 : Nat) : Int) = n := by simp
        rw [e1, e2]
        exact Heap.get?_push_size _ rfl
      exact this
end
/-- the draws of a comprehension, all octets -/
theorem comp_octets {prog : Program} {w : World} {A : Around} {h₀ : Heap} {L : Addr} {m : PySem.Str → Option Value} {env : Env} {elt : PySem.Expr} {x : PySem.Str} {scope : Scope} {cl : List (PySem.Str × Addr)} {s : Shared} {P : Nat → Value → Prop} {Fin : List Value → Led → Prop}
    {l : Addr} {k : Nat} {rest : Led} {a b : Int} {t0 t1 : Tok} (ha : 0 ≤ a) (hb : 0 ≤ b) (hb2 : b < 2147483647) (n : Nat)
    (step : ∀ a b t0 t1 v I oI C oC D ys m₂ h tk (E' : Value → Shared → Prop), 0 ≤ a → 0 ≤ b → b < 2147483647 → LCg.NsObj oC m₂ → Fr h₀ L h m → News h₀ L h ((I, oI) :: (C, oC) :: (D, LCg.lst ys) :: (l, srcObj a b t0 t1 k) :: rest) → LCg.Off3 I C D ((l, srcObj a b t0 t1 k) :: rest) → ((@Ne Nat I C) ∧ (@Ne Nat I D) ∧ (@Ne Nat C D)) → m₂ x = some v →
      wpAny (model prog w) A (eval elt (compEnvC scope cl C env)) (LCg.CompEnd h₀ L m { s with heap := h, toks := tk } I oI C oC D (LCg.lst ys) (fun _ => True) (fun y news' => ∃ i t a' b' u0 u1, y = .int i t ∧ 0 ≤ i ∧ i < 256 ∧ 0 ≤ a' ∧ 0 ≤ b' ∧ b' < 2147483647 ∧ news' = (l, srcObj a' b' u0 u1 k) :: rest)) E' { s with heap := h, toks := tk })
    (fin : ∀ ys ns a b t0 t1, IntsAre ys ns → ns.length = n → (∀ i ∈ ns, 0 ≤ i ∧ i < 256) → 0 ≤ a → 0 ≤ b → b < 2147483647 → Fin ys ((l, srcObj a b t0 t1 k) :: rest)) :
    LCg.CompRest prog w A h₀ L m env elt x scope cl s (fun _ => True) P Fin n 0 [] ((l, srcObj a b t0 t1 k) :: rest) := by
  refine comp_all (fun i ys news => ∃ a b t0 t1 ns, IntsAre ys ns ∧ ns.length = i ∧ (∀ i ∈ ns, 0 ≤ i ∧ i < 256) ∧ 0 ≤ a ∧ 0 ≤ b ∧ b < 2147483647 ∧ news = (l, srcObj a b t0 t1 k) :: rest) ?_ n ?_ n 0 [] _ (by omega) ⟨a, b, t0, t1, [], .nil, rfl, (fun _ h => nomatch h), ha, hb, hb2, rfl⟩
  · rintro i ys news v I oI C oC D m₂ h tk E' ⟨a, b, t0, t1, ns, hI, hl, hr, ha, hb, hb2, rfl⟩ _ hC hx F N off ne
    refine wpAny_mono (step a b t0 t1 v I oI C oC D ys m₂ h tk E' ha hb hb2 hC F N off ne hx) (fun y s₂ hc => ?_) fun _ _ e => e
    obtain ⟨h', tk', news', e, F', N', off', hS, j, t, a', b', u0, u1, rfl, hj, hj2, ha', hb', hb2', rfl⟩ := hc
    refine ⟨h', tk', _, e, F', N', off', hS, a', b', u0, u1, ns ++ [j], IntsAre.append hI (.cons j t .nil), by simp [hl], ?_, ha', hb', hb2', rfl⟩
    intro q hq
    rcases List.mem_append.mp hq with hq | hq
    · exact hr q hq
    · rw [List.mem_singleton.mp hq]; exact ⟨hj, hj2⟩
  · rintro ys news ⟨a, b, t0, t1, ns, hI, hl, hr, ha, hb, hb2, rfl⟩
    exact fin ys ns a b t0 t1 hI hl hr ha hb hb2
theorem cell_of {h₀ h h₁ : Heap} {L ca : Addr} {co : Obj} {news : Led} (_ : News h₀ L h₁ [(ca, co)]) (N : News h₀ L h news) (hm : (ca, co) ∈ news) : News h₀ L h [(ca, co)] := fun p hp => by
  rcases List.mem_singleton.mp hp with rfl
  exact N _ hm
theorem oct_mul {x y : Int} (h0 : 0 ≤ x) (h1 : x < 256) (h2 : 0 ≤ y) (h3 : y < 2) : 0 ≤ x * y ∧ x * y < 256 := by
  rcases (show y = 0 ∨ y = 1 by omega) with rfl | rfl
  · omega
  · omega
-- p93_pool
/-- a def that makes a thing out of a list of the ground's -/
def VL (w : World) (d : Nat) (f : Addr) (l : Addr) (its : Array Value) (news : Led) (vs : List Value) : Prop :=
  ∀ (mean : ExcName → Option Value) (mg mb : Str → Option Value) (dp un : Nat) (gd : Option (List Code)) (cn : Str) (cs : Scope) (a : Addr) (ccd : Value) (cl : List (Str × Addr)) (outer : List Env) (A₀ : Around) (base h₀ : Heap) (L : Addr) (m : Str → Option Value) (s : Shared) (Q E : Value → Shared → Prop),
    h₀.IsList l its → Below A₀ base outer h₀ → Fr h₀ L s.heap m → (hK w.params).In h₀ → News h₀ L s.heap news → Top hQ (looseW hQ [Str.ofString "ones_sum", Str.ofString "checksum", Str.ofString "IpHeader"]) mean mg mb h₀ → cs.kind = .function →
    dp + d < recursionLimit → un + 8 * d < cLine →
    (∀ (x : Addr) (a b : Int) (t0 t1 : Tok) (n : Nat) (h' : Heap) (tk' : Nat), 0 ≤ a → 0 ≤ b → b < 2147483647 → (∀ p ∈ news, p.1 < x) → Fr h₀ L h' m → News h₀ L h' ((x, srcObj a b t0 t1 n) :: news) → Q (.ref x) { s with heap := h', toks := tk' }) →
    wpAny (model PySem.Challenge.rw_qz0161_01.row.prog w) (ktrTop dp un gd cn cs L a ccd cl outer) (call (.ref f) vs) Q E s
theorem VL.use {w : World} {d : Nat} {f : Addr} {l : Addr} {its : Array Value} {news : Led} {vs : List Value} {mean : ExcName → Option Value} {mg mb : Str → Option Value} {dp un : Nat} {gd : Option (List Code)} {cn : Str} {cs : Scope} {a : Addr} {ccd : Value} {cl : List (Str × Addr)} {outer : List Env} {A₀ : Around} {base h₀ : Heap} {L : Addr} {m : Str → Option Value} {s : Shared} {Q E : Value → Shared → Prop}
    (C : VL w d f l its news vs) (hl : h₀.IsList l its) (B : Below A₀ base outer h₀) (F : Fr h₀ L s.heap m) (X : (hK w.params).In h₀) (N : News h₀ L s.heap news) (T : Top hQ (looseW hQ [Str.ofString "ones_sum", Str.ofString "checksum", Str.ofString "IpHeader"]) mean mg mb h₀) (hk : cs.kind = .function)
    (hd : dp + d < recursionLimit) (hu : un + 8 * d < cLine)
    (h : ∀ (x : Addr) (a b : Int) (t0 t1 : Tok) (n : Nat) (h' : Heap) (tk' : Nat), 0 ≤ a → 0 ≤ b → b < 2147483647 → (∀ p ∈ news, p.1 < x) → Fr h₀ L h' m → News h₀ L h' ((x, srcObj a b t0 t1 n) :: news) → Q (.ref x) { s with heap := h', toks := tk' }) :
    wpAny (model PySem.Challenge.rw_qz0161_01.row.prog w) (ktrTop dp un gd cn cs L a ccd cl outer) (call (.ref f) vs) Q E s :=
  C _ _ _ _ _ _ _ _ _ _ _ _ _ _ _ _ _ _ _ _ hl B F X N T hk hd hu h
-- m93
local macro_rules | `(tactic| walk_at "mine enterL") => `(tactic| (unfold VL; k_fill; intro mean mg mb dp un gd cn cs a ccd cl outer A₀ base h₀ L m s Q E hL B F X N T hk hd hu hret; refine wpAny_call ?_; k_dflt (walk_at "mine code")))
-- p94_pool
theorem pool_sp (w : World) (news : Led) (l : Addr) (vs : List Value) (ns : List Int) (hI : IntsAre vs ns) (hns : ns.length ≤ 63) (k : Int) (tk : Tok) (h0 : 0 ≤ k) (h1 : k < 2) : VL w 2 306 l vs.toArray news [.ref l, .int k tk] := by
  walk_at "mine enterL"
  rename_i hL B0 F0 X0 N0 T0 hk hd hu hret g' L' h' FG' F' N' B' X' T'
  have hL' := hL.at fun o e => FG'.keep l o e
  clear hL
  k_steps
  all_goals (with_reducible rename News _ _ _ _ => kN)
  all_goals (with_reducible rename Fr _ _ _ _ => kF)
  all_goals (refine hret _ _ _ _ _ _ _ _ ?_ ?_ ?_ (by assumption) kF kN)
  all_goals (try (exact Int.emod_nonneg _ (by decide)))
  all_goals (try (exact Int.emod_lt_of_pos _ (by decide)))
  all_goals (refine Int.mul_nonneg ?_ ?_ <;> (repeat' split) <;> omega)
-- p94b_mid
/-- behind the choice of the options -/
def OptEnd (s : Shared) (h₀ : Heap) (L l x : Addr) (n : Nat) (ca : Addr) (co : Obj) (I : Addr) (oI : Obj) (fl : Flow) (s' : Shared) : Prop :=
  fl = .next ∧ ∃ (opt : Array UInt8) (to : Tok) (h : Heap) (tk : Nat) (a b : Int) (t0 t1 : Tok) (m' : Str → Option Value), opt.size ≤ 40 ∧ opt.size % 4 = 0 ∧ 0 ≤ a ∧ 0 ≤ b ∧ b < 2147483647 ∧ s' = { s with heap := h, toks := tk } ∧ Fr h₀ L h m' ∧ News h₀ L h [(x, srcObj a b t0 t1 n), (ca, co), (I, oI)] ∧ m' (Str.ofString "options") = some (.bytes opt to) ∧ m' (Str.ofString "script") = some (.ref l)
theorem opt_mid {M : Model} {A : Around} {E : Value → Shared → Prop} {c : Sem Flow} {Q : Flow → Shared → Prop} {s s1 : Shared} {h₀ h1 : Heap} {L l x D ca I : Addr} {n : Nat} {co oI oD : Obj} {a b : Int} {t0 t1 : Tok} (_ : News h₀ L h1 [(D, oD), (x, srcObj a b t0 t1 n), (ca, co), (I, oI)])
    (hx : wpAny M A c (OptEnd s h₀ L l x n ca co I oI) E s1) (hk : ∀ fl s', OptEnd s h₀ L l x n ca co I oI fl s' → Q fl s') : wpAny M A c Q E s1 := wpAny_mono hx hk fun _ _ e => e
theorem map_two {m : Str → Option Value} {a b : Str} {x y : Value} (ha : m a = some x) (hb : m b = some y) : m = fun z => if z = a then some x else if z = b then some y else m z := by
  funext z
  by_cases h1 : z = a
  · simp only [h1, if_true, ha]
  · by_cases h2 : z = b
    · subst h2
      simp only [h1, if_false, if_true, hb]
    · simp only [h1, h2, if_false]
theorem opt_end {s : Shared} {h₀ h : Heap} {L l x ca I : Addr} {n tk : Nat} {co oI : Obj} {news : Led} {a b : Int} {t0 t1 : Tok} {opt : Array UInt8} {to : Tok} {m' : Str → Option Value} (F : Fr h₀ L h m') (N : News h₀ L h news) (hx : (x, srcObj a b t0 t1 n) ∈ news) (hc : (ca, co) ∈ news) (hI : (I, oI) ∈ news)
    (hm1 : m' (Str.ofString "options") = some (.bytes opt to)) (hm2 : m' (Str.ofString "script") = some (.ref l)) (ha : 0 ≤ a) (hb : 0 ≤ b) (hb2 : b < 2147483647) (h40 : opt.size ≤ 40) (h4 : opt.size % 4 = 0) : OptEnd s h₀ L l x n ca co I oI .next { s with heap := h, toks := tk } :=
  ⟨rfl, opt, to, h, tk, a, b, t0, t1, m', h40, h4, ha, hb, hb2, rfl, F, fun p hp => by
    simp only [List.mem_cons, List.not_mem_nil, or_false] at hp
    rcases hp with rfl | rfl | rfl
    · exact N _ hx
    · exact N _ hc
    · exact N _ hI, hm1, hm2⟩
theorem endB_intro {s : Shared} {h₀ h : Heap} {L ca I : Addr} {tk : Nat} {co oI : Obj} {news : Led} {y : Str} {vy : Value} {v : Option Value} {m' : Str → Option Value} {Q : Flow → Shared → Prop} (F : Fr h₀ L h m') (N : News h₀ L h news) (hc : (ca, co) ∈ news) (hI : (I, oI) ∈ news) (hd : co.data = .cell v) (hm : m' y = some vy) :
    EndB s h₀ L y vy ca I oI Q .next { s with heap := h, toks := tk } :=
  ⟨h, tk, m', co, v, rfl, F, fun p hp => by
    simp only [List.mem_cons, List.not_mem_nil, or_false] at hp
    rcases hp with rfl | rfl
    · exact N _ hc
    · exact N _ hI, hd, hm⟩
theorem lt31 {x : Int} (h : x < 2 ^ Int.toNat 31) : x < 4294967296 := Int.lt_trans h (by decide)
def CaAt (_ : Addr) (_ : Obj) : Prop := True
theorem ca_of {h₀ h : Heap} {L ca : Addr} {co : Obj} (_ : News h₀ L h [(ca, co)]) : CaAt ca co := trivial
theorem cell_at {h₀ h : Heap} {L ca : Addr} {co : Obj} {news : Led} (_ : CaAt ca co) (N : News h₀ L h news) (hm : (ca, co) ∈ news) : News h₀ L h [(ca, co)] := fun p hp => by
  rcases List.mem_singleton.mp hp with rfl
  exact N _ hm
-- p94c_hdr
/-- an IpHeader of three numbers -/
theorem hdr_new {w : World} {news : Led} {src tgt pr : Int} {ts tt tp : Tok} {mean : ExcName → Option Value} {mg mb : Str → Option Value} {dp un : Nat} {gd : Option (List Code)} {cn : Str} {cs : Scope} {a : Addr} {ccd : Value} {cl : List (Str × Addr)} {outer : List Env} {A₀ : Around} {base h₀ : Heap} {L : Addr} {m : Str → Option Value} {s : Shared} {Q E : Value → Shared → Prop}
    (B : Below A₀ base outer h₀) (F : Fr h₀ L s.heap m) (X : (hK w.params).In h₀) (N : News h₀ L s.heap news) (T : Top hQ (looseW hQ [Str.ofString "ones_sum", Str.ofString "checksum", Str.ofString "IpHeader"]) mean mg mb h₀) (hk : cs.kind = .function)
    (hd : dp + 3 < recursionLimit) (hu : un + 8 * 3 < cLine)
    (hret : ∀ (x dx : Addr) (k0 k1 k2 k3 k4 k5 k6 k7 k8 k9 v3 v4 v5 v8 v9 : Tok) (h' : Heap) (tk' : Nat), (∀ p ∈ news, p.1 < dx) → @LT.lt Nat _ dx x → Fr h₀ L h' m → News h₀ L h' ((x, instObj 176 dx) :: (dx, dictOf (hdrL w k0 k1 k2 k3 k4 k5 k6 k7 k8 k9 ts tt tp v3 v4 v5 v8 v9 src tgt pr 0 64 0 false false 0 #[]) 10) :: news) → Q (.ref x) { s with heap := h', toks := tk' }) :
    wpAny (model PySem.Challenge.rw_qz0161_01.row.prog w) (ktrTop dp un gd cn cs L a ccd cl outer) (call (.ref 176) [.int src ts, .int tgt tt, .int pr tp]) Q E s := by
  revert X
  k_fill
  intro X
  obtain ⟨sh, sg, sd, st, so⟩ := s
  dsimp only at F N hret ⊢
  k_dflt (refine' call_cls ?k1 ?k2 ?k3 ?k4 ?k5 ?k6 ?_; (case k1 => k_asm); (case k2 => k_asm); (case k3 => k_asm); (case k4 => k_is); (case k5 => k_is); (case k6 => k_is); k_whole)
  intro x' d' h' F' N' l1 l2
  k_lt2 l2
  (try dsimp only)
  k_dflt (walk_at "mine code")
  rename_i g2 L2 h2 FG2 F2 N2 B2 X2 T2
  have F3 : Fr g2 L2 h2 (fun y => List.lookup y [(Str.ofString "options", .bytes #[] 364), (Str.ofString "offset", .int 0 363), (Str.ofString "more", .bool false), (Str.ofString "dont", .bool false), (Str.ofString "tos", .int 0 362), (Str.ofString "ttl", .int 64 361), (Str.ofString "ident", .int 0 360), (Str.ofString "protocol", .int pr tp), (Str.ofString "target", .int tgt tt), (Str.ofString "source", .int src ts), (Str.ofString "self", .ref x')]) := F2
  clear F2
  k_steps
  (with_reducible rename News _ _ _ _ => kN)
  (with_reducible rename Fr _ _ _ _ => kF)
  exact hret _ _ _ _ _ _ _ _ _ _ _ _ _ _ _ _ _ _ _ (by assumption) (by assumption) kF kN
-- m74
local macro_rules | `(tactic| walk_at "mine till t") => `(tactic| repeat' (first | (k_unfold; (try dsimp only)) | ((fail_if_success (with_reducible show wpAny _ _ (call (Value.ref 327) _) _ _ _)); first | walk1 | (dsimp only; (fail_if_success (with_reducible show wpAny _ _ (call (Value.ref 327) _) _ _ _)); walk1))))
-- m02_ne
local macro_rules | `(tactic| k_ne) => `(tactic| (refine neN ?_; (try dsimp only); first
  | with_reducible assumption
  | exact Ne.symm (by with_reducible assumption)
  | exact Nat.ne_of_lt (by with_reducible assumption)
  | exact Nat.ne_of_gt (by with_reducible assumption)
  | (refine Nat.ne_of_gt (Nat.lt_trans ?p9 ?q9); (case q9 => with_reducible assumption); (case p9 => with_reducible assumption))
  | (refine Nat.ne_of_lt (Nat.lt_trans ?p9 ?q9); (case q9 => with_reducible assumption); (case p9 => with_reducible assumption))
  | omega))
local macro_rules | `(tactic| walk_at "mine split") => `(tactic| repeat ((with_reducible rename _ ∧ _ => hc9); cases hc9))
-- m90
local macro_rules | `(tactic| walk_at "mine till x") => `(tactic| repeat' (first | (k_unfold; (try dsimp only)) | ((fail_if_success (with_reducible show wpAny _ _ (call (Value.ref 215) _) _ _ _)); first | walk1 | (dsimp only; (fail_if_success (with_reducible show wpAny _ _ (call (Value.ref 215) _) _ _ _)); walk1))))
-- m91b
local macro_rules | `(tactic| walk_at "mine use0") => `(tactic| (walk_at "mine k5"; walk_at "mine kk"; k_whole))
local macro_rules | `(tactic| walk_at "mine till d") => `(tactic| repeat' (first | (k_unfold; (try dsimp only)) | ((fail_if_success (with_reducible show wpAny _ _ (call (Value.ref 313) _) _ _ _)); first | walk1 | (dsimp only; (fail_if_success (with_reducible show wpAny _ _ (call (Value.ref 313) _) _ _ _)); walk1))))
-- m95
local macro_rules | `(tactic| walk_at "call ref") => `(tactic| (k_here; (with_reducible show wpAny _ _ (call (Value.ref 306) _) _ _ _); k_dflt (walk_at "mine pool")))
local macro_rules | `(tactic| walk_at "mine pool") => `(tactic| ((refine' VL.use (pool_sp _ _ _ _ _ ?hI ?hns _ _ ?h0 ?h1) ?hl ?k1 ?k2 ?k3 ?k4 ?k5 ?kK ?kd ?ku ?_); (case hI => assumption); (case hns => assumption); (case h0 => walk_at "mine fact"); (case h1 => walk_at "mine fact"); (case hl => assumption); walk_at "mine k5"; walk_at "mine kk"; k_whole; intro x9 a9 b9 t9 u9 n9 h9 tk9 ha9 hb9 hc9 l9 F9 N9; (try k_lt l9); (try dsimp only); (try k_fold)))
local macro_rules | `(tactic| walk_at "mine till src") => `(tactic| repeat' (first | (k_unfold; (try dsimp only)) | ((fail_if_success (with_reducible show LCg.CompSrc _ _ _ _ _ _ _ _ _ _ _ _ _ _)); first | walk1 | (dsimp only; walk1))))
local macro_rules | `(tactic| walk_at "eval ListComp") => `(tactic| (k_here; k_dflt (refine LCg.ListComp_U (F₀ := by k_asm) (by with_unfolding_all rfl) (by decide) (by rfl) (by decide) (by rfl) ?_)))
local macro_rules | `(tactic| walk_at "mine in") => `(tactic| exact fun q hq => by first | exact (show _ from by assumption) q hq | (constructor <;> omega))
local macro_rules | `(tactic| walk_at "mine till opt") => `(tactic| repeat' (first | (k_unfold; (try dsimp only)) | ((fail_if_success (with_reducible show wpAny _ _ (exec (Stmt.If _ _ _ _) _) _ _ _)); first | walk1 | (dsimp only; (fail_if_success (with_reducible show wpAny _ _ (exec (Stmt.If _ _ _ _) _) _ _ _)); walk1))))
local macro_rules | `(tactic| walk_at "mine till r") => `(tactic| repeat' (first | (k_unfold; (try dsimp only)) | ((fail_if_success (with_reducible show wpAny _ _ (call (Value.ref 334) _) _ _ _)); first | walk1 | (dsimp only; (fail_if_success (with_reducible show wpAny _ _ (call (Value.ref 334) _) _ _ _)); walk1))))
local macro_rules | `(tactic| walk_at "call ref") => `(tactic| (k_here; (with_reducible show wpAny _ _ (call (Value.ref 176) [Value.int _ _, Value.int _ _, Value.int _ _]) _ _ _); k_dflt (refine' hdr_new ?k1 ?k2 ?k3 ?k4 ?k5 ?kK ?kd ?ku ?_; walk_at "mine k5"; walk_at "mine kk"; k_whole; intro x8 d8 k80 k81 k82 k83 k84 k85 k86 k87 k88 k89 v83 v84 v85 v88 v89 h8 tk8 l8 l81 F8 N8; (try k_lt l8); (try dsimp only); (try k_fold))))
local macro_rules | `(tactic| walk_at "call ref") => `(tactic| (k_here; (with_reducible show wpAny _ _ (call (Value.ref 320) _) _ _ _); k_dflt (first | walk_at "mine four" | walk_at "mine five")))
local macro_rules | `(tactic| walk_at "mine four") => `(tactic| ((try (walk_at "mine split")); (refine' VS.use ?k1 ?k2 ?k3 ?k4 ?k5 ?kp (one_four _ _ _ _ _ _ _ _ _ _ _ _ _ _ ?a1 ?a2 ?a3 ?a4) ?kK ?kd ?ku ?_); walk_at "mine k5"; (case kp => walk_at "mine pick"); (case a1 => k_all); walk_at "mine as"; walk_at "mine kk"; k_whole; intro v9 a9 b9 t9 u9 h9 tk9 P9 ha9 hb9 hc9 F9 N9; obtain ⟨i9, s9, e9, hi9, hj9⟩ := P9; subst e9; (try dsimp only); (try k_fold)))
local macro_rules | `(tactic| walk_at "mine five") => `(tactic| ((try (walk_at "mine split")); (refine' VS.use ?k1 ?k2 ?k3 ?k4 ?k5 ?kp (one_five _ _ _ _ _ _ _ _ _ _ _ _ _ _ _ ?a1 ?a2 ?a3 ?a4) ?kK ?kd ?ku ?_); walk_at "mine k5"; (case kp => walk_at "mine pick"); (case a1 => k_all); walk_at "mine as"; walk_at "mine kk"; k_whole; intro v9 a9 b9 t9 u9 h9 tk9 P9 ha9 hb9 hc9 F9 N9; obtain ⟨i9, s9, e9, hE9⟩ := P9; subst e9; (try dsimp only); (try k_fold)))
-- p95_turn
noncomputable def forBody? : Option (List Stmt) := match hD.body with
  | [_, .For _ _ b _ _, _] => some b
  | _ => none
noncomputable abbrev forBody : List Stmt := litOf (show forBody? = some _ from rfl)
noncomputable abbrev lawScope : Scope := hD.scope
theorem law_turn (w : World) (mean : ExcName → Option Value) (mg mb : Str → Option Value) (h₀ : Heap) (L fa : Addr) (cd : Value) (l : Addr) (vs : List Value) (ns : List Int) (hL : h₀.IsList l vs.toArray) (hI : IntsAre vs ns) (hns : ns.length ≤ 63) (B : Below callerA h₀ [] h₀) (X : (hK w.params).In h₀)
    (T : Top hQ (looseW hQ [Str.ofString "ones_sum", Str.ofString "checksum", Str.ofString "IpHeader"]) mean mg mb h₀) (k : Int) (hk0 : 0 ≤ k) (hk2 : k < 2) (t : Tok) (h : Heap) (tk : Nat) (I : Addr) (oI co : Obj) (cv : Option Value) (u : Str → Option Value) (hcI : @Ne Nat (L + 1) I) (hco : co.data = .cell cv)
    (F : Fr h₀ L h (fun z => if z = Str.ofString "k" then some (.int k t) else if z = Str.ofString "script" then some (.ref l) else u z)) (N : News h₀ L h [(L + 1, co), (I, oI)]) (s : Shared) (Q : Flow → Shared → Prop) (E : Value → Shared → Prop) :
    wpAny (model PySem.Challenge.rw_qz0161_01.row.prog w) (callerA.deeper (envOfC (Str.ofString "law") lawScope L fa cd)) (execs forBody (envOfC (Str.ofString "law") lawScope L fa cd)) (EndB s h₀ L (Str.ofString "script") (.ref l) (L + 1) I oI Q) E { s with heap := h, toks := tk } := by
  revert X
  k_fill
  intro X
  unfold forBody lawScope litOf
  dsimp only
  walk_at "mine till src"
  rename IsRange _ _ _ _ _ _ _ _ => hr
  (with_reducible rename News _ _ _ _ => kN)
  (with_reducible rename Fr _ _ _ _ => kF)
  refine LCg.CompSrc.range rfl kF kN hr (small_one (by omega) (by omega) (by omega) (by omega)) (rangeSize_nat _ _) (by rw [PySem.sizeLine_eq]; omega) ?_
  intro g0
  refine comp_octets (by assumption) (by assumption) (by assumption) _ ?_ ?_
  · intro a b t0 t1 v I' oI' C oC D ys m₂ h' tk' E' ha hb hb2 hC F' N' off ne hx
    clear kN kF hr
    simp only [LCg.Off3, and_true] at off
    k_steps
    all_goals first | assumption | exact (oct_mul (by assumption) (by assumption) (by assumption) (by assumption)).1 | exact (oct_mul (by assumption) (by assumption) (by assumption) (by assumption)).2 | omega
  · intro ys is a b t0 t1 hIs hlen hbs ha hb hb2
    clear kN kF hr
    walk_at "mine till opt"
    (with_reducible rename News _ _ _ _ => kN)
    refine opt_mid (s := s) (l := l) kN ?_ (fun fl s' H => ?_)
    · k_steps
      all_goals (with_reducible rename News _ _ _ _ => kN)
      all_goals (with_reducible rename Fr _ _ _ _ => kF)
      all_goals (refine' opt_end kF kN ?hx ?hc ?hI ?e1 ?e2 ?ha ?hb ?hb2 ?h4 ?h5; (case hx => walk_at "mine mem"); (case hc => walk_at "mine mem"); (case hI => walk_at "mine mem"); (case e1 => exact rfl); (case e2 => exact rfl); (case ha => assumption); (case hb => assumption); (case hb2 => assumption); (case h4 => (first | rw [byteArr_size, hlen] | rw [Array.size_replicate]); omega); (case h5 => (first | rw [byteArr_size, hlen] | rw [Array.size_replicate]); omega))
    · obtain ⟨rfl, opt, to, h3, tk3, a3, b3, t03, t13, m3, ho1, ho2, ha3, hb3, hc3, rfl, F3, N3, hm1, hm2⟩ := H
      rw [map_two hm1 hm2] at F3
      clear kN hIs hlen hbs ha hb hb2
      (try dsimp only)
      walk_at "mine till src"
      rename IsRange _ _ _ _ _ _ _ _ => hr
      (with_reducible rename News _ _ _ _ => kN)
      (with_reducible rename Fr _ _ _ _ => kF)
      refine LCg.CompSrc.range rfl kF kN hr (small_one (by omega) (by omega) (by omega) (by omega)) (rangeSize_nat _ _) (by rw [PySem.sizeLine_eq]; omega) ?_
      intro g1
      refine comp_octets (by assumption) (by assumption) (by assumption) _ ?_ ?_
      · intro a b t0 t1 v I' oI' C oC D ys m₂ h' tk' E' ha hb hb2 hC F' N' off ne hx
        clear kN kF hr
        simp only [LCg.Off3, and_true] at off
        k_steps
        all_goals first | assumption | omega
      · intro ys2 is2 a4 b4 t04 t14 hIs2 hlen2 hbs2 ha4 hb4 hc4
        clear kN kF hr
        walk_at "mine till r"
        refine' VT.use0 (right_all _ _ _ _ _ _ _ _ _ _ _ _ _ _ _ _ _ _ _ _ _ _ _ _ _ _ _ _ _ ?hx ?hdx _ _ _ _ ?R ?hk) ?k1 ?k2 ?k3 ?k4 ?k5 ?kK ?kd ?ku ?_
        (case k4 => k_asm)
        (case hx => walk_at "mine mem")
        (case hdx => walk_at "mine mem")
        (case R => exact ⟨ho1, ho2, by rw [byteArr_size, hlen2]; omega, by omega, lt31 (by assumption), by omega, lt31 (by assumption), by omega, by omega, by omega, by omega, by omega, by omega, by omega, by omega⟩)
        (case hk => assumption)
        walk_at "mine use0"
        intro r9 tl9 h9 tk9 P9 F9 N9
        obtain ⟨rfl, rfl⟩ := P9
        simp only [List.nil_append] at N9
        k_steps
        (with_reducible rename News _ _ _ _ => kN)
        (with_reducible rename Fr _ _ _ _ => kF)
        refine' endB_intro kF kN ?hc ?hI ?hd ?hm
        (case hc => walk_at "mine mem")
        (case hI => walk_at "mine mem")
        (case hd => assumption)
        (case hm => exact rfl)
-- p95_law
theorem law_holds : PySem.Challenge.rw_qz0161_01.Holds := hd (by
  k_go0; (all_goals try k_fold)
  dsimp only
  rename_i ns hs hlay0 hLy hr1 hl2 as5 as4 l vs as1 hL ra wl r0 hI hrW hc63 hcT K0 hD h₁ tk₁ F₁ oc hoc N₁ Xc
  clear Xc
  have hCa := ca_of N₁
  have hoc' : oc.data = .cell none := hoc
  clear hoc
  have F₂ : Fr _ _ h₁ (fun y => if y = Str.ofString "script" then some (.ref l) else none) := F₁
  clear F₁ hD wl ra r0 hrW hLy hs hlay0 hr1 hl2 hcT
  walk_at "mine till t"
  refine' VT.use0 (first_told _ _ _ _) ?k1 ?k2 ?k3 ?k4 ?k5 ?kK ?kd ?ku ?_
  walk_at "mine use0"
  intro r9 tl9 h9 tk9 P9 F9 N9
  obtain ⟨t9, rfl, rfl⟩ := P9
  simp only [List.cons_append, List.nil_append] at N9
  walk_at "mine till iter"
  rename IsRange _ _ _ _ _ _ _ _ => hr
  (with_reducible rename News _ _ _ _ => kN)
  (with_reducible rename Fr _ _ _ _ => kF)
  have hns : ns.length ≤ 63 := by omega
  refine iterRangeB (Str.ofString "script") rfl rfl rfl hr (small_one (by decide) (by decide) (by omega) (by omega)) (rangeSize_nat _ _) kF (cell_at hCa kN (by walk_at "mine mem")) hoc' rfl ?_ ?_
  · intro i t h tk I oI co cv u hi hcI hco F₃ N₃
    have hi2 : (i : Int) < 2 := by
      revert hi
      (repeat' split) <;> omega
    refine law_turn _ _ _ _ _ _ _ _ l vs ns hL hI hns K0 (by assumption) (by assumption) _ (by omega) (by omega) t h tk I oI co cv u hcI hco F₃ N₃ _ _ _
  · intro u h tk F₃ N₃
    k_steps)
end Mine
theorem PySem.Challenge.cw_qz0161_01_holds : PySem.Challenge.rw_qz0161_01.Holds :=
  Mine.law_holds
