import PyProof.Rows.All
import Wide.All
import OpenK.AllK
import Wide.FinOn
import Lean
import PySem.Challenge.RW_no0376_01
set_option Elab.async false
set_option maxRecDepth 100000
set_option linter.all false

section
open PySem PySem.W PySem.Calls PyProof.Rows
set_option genSizeOf false
set_option genInjectivity false
namespace Mine
/-! values without tokens -/
inductive V where
  | none | bool (b : Bool) | int (i : Int) | str (x : Str) | bytes (b : List UInt8) | ref (a : Addr) | type (n : String) | builtin (i : String) | bad
noncomputable def av : Value → V
  | .none => .none
  | .bool b => .bool b
  | .int i _ => .int i
  | .str x _ => .str x
  | .bytes b _ => .bytes b.toList
  | .type n => .type n
  | .builtin i => .builtin i
  | .ref a => .ref a
  | _ => .bad
noncomputable def vInt : V → Option (Int) | .int a => some a | _ => none
noncomputable def vBytes : V → Option (List UInt8) | .bytes a => some a | _ => none
noncomputable def vRef : V → Option (Addr) | .ref a => some a | _ => none
noncomputable def vType : V → Option (String) | .type a => some a | _ => none
noncomputable def vBlt : V → Option (String) | .builtin a => some a | _ => none
noncomputable def vStr : V → Option (Str) | .str a => some a | _ => none
noncomputable def vBool : V → Option (Bool) | .bool a => some a | _ => none
noncomputable def vNone : V → Option Unit | .none => some () | _ => none
theorem absN {α : Type} {t : α} {P : Prop} (h : (none : Option α) = some t) : P := nomatch h
theorem av_none {v : Value} (h : av v = .none) : v = .none := by
  have h : vNone (av v) = some () := congrArg vNone h
  cases v <;> first | rfl | exact absN h
theorem av_bool {v : Value} {b : Bool} (h : av v = .bool b) : v = .bool b := by
  have h : vBool (av v) = some b := congrArg vBool h
  cases v <;> first | exact absN h | exact congrArg Value.bool (Option.some.inj h)
theorem av_int {v : Value} {i : Int} (h : av v = .int i) : ∃ t, v = .int i t := by
  have h : vInt (av v) = some i := congrArg vInt h
  cases v <;> first | exact absN h | exact ⟨_, congrArg (Value.int · _) (Option.some.inj h)⟩
theorem av_str {v : Value} {x : Str} (h : av v = .str x) : ∃ t, v = .str x t := by
  have h : vStr (av v) = some x := congrArg vStr h
  cases v <;> first | exact absN h | exact ⟨_, congrArg (Value.str · _) (Option.some.inj h)⟩
theorem av_bytes {v : Value} {b : List UInt8} (h : av v = .bytes b) : ∃ t, v = .bytes b.toArray t := by
  have h : vBytes (av v) = some b := congrArg vBytes h
  cases v <;> first | exact absN h | exact ⟨_, congrArg (Value.bytes · _) (congrArg List.toArray (Option.some.inj h))⟩
theorem av_ref {v : Value} {a : Addr} (h : av v = .ref a) : v = .ref a := by
  have h : vRef (av v) = some a := congrArg vRef h
  cases v <;> first | exact absN h | exact congrArg Value.ref (Option.some.inj h)
theorem av_type {v : Value} {a : String} (h : av v = .type a) : v = .type a := by
  have h : vType (av v) = some a := congrArg vType h
  cases v <;> first | exact absN h | exact congrArg Value.type (Option.some.inj h)
theorem av_builtin {v : Value} {a : String} (h : av v = .builtin a) : v = .builtin a := by
  have h : vBlt (av v) = some a := congrArg vBlt h
  cases v <;> first | exact absN h | exact congrArg Value.builtin (Option.some.inj h)
/-! names -/
inductive N where
  | nSelf | nWhat | nAt | nData | nOctets | nFits | nFirst | nFound | nRead | nDepth | nEnd | nNumber | nCode | nAhead | nValue | nText | nOne | nBag | nMany | nWorth
  | nScript | nCell | nPieces | nTurn | nBarred | nCount | nHead | nSome | nDue | nWay | nWire | nAsked | nDeed | nFault
noncomputable def N.nat : N → Nat
  | .nSelf => 0 | .nWhat => 1 | .nAt => 2 | .nData => 3 | .nOctets => 4 | .nFits => 5 | .nFirst => 6 | .nFound => 7 | .nRead => 8 | .nDepth => 9 | .nEnd => 10 | .nNumber => 11 | .nCode => 12
  | .nAhead => 13 | .nValue => 14 | .nText => 15 | .nOne => 16 | .nBag => 17 | .nMany => 18 | .nWorth => 19 | .nScript => 20 | .nCell => 21 | .nPieces => 22 | .nTurn => 23 | .nBarred => 24
  | .nCount => 25 | .nHead => 26 | .nSome => 27 | .nDue => 28 | .nWay => 29 | .nWire => 30 | .nAsked => 31 | .nDeed => 32 | .nFault => 33
noncomputable def nameTab : List Str := (["self", "what", "at", "data", "octets", "fits", "first", "found", "read", "depth", "end", "number", "code", "ahead", "value", "text", "one", "bag", "many", "worth",
  "script", "cell", "pieces", "turn", "barred", "count", "head", "some", "due", "way", "wire", "asked", "deed", "fault"] : List String).map Str.ofString
noncomputable def N.str (n : N) : Str := nameTab.getD n.nat ""
theorem nat_lt (n : N) : n.nat < 34 := Nat.le_of_ble_eq_true (n := n.nat + 1) (m := 34) (by cases n <;> rfl)
noncomputable def nTab : List N := [.nSelf, .nWhat, .nAt, .nData, .nOctets, .nFits, .nFirst, .nFound, .nRead, .nDepth, .nEnd, .nNumber, .nCode, .nAhead, .nValue, .nText, .nOne, .nBag, .nMany, .nWorth,
  .nScript, .nCell, .nPieces, .nTurn, .nBarred, .nCount, .nHead, .nSome, .nDue, .nWay, .nWire, .nAsked, .nDeed, .nFault]
theorem nTab_at (a : N) : nTab[a.nat]? = some a := by cases a <;> rfl
theorem nat_inj {a b : N} (h : a.nat = b.nat) : a = b := Option.some.inj ((nTab_at a).symm.trans (h ▸ nTab_at b))
theorem nameTab_nodup : nameTab.Nodup := by decide +kernel
theorem str_inj {a b : N} (h : a.str = b.str) : a = b := by
  apply nat_inj
  have ha : a.nat < nameTab.length := nat_lt a
  have hb : b.nat < nameTab.length := nat_lt b
  have e : nameTab[a.nat] = nameTab[b.nat] := by
    simpa [N.str, List.getD_eq_getElem?_getD, List.getElem?_eq_getElem, ha, hb] using h
  exact (List.getElem_inj nameTab_nodup).mp e
/-! the program's functions -/
inductive F where
  | lowerCode | lower | asciiText | atomInit | atomTold | toldValue | isPrintable | isAtomCode | isAstringCode | isValueCode | isSetCode | isFigure | numberOfFigures
  | wInit | wFault | wPeek | wSkip | wNeed | wSpace | wRun | wWordOf | wAtom | wSetText | wFlag | wNumber | wQuoted | wLiteral | wString | wStringOr | wAstring | wNstring | wListOf | wPlain | wValue
  | lTake | lBag | lOctets | lRun | lFigures | lString | lValue | lNumber | lAstring | lNstring | lFlag | lSet | lNumbers | lAsked
  | lam0 | lam1
noncomputable def F.addr : F → Addr
  | .lowerCode => 80 | .lower => 85 | .asciiText => 95 | .atomInit => 109 | .atomTold => 116 | .toldValue => 128 | .isPrintable => 135 | .isAtomCode => 142 | .isAstringCode => 149
  | .isValueCode => 156 | .isSetCode => 163 | .isFigure => 170 | .numberOfFigures => 177 | .wInit => 192 | .wFault => 199 | .wPeek => 206 | .wSkip => 213 | .wNeed => 220 | .wSpace => 227
  | .wRun => 241 | .wWordOf => 248 | .wAtom => 255 | .wSetText => 276 | .wFlag => 283 | .wNumber => 290 | .wQuoted => 297 | .wLiteral => 304 | .wString => 311 | .wStringOr => 318 | .wAstring => 325
  | .wNstring => 339 | .wListOf => 346 | .wPlain => 351 | .wValue => 359 | .lTake => 373 | .lBag => 380 | .lOctets => 387 | .lRun => 394 | .lFigures => 401 | .lString => 408 | .lValue => 415
  | .lNumber => 422 | .lAstring => 429 | .lNstring => 436 | .lFlag => 443 | .lSet => 450 | .lNumbers => 457 | .lAsked => 464 | .lam0 => 0 | .lam1 => 1
noncomputable def clsFault : Addr := 71
noncomputable def clsAtom : Addr := 119
noncomputable def clsWire : Addr := 362
noncomputable def mcls (f : F) : Addr := if f.ctorIdx = F.atomTold.ctorIdx then clsAtom else clsWire
noncomputable def allF : List F := [.lowerCode, .lower, .asciiText, .atomInit, .atomTold, .toldValue, .isPrintable, .isAtomCode, .isAstringCode, .isValueCode, .isSetCode, .isFigure, .numberOfFigures,
  .wInit, .wFault, .wPeek, .wSkip, .wNeed, .wSpace, .wRun, .wWordOf, .wAtom, .wSetText, .wFlag, .wNumber, .wQuoted, .wLiteral, .wString, .wStringOr, .wAstring, .wNstring, .wListOf, .wPlain, .wValue,
  .lTake, .lBag, .lOctets, .lRun, .lFigures, .lString, .lValue, .lNumber, .lAstring, .lNstring, .lFlag, .lSet, .lNumbers, .lAsked]
noncomputable def funOf (a : Addr) : Option F := allF.find? fun f => f.addr == a
end Mine
end
section
open PySem PySem.W PySem.Calls PyProof.Rows
set_option genSizeOf false
set_option genInjectivity false
namespace Mine
inductive AO where
  | list (xs : List V) | tup (xs : List V) | barr (b : List UInt8)
  | inst (C d : Addr) | exc (C d : Addr) | exn (C d : Addr)
  | ns (fr : Bool) (m : N → Option V)
  | cell (v : Option V)
  | raw (o : Obj)
  | meth (f w : Addr)
  | lam (k : Nat) (c cc : Addr) | code (k : Nat) | tab (cs : List (Nat × Addr))
  | iter (src : V) (k : Nat) | rng (n : Nat)
noncomputable abbrev St := Addr → Option AO
noncomputable def St.set (σ : St) (a : Addr) (o : AO) : St := fun b => if b = a then some o else σ b
noncomputable def St.del (σ : St) (a : Addr) : St := fun b => if b = a then none else σ b
@[simp] theorem St.set_same (σ : St) (a : Addr) (o : AO) : (σ.set a o) a = some o := by simp [St.set]
theorem St.set_ne (σ : St) {a b : Addr} (o : AO) (h : b ≠ a) : (σ.set a o) b = σ b := by simp [St.set, h]
@[simp] theorem St.del_same (σ : St) (a : Addr) : (σ.del a) a = none := by simp [St.del]
theorem St.del_ne (σ : St) {a b : Addr} (h : b ≠ a) : (σ.del a) b = σ b := by simp [St.del, h]
@[simp] theorem St.set_set (σ : St) (a : Addr) (o o' : AO) : (σ.set a o).set a o' = σ.set a o' := by
  funext b; by_cases h : b = a <;> simp [St.set, h]
theorem St.set_comm (σ : St) {a b : Addr} (o o' : AO) (h : a ≠ b) : (σ.set a o).set b o' = (σ.set b o').set a o := by
  funext c; by_cases h1 : c = a <;> by_cases h2 : c = b <;> simp_all [St.set]
theorem St.del_set (σ : St) {a : Addr} (o : AO) (h : σ a = none) : (σ.set a o).del a = σ := by
  funext b; by_cases h1 : b = a <;> simp_all [St.set, St.del]
theorem St.del_set_ne (σ : St) {a b : Addr} (o : AO) (h : a ≠ b) : (σ.set a o).del b = (σ.del b).set a o := by
  funext c; by_cases h1 : c = a <;> by_cases h2 : c = b <;> simp_all [St.set, St.del]
theorem St.del_none (σ : St) {a : Addr} (h : σ a = none) : σ.del a = σ := by
  funext b; by_cases h1 : b = a <;> simp_all [St.del]
theorem St.set_id (σ : St) {a : Addr} {o : AO} (h : σ a = some o) : σ.set a o = σ := by
  funext b; by_cases h1 : b = a <;> simp_all [St.set]
noncomputable def St.le (σ τ : St) : Prop := ∀ a o, σ a = some o → τ a = some o
theorem St.le_refl (σ : St) : σ.le σ := fun _ _ h => h
theorem St.le_trans {σ τ ρ : St} (h : σ.le τ) (k : τ.le ρ) : σ.le ρ := fun _ _ e => k _ _ (h _ _ e)
theorem St.le_set {σ : St} {a : Addr} {o : AO} (h : σ a = none) : σ.le (σ.set a o) := fun b x e => by
  by_cases hb : b = a
  · subst hb; rw [h] at e; cases e
  · rw [St.set_ne _ _ hb]; exact e
theorem St.del_le (σ : St) (a : Addr) : (σ.del a).le σ := fun b o e => by
  by_cases hb : b = a
  · subst hb; simp at e
  · rwa [St.del_ne _ hb] at e
structure Glob where
  prog : Program
  w : World
  K : Frag
  base : Heap
  mg : Str → Option Value
  mb : Str → Option Value
  os : OsState
  lamP : Nat → Addr → Addr → Obj → Prop
  codeP : Nat → Obj → Prop
  tabP : List (Nat × Addr) → Obj → Prop
noncomputable def NsRel (mm : Str → Option Value) (m : N → Option V) : Prop :=
  (∀ k v, m k = some v → ∃ x, mm k.str = some x ∧ av x = v) ∧ ∀ y x, mm y = some x → ∃ k : N, k.str = y ∧ (m k).isSome = true
noncomputable def OM (G : Glob) (ob : Obj) : AO → Prop
  | .list xs => ∃ vs n, ob = { cls := .type "list", data := .seq vs n } ∧ vs.toList.map av = xs
  | .tup xs => ∃ vs n, ob = { cls := .type "tuple", data := .seq vs n } ∧ vs.toList.map av = xs
  | .barr b => ob = { cls := .type "bytearray", data := .bytearray b.toArray 0 }
  | .inst C d => ob = instObj C d
  | .exc C d => ob.cls = .ref C ∧ ob.dict = some d ∧ ∃ vs, ob.data = .fields vs ∧ 5 ≤ vs.size
  | .exn C d => ob.cls = .ref C ∧ ob.dict = some d ∧ ∃ vs, ob.data = .fields vs ∧ 5 ≤ vs.size ∧ vs[1]? = some .none
  | .ns fr m => ∃ es ep mm, ob.data = .dict es ep ∧ StrKeys es ∧ (∀ x, nsFind es x = mm x) ∧ NsRel mm m ∧ (fr = false → ob = { cls := .type "dict", data := .dict es ep } ∧ es.size ≤ 100)
  | .cell v => ∃ x, ob.data = .cell x ∧ x.map av = v
  | .raw o => ob = o
  | .meth f w => ob = methodObj (.ref f) (.ref w)
  | .lam k c cc => G.lamP k c cc ob
  | .code k => G.codeP k ob
  | .tab cs => G.tabP cs ob
  | .iter src k => match src with
    | .bytes b => ob.cls = .type "bytes_iterator" ∧ ∃ t, ob.data = .fields #[.bytes b.toArray t, .int k 0]
    | .ref l => ob.cls = .type "list_iterator" ∧ ob.data = .fields #[.ref l, .int k 0]
    | .int n => ob = { cls := .type "range_iterator", data := .fields #[rawInt k, rawInt (n - k), rawInt 1] }
    | _ => False
  | .rng n => ∃ t u v, ob = { cls := .type "range", data := .fields #[.int 0 t, .int n u, .int 1 v] }
structure Glob.Ok (G : Glob) : Prop where
  kin : G.K.In G.base
  g : G.base.Ns mainGlobals G.mg
  b : G.base.Ns builtinsNs G.mb
  nolimit : G.base.NoLimit
  builtins : ∀ x : Str, x ≠ "__name__" → G.mb x = bootBuiltins x
/-- a frame under way -/
inductive Frm (G : Glob) (σ : St) (h : Heap) (env : Env) : Prop where
  | mk (f : Addr) (o : Obj) (es : Array DictEntry) (ep : Nat) : env.scope.kind = .function → env.frame = some f → G.base.get? f = none → h.get? f = some o → o.data = .dict es ep → (∀ o, σ f = some o → ∃ m, o = .ns true m) → Frm G σ h env
/-- the heap bears the abstract state; l: the frames under way -/
structure Rel (G : Glob) (l : List Env) (σ : St) (s : Shared) : Prop where
  base : ∀ b o, G.base.get? b = some o → s.heap.get? b = some o
  objs : ∀ a o, σ a = some o → G.base.get? a = none ∧ ∃ ob, s.heap.get? a = some ob ∧ OM G ob o
  fr : ∀ env ∈ l, Frm G σ s.heap env
  gens : s.gens = #[]
  os : s.os = G.os
structure AOk (n : Nat) (l : List Env) (A : Around) : Prop where
  handled : A.handled = none
  frames : A.frames = some l
  guards : A.guards = some []
  depth : A.depth + 3 * n + 10 ≤ 990
  units : A.units + 20 * n + 300 ≤ 9900
section
variable {G : Glob} {l : List Env} {σ τ : St} {s : Shared}
theorem Rel.kin (R : Rel G l σ s) (O : G.Ok) : G.K.In s.heap := fun a o e => R.base a o (O.kin a o e)
theorem Rel.g (R : Rel G l σ s) (O : G.Ok) : s.heap.Ns mainGlobals G.mg := O.g.keeps R.base
theorem Rel.b (R : Rel G l σ s) (O : G.Ok) : s.heap.Ns builtinsNs G.mb := O.b.keeps R.base
theorem Rel.nolimit (R : Rel G l σ s) (O : G.Ok) : s.heap.NoLimit := O.nolimit.keeps R.base
theorem Frm.le {h : Heap} {env : Env} (F : Frm G σ h env) (hl : τ.le σ) : Frm G τ h env := by
  cases F with
  | mk f o es ep k a b c e d => exact ⟨f, o, es, ep, k, a, b, c, e, fun o e => d o (hl _ _ e)⟩
theorem Frm.keeps {h h' : Heap} {env : Env} (F : Frm G σ h env) (hk : ∀ b o, h.get? b = some o → h'.get? b = some o) : Frm G σ h' env := by
  cases F with
  | mk f o es ep k a b c e d => exact ⟨f, o, es, ep, k, a, b, hk _ _ c, e, d⟩
theorem Frm.ne {h : Heap} {env : Env} {a : Addr} (F : Frm G σ h env) (ha : h.get? a = none) : env.frame ≠ some a := by
  cases F with
  | mk f o es ep k a b c e d => exact fun q => by rw [a] at q; cases q; rw [ha] at c; cases c
theorem Rel.le (R : Rel G l σ s) (h : τ.le σ) : Rel G l τ s :=
  ⟨R.base, fun a o e => R.objs a o (h a o e), fun env he => (R.fr env he).le h, R.gens, R.os⟩
theorem Rel.tok (R : Rel G l σ s) {t : Nat} : Rel G l σ { s with toks := t } :=
  ⟨R.base, R.objs, R.fr, R.gens, R.os⟩
theorem Rel.fresh (R : Rel G l σ s) : σ s.heap.objs.size = none := by
  cases h : σ s.heap.objs.size with
  | none => rfl
  | some o =>
    obtain ⟨_, ob, ho, _⟩ := R.objs _ _ h
    exact absurd (Heap.lt_size ho) (Nat.lt_irrefl _)
theorem Rel.lt (R : Rel G l σ s) {a : Addr} {o : AO} (h : σ a = some o) : a < s.heap.objs.size := by
  obtain ⟨_, ob, ho, _⟩ := R.objs _ _ h
  exact Heap.lt_size ho
theorem Rel.base_fresh (R : Rel G l σ s) : G.base.get? s.heap.objs.size = none := by
  cases h : G.base.get? s.heap.objs.size with
  | none => rfl
  | some o => exact absurd (Heap.lt_size (R.base _ _ h)) (Nat.lt_irrefl _)
/-- a heap that keeps all that was there -/
theorem Rel.keeps (R : Rel G l σ s) {h' : Heap} {t : Nat} (hk : ∀ b o, s.heap.get? b = some o → h'.get? b = some o) : Rel G l σ { s with heap := h', toks := t } :=
  ⟨fun b o e => hk _ _ (R.base b o e), fun a o e => let ⟨x, ob, ho, hm⟩ := R.objs a o e; ⟨x, ob, hk _ _ ho, hm⟩,
   fun env he => (R.fr env he).keeps hk, R.gens, R.os⟩
/-- a new object in a heap that keeps all that was there -/
theorem Rel.new (R : Rel G l σ s) {h' : Heap} {t : Nat} {a : Addr} {ob : Obj} {o : AO} (hk : ∀ b o, s.heap.get? b = some o → h'.get? b = some o)
    (hb : s.heap.get? a = none) (ho : h'.get? a = some ob) (hm : OM G ob o) : Rel G l (σ.set a o) { s with heap := h', toks := t } := by
  have hg : G.base.get? a = none := by
    cases q : G.base.get? a with
    | none => rfl
    | some x => have := R.base _ _ q; rw [hb] at this; cases this
  refine ⟨fun b x e => hk _ _ (R.base b x e), fun b x e => ?_, fun env he => ?_, R.gens, R.os⟩
  · by_cases hba : b = a
    · subst hba; rw [St.set_same] at e; cases e; exact ⟨hg, ob, ho, hm⟩
    · rw [St.set_ne _ _ hba] at e
      obtain ⟨x1, ob', h1, h2⟩ := R.objs b x e
      exact ⟨x1, ob', hk _ _ h1, h2⟩
  · cases R.fr env he with
    | mk f o1 es ep k x1 x2 h1 h2 d =>
    refine ⟨f, o1, es, ep, k, x1, x2, hk _ _ h1, h2, fun o' e => ?_⟩
    by_cases hfa : f = a
    · subst hfa; rw [hb] at h1; cases h1
    · rw [St.set_ne _ _ hfa] at e; exact d _ e
theorem Rel.push (R : Rel G l σ s) {ob : Obj} {o : AO} {t : Nat} (hm : OM G ob o) (hf : ob.isFreed = false) : Rel G l (σ.set s.heap.objs.size o) { s with heap := s.heap.push ob, toks := t } :=
  R.new (fun _ _ e => Heap.get?_push_of_some _ e) (by
    cases q : s.heap.get? s.heap.objs.size with
    | none => rfl
    | some x => exact absurd (Heap.lt_size q) (Nat.lt_irrefl _)) (Heap.get?_push_size _ hf) hm
/-- one tracked object changed -/
theorem Rel.put (R : Rel G l σ s) {h' : Heap} {t : Nat} {a : Addr} {ob : Obj} {o o₀ : AO} (h0 : σ a = some o₀) (hk : ∀ b o, b ≠ a → s.heap.get? b = some o → h'.get? b = some o)
    (ho : h'.get? a = some ob) (hm : OM G ob o) (hn : ∀ m, o₀ = .ns true m → ∃ m', o = .ns true m') : Rel G l (σ.set a o) { s with heap := h', toks := t } := by
  have hg := (R.objs a o₀ h0).1
  refine ⟨fun b x e => hk _ _ (fun q => by subst q; rw [hg] at e; cases e) (R.base b x e), fun b x e => ?_, fun env he => ?_, R.gens, R.os⟩
  · by_cases hba : b = a
    · subst hba; rw [St.set_same] at e; cases e; exact ⟨hg, ob, ho, hm⟩
    · rw [St.set_ne _ _ hba] at e
      obtain ⟨x1, ob', h1, h2⟩ := R.objs b x e
      exact ⟨x1, ob', hk _ _ hba h1, h2⟩
  · cases R.fr env he with
    | mk f o1 es ep k x1 x2 h1 h2 d =>
    by_cases hfa : f = a
    · subst hfa
      obtain ⟨m, rfl⟩ := d _ h0
      obtain ⟨m', rfl⟩ := hn m rfl
      obtain ⟨es', ep', _, hd, _⟩ := hm
      exact ⟨f, ob, es', ep', k, x1, x2, ho, hd, fun o' e => by rw [St.set_same] at e; cases e; exact ⟨_, rfl⟩⟩
    · exact ⟨f, o1, es, ep, k, x1, x2, hk _ _ hfa h1, h2, fun o' e => by rw [St.set_ne _ _ hfa] at e; exact d _ e⟩
end
end Mine
end
section
open PySem PySem.W PySem.Calls PyProof.Rows
set_option genSizeOf false
set_option genInjectivity false
namespace Mine
/-! expressions and statements of the fragment -/
inductive IE where
  | kn | kb (b : Bool) | ki (i : Int) | ks (x : Str) | kx (b : List UInt8)
  | loc (x : N) | cv (x : N) | glob (x : Str) (v : V)
  | attr (e : IE) (x : N)
  | bm (e : IE) (f : F)
  | call (f : IE) (es : List IE)
  | meth (o : IE) (f : F) (es : List IE)
  | bmeth (o : IE) (name : Str) (es : List IE)
  | bin (op : Operator) (a b : IE)
  | cmp (op : CmpOp) (a b : IE)
  | cmp2 (o₁ o₂ : CmpOp) (a b c : IE)
  | inT (lst neg : Bool) (a : IE) (es : List IE)
  | isNone (a : IE)
  | bop (and : Bool) (es : List IE)
  | not (a : IE)
  | neg (a : IE)
  | ite (c a b : IE)
  | sub (o i : IE)
  | slice (o : IE) (l u : Option IE)
  | tup (es : List IE) | list (es : List IE)
  | comp (elt : IE) (x : N) (src : IE)
  | lam (f : F)
inductive IS where
  | asg (x : N) (e : IE) | asgC (x : N) (e : IE) | asgA (o : IE) (x : N) (e : IE) | asgI (o i e : IE)
  | expr (e : IE) | iff (c : IE) (a b : List IS) | wh (c : IE) (b : List IS) | for_ (x : N) (src : IE) (b : List IS)
  | ret (e : IE) | raise (e : IE) | try_ (b : List IS) (x : N) (h : List IS)
/-! locals -/
noncomputable def upd (m : N → Option V) (k : N) (v : V) : N → Option V := fun x => if x.nat = k.nat then some v else m x
noncomputable def mk : List (N × V) → N → Option V
  | [] => fun _ => none
  | (k, v) :: r => upd (mk r) k v
end Mine
end
section
open PySem PySem.W PySem.Calls PyProof.Rows
set_option genSizeOf false
set_option genInjectivity false
namespace Mine
/-- the law's own table of code objects -/
noncomputable def tabAddr : Addr := 466
noncomputable def lamNo (f : F) : Nat := if f.ctorIdx = F.lam0.ctorIdx then 0 else 1
section
open IE IS N
noncomputable abbrev fnE (x : String) (f : F) : IE := .glob (Str.ofString x) (.ref f.addr)
noncomputable abbrev blE (x : String) : IE := .glob (Str.ofString x) (.builtin x)
noncomputable abbrev tyE (x : String) : IE := .glob (Str.ofString x) (.type x)
noncomputable abbrev S (x : String) : Str := Str.ofString x
noncomputable abbrev lenE (e : IE) : IE := .call (blE "len") [e]
noncomputable abbrev sl (e l u : IE) : IE := .slice e (some l) (some u)
noncomputable abbrev dataE : IE := .attr (.loc nSelf) nData
noncomputable abbrev atE : IE := .attr (.loc nSelf) nAt
noncomputable abbrev add (a b : IE) : IE := .bin .Add a b
noncomputable abbrev sm (f : F) (es : List IE) : IE := .meth (.loc nSelf) f es
noncomputable abbrev setAt (e : IE) : IS := .asgA (.loc nSelf) nAt e
noncomputable abbrev QUOTE : IE := .glob (S "QUOTE") (.int 34)
noncomputable abbrev BACKSLASH : IE := .glob (S "BACKSLASH") (.int 92)
noncomputable abbrev MOST_DEPTH : IE := .glob (S "MOST_DEPTH") (.int 30)
noncomputable abbrev MOST_FIGURES : IE := .glob (S "MOST_FIGURES") (.int 19)
noncomputable abbrev MOST_COUNT_FIGURES : IE := .glob (S "MOST_COUNT_FIGURES") (.int 10)
noncomputable abbrev CRLF : IE := .glob (S "CRLF") (.bytes [13, 10])
noncomputable abbrev SPECIALS : IE := .glob (S "SPECIALS") (.bytes [40, 41, 123, 37, 42, 34, 92, 93])
noncomputable abbrev VALUE_SPECIALS : IE := .glob (S "VALUE_SPECIALS") (.bytes [40, 41, 123, 34, 93])
noncomputable abbrev raiseF (what : String) : IS := .raise (sm .wFault [.ks (S what)])
noncomputable abbrev raiseW (what : String) : IS := .raise (.call (.glob (S "WireFault") (.ref clsFault)) [.ks (S what), .loc nFirst])
noncomputable abbrev dl (i : IE) : IE := .sub (.loc nData) i
noncomputable abbrev L (x : N) : IE := .loc x
noncomputable abbrev ch (l u : IE) : IE := sl (.loc nData) l u
noncomputable abbrev plus1 (e : IE) : IE := add e (.ki 1)
noncomputable abbrev at1 : IE := ch (L nAt) (plus1 (L nAt))
noncomputable abbrev dec (e : IE) : IE := .bmeth e (S "decode") [.ks (S "ascii")]
noncomputable abbrev fault (e : IE) : IE := .tup [.ks (S "fault"), e]
noncomputable abbrev ntup (f : F) (n : String) (es : List IE) : IE := .call (fnE n f) es
noncomputable def params : F → List N
  | .lowerCode => [nCode] | .lower => [nOctets] | .asciiText => [nOctets] | .atomInit => [nSelf, nText] | .atomTold => [nSelf] | .toldValue => [nValue]
  | .isPrintable | .isAtomCode | .isAstringCode | .isValueCode | .isSetCode | .isFigure => [nCode]
  | .numberOfFigures => [nOctets]
  | .wInit => [nSelf, nData, nAt] | .wFault => [nSelf, nWhat] | .wPeek => [nSelf] | .wSkip => [nSelf, nOctets] | .wNeed => [nSelf, nOctets, nWhat] | .wSpace => [nSelf]
  | .wRun => [nSelf, nFits] | .wWordOf => [nSelf, nFits, nWhat] | .wAtom | .wSetText | .wFlag | .wNumber | .wQuoted | .wLiteral | .wString => [nSelf]
  | .wStringOr => [nSelf, nFits] | .wAstring | .wNstring => [nSelf] | .wListOf => [nSelf, nRead] | .wPlain => [nSelf] | .wValue => [nSelf, nDepth]
  | .lTake => [nBag, nMany] | .lBag => [nScript] | .lOctets => [nBag] | .lRun => [nData, nAt, nBarred] | .lFigures | .lString => [nData, nAt] | .lValue => [nData, nAt, nDepth]
  | .lNumber | .lAstring | .lNstring | .lFlag | .lSet | .lNumbers => [nData, nAt] | .lAsked => [nWire, nDeed] | .lam0 | .lam1 => []
/-- the default of the last parameter -/
noncomputable def dflt : F → List V
  | .wInit => [.int 0] | .wValue => [.int 0] | _ => []
noncomputable def body : F → List IS
  | .lowerCode => [.ret (.ite (.cmp2 .LtE .LtE (.ki 65) (L nCode) (.ki 90)) (add (L nCode) (.ki 32)) (L nCode))]
  | .lower => [.ret (.call (tyE "bytes") [.comp (ntup .lowerCode "lower_code" [L nCode]) nCode (L nOctets)])]
  | .asciiText => [
      .for_ nAt (.call (tyE "range") [lenE (L nOctets)]) [
        .iff (.cmp .Gt (.sub (L nOctets) (L nAt)) (.ki 127)) [.raise (.call (.glob (S "WordFault") (.ref 59)) [.ks (S "an octet beyond ASCII"), L nAt])] []],
      .ret (.bmeth (.ks Str.empty) (S "join") [.comp (.call (blE "chr") [L nCode]) nCode (L nOctets)])]
  | .atomInit => [.asgA (L nSelf) nText (L nText)]
  | .atomTold => [.ret (.tup [.ks (S "atom"), .attr (L nSelf) nText])]
  | .toldValue => [
      .iff (.isNone (L nValue)) [.ret (.tup [.ks (S "nil")])] [],
      .iff (.call (blE "isinstance") [L nValue, .glob (S "Atom") (.ref clsAtom)]) [.ret (.meth (L nValue) .atomTold [])] [],
      .iff (.call (blE "isinstance") [L nValue, tyE "bytes"]) [.ret (.tup [.ks (S "string"), L nValue])] [],
      .iff (.call (blE "isinstance") [L nValue, .tup [tyE "list", tyE "tuple"]]) [.ret (.tup [.ks (S "list"), .call (tyE "tuple") [.comp (ntup .toldValue "told_value" [L nOne]) nOne (L nValue)]])] [],
      .ret (.tup [.ks (S "number"), L nValue])]
  | .isPrintable => [.ret (.cmp2 .LtE .LtE (.ki 33) (L nCode) (.ki 126))]
  | .isAtomCode => [.ret (.bop true [ntup .isPrintable "is_printable" [L nCode], .cmp .NotIn (L nCode) SPECIALS])]
  | .isAstringCode => [.ret (.bop false [ntup .isAtomCode "is_atom_code" [L nCode], .cmp .Eq (L nCode) (.ki 93)])]
  | .isValueCode => [.ret (.bop true [ntup .isPrintable "is_printable" [L nCode], .cmp .NotIn (L nCode) VALUE_SPECIALS])]
  | .isSetCode => [.ret (.bop false [.cmp2 .LtE .LtE (.ki 48) (L nCode) (.ki 57), .cmp .In (L nCode) (.kx [58, 44, 42])])]
  | .isFigure => [.ret (.cmp2 .LtE .LtE (.ki 48) (L nCode) (.ki 57))]
  | .numberOfFigures => [
      .asg nNumber (.ki 0),
      .for_ nCode (L nOctets) [.asg nNumber (.bin .Sub (add (.bin .Mult (L nNumber) (.ki 10)) (L nCode)) (.ki 48))],
      .ret (L nNumber)]
  | .wInit => [.asgA (L nSelf) nData (L nData), .asgA (L nSelf) nAt (L nAt)]
  | .wFault => [.ret (.call (.glob (S "WireFault") (.ref clsFault)) [L nWhat, atE])]
  | .wPeek => [.ret (.ite (.cmp .Lt atE (lenE dataE)) (.sub dataE atE) (.neg (.ki 1)))]
  | .wSkip => [
      .iff (.cmp .NotEq (sl dataE atE (add atE (lenE (L nOctets)))) (L nOctets)) [.ret (.kb false)] [],
      setAt (add atE (lenE (L nOctets))), .ret (.kb true)]
  | .wNeed => [.iff (.not (sm .wSkip [L nOctets])) [.raise (sm .wFault [L nWhat])] []]
  | .wSpace => [.expr (sm .wNeed [.kx [32], .ks (S "a blank is missing")])]
  | .wRun => [
      .asg nFirst atE,
      .wh (.bop true [.cmp .Lt atE (lenE dataE), .call (L nFits) [.sub dataE atE]]) [setAt (plus1 atE)],
      .ret (sl dataE (L nFirst) atE)]
  | .wWordOf => [
      .asg nOctets (sm .wRun [L nFits]),
      .iff (.cmp .Eq (lenE (L nOctets)) (.ki 0)) [.raise (sm .wFault [L nWhat])] [],
      .ret (ntup .asciiText "ascii_text" [L nOctets])]
  | .wAtom => [.ret (sm .wWordOf [fnE "is_atom_code" .isAtomCode, .ks (S "an atom is missing")])]
  | .wSetText => [.ret (sm .wWordOf [fnE "is_set_code" .isSetCode, .ks (S "a set of numbers is missing")])]
  | .wFlag => [
      .asg nAhead (.ite (sm .wSkip [.kx [92]]) (.ks (S "\\")) (.ks Str.empty)),
      .ret (add (L nAhead) (sm .wAtom []))]
  | .wNumber => [
      .asg nFirst atE,
      .asg nOctets (sm .wRun [fnE "is_figure" .isFigure]),
      .iff (.bop false [.cmp .Eq (lenE (L nOctets)) (.ki 0), .cmp .Gt (lenE (L nOctets)) MOST_FIGURES]) [raiseW "no number"] [],
      .ret (ntup .numberOfFigures "number_of_figures" [L nOctets])]
  | .wQuoted => [
      .expr (sm .wNeed [.kx [34], .ks (S "a quote is missing")]),
      .asg nFound (.call (tyE "bytearray") []),
      .wh (.cmp .NotEq (sm .wPeek []) QUOTE) [
        .iff (.cmp .Eq (sm .wPeek []) BACKSLASH) [
          setAt (plus1 atE),
          .iff (.bop true [.cmp .NotEq (sm .wPeek []) QUOTE, .cmp .NotEq (sm .wPeek []) BACKSLASH]) [raiseF "a backslash ahead of another sign"] []] [],
        .iff (.bop false [.cmp .Lt (sm .wPeek []) (.ki 1), .cmp .Gt (sm .wPeek []) (.ki 127), .cmp .In (sm .wPeek []) CRLF]) [raiseF "no octet of a quoted string"] [],
        .expr (.bmeth (L nFound) (S "append") [sm .wPeek []]),
        setAt (plus1 atE)],
      setAt (plus1 atE),
      .ret (.call (tyE "bytes") [L nFound])]
  | .wLiteral => [
      .expr (sm .wNeed [.kx [123], .ks (S "a literal is missing")]),
      .asg nOctets (sm .wRun [fnE "is_figure" .isFigure]),
      .iff (.bop false [.cmp .Eq (lenE (L nOctets)) (.ki 0), .cmp .Gt (lenE (L nOctets)) MOST_COUNT_FIGURES]) [raiseF "no count of a literal"] [],
      .expr (sm .wSkip [.kx [43]]),
      .expr (sm .wNeed [add (.kx [125]) CRLF, .ks (S "no head of a literal")]),
      .asg nEnd (add atE (ntup .numberOfFigures "number_of_figures" [L nOctets])),
      .iff (.cmp .Gt (L nEnd) (lenE dataE)) [raiseF "octets of a literal are missing"] [],
      .asg nFound (sl dataE atE (L nEnd)),
      setAt (L nEnd),
      .ret (.call (tyE "bytes") [L nFound])]
  | .wString => [.ret (.ite (.cmp .Eq (sm .wPeek []) (.ki 123)) (sm .wLiteral []) (sm .wQuoted []))]
  | .wStringOr => [
      .iff (.bop false [.cmp .Eq (sm .wPeek []) QUOTE, .cmp .Eq (sm .wPeek []) (.ki 123)]) [.ret (sm .wString [])] [],
      .asg nOctets (sm .wRun [L nFits]),
      .iff (.cmp .Eq (lenE (L nOctets)) (.ki 0)) [raiseF "a string is missing"] [],
      .ret (.call (tyE "bytes") [L nOctets])]
  | .wAstring => [.ret (sm .wStringOr [fnE "is_astring_code" .isAstringCode])]
  | .wNstring => [
      .asg nFirst atE,
      .iff (.bop false [.cmp .Eq (sm .wPeek []) QUOTE, .cmp .Eq (sm .wPeek []) (.ki 123)]) [.ret (sm .wString [])] [],
      .iff (.cmp .NotEq (ntup .lower "lower" [sm .wRun [fnE "is_atom_code" .isAtomCode]]) (.kx [110, 105, 108])) [raiseW "a string or NIL is missing"] [],
      .ret .kn]
  | .wListOf => [
      .expr (sm .wNeed [.kx [40], .ks (S "a list is missing")]),
      .asg nFound (.list []),
      .iff (sm .wSkip [.kx [41]]) [.ret (L nFound)] [],
      .expr (.bmeth (L nFound) (S "append") [.call (L nRead) []]),
      .wh (.not (sm .wSkip [.kx [41]])) [
        .expr (sm .wSpace []),
        .expr (.bmeth (L nFound) (S "append") [.call (L nRead) []])],
      .ret (L nFound)]
  | .wPlain => [
      .asg nFirst atE,
      .asg nOctets (sm .wRun [fnE "is_value_code" .isValueCode]),
      .iff (.cmp .Eq (lenE (L nOctets)) (.ki 0)) [raiseF "a value is missing"] [],
      .iff (.cmp .Eq (ntup .lower "lower" [L nOctets]) (.kx [110, 105, 108])) [.ret .kn] [],
      .iff (.call (blE "all") [.comp (ntup .isFigure "is_figure" [L nCode]) nCode (L nOctets)]) [
        .iff (.cmp .Gt (lenE (L nOctets)) MOST_FIGURES) [raiseW "no number"] [],
        .ret (ntup .numberOfFigures "number_of_figures" [L nOctets])] [],
      .ret (.call (.glob (S "Atom") (.ref clsAtom)) [ntup .asciiText "ascii_text" [L nOctets]])]
  | .wValue => [
      .iff (.bop false [.cmp .Eq (sm .wPeek []) QUOTE, .cmp .Eq (sm .wPeek []) (.ki 123)]) [.ret (sm .wString [])] [],
      .iff (.cmp .NotEq (sm .wPeek []) (.ki 40)) [.ret (sm .wPlain [])] [],
      .iff (.cmp .Eq (L nDepth) MOST_DEPTH) [raiseF "lists nest too deep"] [],
      .expr (sm .wSkip [.kx [40]]),
      .asg nFound (.list []),
      .wh (.not (sm .wSkip [.kx [41]])) [
        .iff (.cmp .Gt (lenE (L nFound)) (.ki 0)) [.expr (sm .wSpace [])] [],
        .expr (.bmeth (L nFound) (S "append") [sm .wValue [plus1 (L nDepth)]])],
      .ret (L nFound)]
  | .lTake => [
      .asg nWorth (.bin .Mod (.sub (L nBag) (.ki 0)) (L nMany)),
      .asgI (L nBag) (.ki 0) (.bin .FloorDiv (.sub (L nBag) (.ki 0)) (L nMany)),
      .ret (L nWorth)]
  | .lBag => [
      .asg nNumber (.ki 7),
      .for_ nCell (.slice (L nScript) none (some (.ki 24))) [.asg nNumber (add (.bin .Mult (L nNumber) (.ki 1000033)) (.bin .Mod (L nCell) (.bin .Pow (.ki 10) (.ki 120))))],
      .iff (.cmp .Lt (L nNumber) (.bin .Pow (.ki 10) (.ki 50))) [.asg nNumber (.bin .Pow (L nNumber) (.ki 7))] [],
      .ret (.list [L nNumber])]
  | .lOctets => [
      .asg nPieces (.list [.kx [40], .kx [41], .kx [32], .kx [34], .kx [92], .kx [110, 105, 108], .kx [78, 73, 76], .kx [97], .kx [55], .kx [123, 49, 125, 13, 10], .kx [123, 51, 43, 125, 13, 10], .kx [123, 48, 125, 13, 10], .kx [123, 57, 57, 125, 13, 10]]),
      .asg nPieces (add (L nPieces) (.list [.kx [123, 50, 125], .kx [123, 43, 125], .kx [123, 49, 50, 51, 52, 53, 54, 55, 56, 57, 48, 49, 125, 13, 10], .kx [49, 50, 51, 52, 53, 54, 55, 56, 57, 48, 49, 50, 51, 52, 53, 54, 55, 56, 57], .kx [48], .kx [98, 42, 37], .kx [93], .kx [43], .kx [13], .kx [10], .kx [125]])),
      .asg nPieces (add (L nPieces) (.list [.call (tyE "bytes") [.list [.ki 0]], .call (tyE "bytes") [.list [.ki 127]], .call (tyE "bytes") [.list [.ki 255]], .kx [123], .kx [58], .kx [44], .kx [92, 34], .kx [34, 120, 34]])),
      .asg nFound (.bin .Mult (.kx [40]) (.sub (.list [.ki 0, .ki 0, .ki 0, .ki 1, .ki 2, .ki 29, .ki 30, .ki 31]) (ntup .lTake "_law_take" [L nBag, .ki 8]))),
      .for_ nTurn (.call (tyE "range") [add (.ki 1) (ntup .lTake "_law_take" [L nBag, .ki 16])]) [
        .asg nFound (add (L nFound) (.sub (L nPieces) (ntup .lTake "_law_take" [L nBag, .ki 32])))],
      .ret (L nFound)]
  | .lRun => [
      .wh (.bop true [.cmp .Lt (L nAt) (lenE (L nData)), .cmp2 .LtE .LtE (.ki 33) (dl (L nAt)) (.ki 126), .cmp .NotIn (dl (L nAt)) (L nBarred)]) [.asg nAt (plus1 (L nAt))],
      .ret (L nAt)]
  | .lFigures => [
      .asg nEnd (L nAt),
      .wh (.bop true [.cmp .Lt (L nEnd) (lenE (L nData)), .cmp2 .LtE .LtE (.ki 48) (dl (L nEnd)) (.ki 57)]) [.asg nEnd (plus1 (L nEnd))],
      .ret (L nEnd)]
  | .lString => [
      .iff (.cmp .Eq at1 (.kx [123])) [
        .asg nEnd (ntup .lFigures "_law_figures" [L nData, plus1 (L nAt)]),
        .iff (.not (.cmp2 .LtE .LtE (.ki 1) (.bin .Sub (.bin .Sub (L nEnd) (L nAt)) (.ki 1)) (.ki 10))) [.ret (fault (L nEnd))] [],
        .asg nCount (.call (tyE "int") [dec (ch (plus1 (L nAt)) (L nEnd))]),
        .iff (.cmp .Eq (ch (L nEnd) (plus1 (L nEnd))) (.kx [43])) [.asg nEnd (plus1 (L nEnd))] [],
        .iff (.cmp .NotEq (ch (L nEnd) (add (L nEnd) (.ki 3))) (.kx [125, 13, 10])) [.ret (fault (L nEnd))] [],
        .iff (.cmp .Gt (add (add (L nEnd) (.ki 3)) (L nCount)) (lenE (L nData))) [.ret (fault (add (L nEnd) (.ki 3)))] [],
        .ret (.tup [.ks (S "string"), ch (add (L nEnd) (.ki 3)) (add (add (L nEnd) (.ki 3)) (L nCount)), add (add (L nEnd) (.ki 3)) (L nCount)])] [],
      .iff (.cmp .NotEq at1 (.kx [34])) [.ret (fault (L nAt))] [],
      .asg nFound (.list []),
      .asg nAt (plus1 (L nAt)),
      .wh (.cmp .NotEq at1 (.kx [34])) [
        .iff (.cmp .Eq at1 (.kx [92])) [
          .asg nAt (plus1 (L nAt)),
          .iff (.inT false true at1 [.kx [34], .kx [92]]) [.ret (fault (L nAt))] []] [],
        .iff (.bop false [.cmp .Eq (L nAt) (lenE (L nData)), .cmp .Eq (dl (L nAt)) (.ki 0), .cmp .Gt (dl (L nAt)) (.ki 127), .inT false false (dl (L nAt)) [.ki 10, .ki 13]]) [.ret (fault (L nAt))] [],
        .expr (.bmeth (L nFound) (S "append") [dl (L nAt)]),
        .asg nAt (plus1 (L nAt))],
      .ret (.tup [.ks (S "string"), .call (tyE "bytes") [L nFound], plus1 (L nAt)])]
  | .lValue => [
      .asg nHead at1,
      .iff (.inT false false (L nHead) [.kx [34], .kx [123]]) [
        .asg nFound (ntup .lString "_law_string" [L nData, L nAt]),
        .ret (.ite (.cmp .Eq (.sub (L nFound) (.ki 0)) (.ks (S "fault"))) (L nFound) (.tup [.tup [.ks (S "string"), .sub (L nFound) (.ki 1)], .sub (L nFound) (.ki 2)]))] [],
      .iff (.cmp .Eq (L nHead) (.kx [40])) [
        .iff (.cmp .Eq (L nDepth) (.ki 30)) [.ret (fault (L nAt))] [],
        .asg nSome (.list []),
        .asg nAt (plus1 (L nAt)),
        .wh (.cmp .NotEq at1 (.kx [41])) [
          .iff (.cmp .NotEq (L nSome) (.list [])) [
            .iff (.cmp .NotEq at1 (.kx [32])) [.ret (fault (L nAt))] [],
            .asg nAt (plus1 (L nAt))] [],
          .asg nFound (ntup .lValue "_law_value" [L nData, L nAt, plus1 (L nDepth)]),
          .iff (.cmp .Eq (.sub (L nFound) (.ki 0)) (.ks (S "fault"))) [.ret (L nFound)] [],
          .expr (.bmeth (L nSome) (S "append") [.sub (L nFound) (.ki 0)]),
          .asg nAt (.sub (L nFound) (.ki 1))],
        .ret (.tup [.tup [.ks (S "list"), .call (tyE "tuple") [L nSome]], plus1 (L nAt)])] [],
      .asg nEnd (ntup .lRun "_law_run" [L nData, L nAt, .kx [40, 41, 123, 34, 93]]),
      .iff (.cmp .Eq (L nEnd) (L nAt)) [.ret (fault (L nAt))] [],
      .iff (.cmp .Eq (.bmeth (dec (ch (L nAt) (L nEnd))) (S "lower") []) (.ks (S "nil"))) [.ret (.tup [.tup [.ks (S "nil")], L nEnd])] [],
      .iff (.cmp .Eq (ntup .lFigures "_law_figures" [L nData, L nAt]) (L nEnd)) [
        .ret (.ite (.cmp .LtE (.bin .Sub (L nEnd) (L nAt)) (.ki 19)) (.tup [.tup [.ks (S "number"), .call (tyE "int") [dec (ch (L nAt) (L nEnd))]], L nEnd]) (fault (L nAt)))] [],
      .ret (.tup [.tup [.ks (S "atom"), dec (ch (L nAt) (L nEnd))], L nEnd])]
  | .lNumber => [
      .asg nEnd (ntup .lFigures "_law_figures" [L nData, L nAt]),
      .ret (.ite (.cmp2 .LtE .LtE (.ki 1) (.bin .Sub (L nEnd) (L nAt)) (.ki 19)) (.tup [.call (tyE "int") [dec (ch (L nAt) (L nEnd))], L nEnd]) (fault (L nAt)))]
  | .lAstring => [
      .iff (.inT false false at1 [.kx [34], .kx [123]]) [
        .asg nFound (ntup .lString "_law_string" [L nData, L nAt]),
        .ret (.ite (.cmp .Eq (.sub (L nFound) (.ki 0)) (.ks (S "fault"))) (L nFound) (.slice (L nFound) (some (.ki 1)) none))] [],
      .asg nEnd (ntup .lRun "_law_run" [L nData, L nAt, .kx [40, 41, 123, 37, 42, 34, 92]]),
      .ret (.ite (.cmp .Gt (L nEnd) (L nAt)) (.tup [ch (L nAt) (L nEnd), L nEnd]) (fault (L nAt)))]
  | .lNstring => [
      .iff (.inT false false at1 [.kx [34], .kx [123]]) [.ret (ntup .lAstring "_law_astring" [L nData, L nAt])] [],
      .asg nEnd (ntup .lRun "_law_run" [L nData, L nAt, .kx [40, 41, 123, 37, 42, 34, 92, 93]]),
      .ret (.ite (.cmp .Eq (.bmeth (dec (ch (L nAt) (L nEnd))) (S "lower") []) (.ks (S "nil"))) (.tup [.kn, L nEnd]) (fault (L nAt)))]
  | .lFlag => [
      .asg nFirst (.ite (.cmp .Eq at1 (.kx [92])) (plus1 (L nAt)) (L nAt)),
      .asg nEnd (ntup .lRun "_law_run" [L nData, L nFirst, .kx [40, 41, 123, 37, 42, 34, 92, 93]]),
      .ret (.ite (.cmp .Gt (L nEnd) (L nFirst)) (.tup [dec (ch (L nAt) (L nEnd)), L nEnd]) (fault (L nFirst)))]
  | .lSet => [
      .asg nEnd (L nAt),
      .wh (.bop true [.cmp .Lt (L nEnd) (lenE (L nData)), .inT true false (ch (L nEnd) (plus1 (L nEnd))) [.kx [58], .kx [44], .kx [42], .kx [48], .kx [49], .kx [50], .kx [51], .kx [52], .kx [53], .kx [54], .kx [55], .kx [56], .kx [57]]]) [.asg nEnd (plus1 (L nEnd))],
      .ret (.ite (.cmp .Gt (L nEnd) (L nAt)) (.tup [dec (ch (L nAt) (L nEnd)), L nEnd]) (fault (L nAt)))]
  | .lNumbers => [
      .iff (.cmp .NotEq at1 (.kx [40])) [.ret (fault (L nAt))] [],
      .asg nSome (.list []),
      .asg nAt (plus1 (L nAt)),
      .wh (.cmp .NotEq at1 (.kx [41])) [
        .iff (.cmp .NotEq (L nSome) (.list [])) [
          .iff (.cmp .NotEq at1 (.kx [32])) [.ret (fault (L nAt))] [],
          .asg nAt (plus1 (L nAt))] [],
        .asg nFound (ntup .lNumber "_law_number" [L nData, L nAt]),
        .iff (.cmp .Eq (.sub (L nFound) (.ki 0)) (.ks (S "fault"))) [.ret (L nFound)] [],
        .expr (.bmeth (L nSome) (S "append") [.sub (L nFound) (.ki 0)]),
        .asg nAt (.sub (L nFound) (.ki 1))],
      .ret (.tup [L nSome, plus1 (L nAt)])]
  | .lAsked => [.ret (.tup [.call (L nDeed) [], .attr (L nWire) nAt])]
  | .lam0 | .lam1 => []
noncomputable def lamBody : Nat → IE
  | 0 => .call (fnE "told_value" .toldValue) [.meth (.cv nWire) .wValue []]
  | _ => .meth (.cv nWire) .wListOf [.bm (.cv nWire) .wNumber]
noncomputable def lawBody : List IS := [
  .asg nBag (ntup .lBag "_law_bag" [L nScript]),
  .asg nData (ntup .lOctets "_law_octets" [L nBag]),
  .asg nAt (.bin .Mod (ntup .lTake "_law_take" [L nBag, .ki 3]) (add (lenE (L nData)) (.ki 1))),
  .asgC nWire (.call (.glob (S "Wire") (.ref clsWire)) [L nData, L nAt]),
  .iff (.cmp .NotEq (ntup .lAsked "_law_asked" [.cv nWire, .lam .lam0]) (ntup .lValue "_law_value" [L nData, L nAt, .ki 0])) [.ret (.kb false)] [],
  .for_ nWay (.call (tyE "range") [.ki 7]) [
    .asgC nWire (.call (.glob (S "Wire") (.ref clsWire)) [L nData, L nAt]),
    .asg nAsked (.sub (.list [.bm (.cv nWire) .wNstring, .bm (.cv nWire) .wAstring, .bm (.cv nWire) .wNumber, .bm (.cv nWire) .wString, .bm (.cv nWire) .wFlag, .bm (.cv nWire) .wSetText, .lam .lam1]) (L nWay)),
    .asg nDue (ntup .lString "_law_string" [L nData, L nAt]),
    .iff (.cmp .NotEq (L nWay) (.ki 3)) [
      .asg nDue (.call (.sub (.list [fnE "_law_nstring" .lNstring, fnE "_law_astring" .lAstring, fnE "_law_number" .lNumber, fnE "_law_number" .lNumber, fnE "_law_flag" .lFlag, fnE "_law_set" .lSet, fnE "_law_numbers" .lNumbers]) (L nWay)) [L nData, L nAt])] [
      .iff (.cmp .NotEq (.sub (L nDue) (.ki 0)) (.ks (S "fault"))) [.asg nDue (.slice (L nDue) (some (.ki 1)) none)] []],
    .iff (.cmp .NotEq (ntup .lAsked "_law_asked" [.cv nWire, L nAsked]) (L nDue)) [.ret (.kb false)] []],
  .ret (.kb true)]
end
/-- the methods -/
noncomputable def mname : F → Str
  | .wFault => "fault" | .wPeek => "peek" | .wSkip => "skip" | .wNeed => "need" | .wSpace => "space" | .wRun => "run" | .wWordOf => "word_of" | .wAtom => "atom" | .wSetText => "set_text" | .wFlag => "flag"
  | .wNumber => "number" | .wQuoted => "quoted" | .wLiteral => "literal" | .wString => "string" | .wStringOr => "string_or" | .wAstring => "astring" | .wNstring => "nstring" | .wListOf => "list_of" | .wPlain => "plain_value" | .wValue => "value"
  | .atomTold => "told" | _ => ""
noncomputable def methF : List F := [.wFault, .wPeek, .wSkip, .wNeed, .wSpace, .wRun, .wWordOf, .wAtom, .wSetText, .wFlag, .wNumber, .wQuoted, .wLiteral, .wString, .wStringOr, .wAstring, .wNstring, .wListOf, .wPlain, .wValue, .atomTold]
/-- the law's own code object -/
noncomputable def lawCode : Addr := 470
noncomputable def notStar (e : Expr) : Bool := !(e.ctorIdx == 22)
noncomputable def bop (an : Bool) : BoolOp := if an then .And else .Or
/-- no super() -/
noncomputable def plainBase (e : Expr) : Bool := if h : e.ctorIdx = 16 then Expr.Call.elim (motive_1 := fun _ => Bool) e h (fun f _ _ _ => !(f.ctorIdx == 23)) else true
noncomputable def notAttr (e : Expr) : Bool := !(e.ctorIdx == 20)
/-- what the scope of a comprehension has to be -/
noncomputable def compSc (scope : Scope) : Bool := !(scope.names.lookup N.nAsked.str).isSome && (scope.kind == .function && scope.names.all fun p => p.2 != .free && p.2 != .cell && (p.2 != .local || scope.names.lookup p.1 == some .local))
noncomputable def notComp (e : Expr) : Bool := !(e.ctorIdx == 8 || e.ctorIdx == 9 || e.ctorIdx == 10)
structure LamD where
  params : Arguments
  body : Expr
  scope : Scope
  pos : Pos
noncomputable abbrev excN : String := "Exception.__new__"
noncomputable def isRf (v : Value) : Bool := v.ctorIdx == 10
noncomputable def topMro : List Value := [.type "Exception", .type "BaseException", .type "object"]
noncomputable def mroPass : List Value → Bool
  | [] => false
  | v :: r => decide (v :: r = topMro) || (isRf v && mroPass r)
noncomputable def excOver (K : Frag) (C : Addr) : Bool := (clsIn K C).any fun cd => mroPass cd.mro
noncomputable def vasInt : V → Option Int | .int a => some a | _ => none
noncomputable def vasBytes : V → Option (List UInt8) | .bytes a => some a | _ => none
noncomputable def vasRef : V → Option Addr | .ref a => some a | _ => none
noncomputable def vasType : V → Option String | .type a => some a | _ => none
noncomputable def vasBlt : V → Option String | .builtin a => some a | _ => none
noncomputable def vEq (a b : V) : Bool := match a with
  | .int x => vasInt b == some x | .bytes x => vasBytes b == some x | .ref x => vasRef b == some x | .type x => vasType b == some x | .builtin x => vasBlt b == some x | _ => false
noncomputable def fEq (a b : F) : Bool := a.ctorIdx == b.ctorIdx
noncomputable def isLamF (f : F) : Bool := fEq f .lam0 || fEq f .lam1
noncomputable def notSet (e : Expr) : Bool := !(e.ctorIdx == 7)
noncomputable def l1 {α : Type} : List α → Option α | [] => none | a :: r => if r.isEmpty then some a else none
noncomputable def l2 {α : Type} : List α → Option (α × α) | [] => none | a :: r => (l1 r).map fun b => (a, b)
noncomputable def xKon (e : Expr) : Option (Const) := if h : e.ctorIdx = 19 then Expr.Constant.elim (motive_1 := fun _ => Option (Const)) e h (fun c _ _ => some c) else none
noncomputable def xName (e : Expr) : Option (Str) := if h : e.ctorIdx = 23 then Expr.Name.elim (motive_1 := fun _ => Option (Str)) e h (fun y _ => some y) else none
noncomputable def xAttr (e : Expr) : Option (Expr × Str × Pos) := if h : e.ctorIdx = 20 then Expr.Attribute.elim (motive_1 := fun _ => Option (Expr × Str × Pos)) e h (fun a y p => some (a, y, p)) else none
noncomputable def xCall (e : Expr) : Option (Expr × List Expr × List Keyword × Pos) := if h : e.ctorIdx = 16 then Expr.Call.elim (motive_1 := fun _ => Option (Expr × List Expr × List Keyword × Pos)) e h (fun f a k p => some (f, a, k, p)) else none
noncomputable def xBin (e : Expr) : Option (Expr × Operator × Expr) := if h : e.ctorIdx = 2 then Expr.BinOp.elim (motive_1 := fun _ => Option (Expr × Operator × Expr)) e h (fun a o b _ => some (a, o, b)) else none
noncomputable def xCmp (e : Expr) : Option (Expr × List CmpOp × List Expr) := if h : e.ctorIdx = 15 then Expr.Compare.elim (motive_1 := fun _ => Option (Expr × List CmpOp × List Expr)) e h (fun a o b _ => some (a, o, b)) else none
noncomputable def xBop (e : Expr) : Option (BoolOp × List Expr) := if h : e.ctorIdx = 0 then Expr.BoolOp.elim (motive_1 := fun _ => Option (BoolOp × List Expr)) e h (fun o a _ => some (o, a)) else none
noncomputable def xUn (e : Expr) : Option (UnaryOp × Expr) := if h : e.ctorIdx = 3 then Expr.UnaryOp.elim (motive_1 := fun _ => Option (UnaryOp × Expr)) e h (fun o a _ => some (o, a)) else none
noncomputable def xIf (e : Expr) : Option (Expr × Expr × Expr) := if h : e.ctorIdx = 5 then Expr.IfExp.elim (motive_1 := fun _ => Option (Expr × Expr × Expr)) e h (fun a b c _ => some (a, b, c)) else none
noncomputable def xSub (e : Expr) : Option (Expr × Expr) := if h : e.ctorIdx = 21 then Expr.Subscript.elim (motive_1 := fun _ => Option (Expr × Expr)) e h (fun a b _ => some (a, b)) else none
noncomputable def xSli (e : Expr) : Option (Option Expr × Option Expr × Option Expr) := if h : e.ctorIdx = 26 then Expr.Slice.elim (motive_1 := fun _ => Option (Option Expr × Option Expr × Option Expr)) e h (fun a b c _ => some (a, b, c)) else none
noncomputable def xList (e : Expr) : Option (List Expr) := if h : e.ctorIdx = 24 then Expr.List.elim (motive_1 := fun _ => Option (List Expr)) e h (fun a _ => some a) else none
noncomputable def xTup (e : Expr) : Option (List Expr) := if h : e.ctorIdx = 25 then Expr.Tuple.elim (motive_1 := fun _ => Option (List Expr)) e h (fun a _ _ => some a) else none
noncomputable def xLc (e : Expr) : Option (Expr × List Comprehension × Scope) := if h : e.ctorIdx = 8 then Expr.ListComp.elim (motive_1 := fun _ => Option (Expr × List Comprehension × Scope)) e h (fun a g s _ => some (a, g, s)) else none
noncomputable def xLam (e : Expr) : Option (Arguments × Expr × Scope × Pos) := if h : e.ctorIdx = 4 then Expr.Lambda.elim (motive_1 := fun _ => Option (Arguments × Expr × Scope × Pos)) e h (fun a b s p => some (a, b, s, p)) else none
noncomputable def yAsg (e : Stmt) : Option (List Expr × Expr) := if h : e.ctorIdx = 5 then Stmt.Assign.elim (motive_2 := fun _ => Option (List Expr × Expr)) e h (fun a b _ => some (a, b)) else none
noncomputable def yExpr (e : Stmt) : Option (Expr) := if h : e.ctorIdx = 24 then Stmt.Expr.elim (motive_2 := fun _ => Option (Expr)) e h (fun a _ => some a) else none
noncomputable def yIf (e : Stmt) : Option (Expr × List Stmt × List Stmt) := if h : e.ctorIdx = 12 then Stmt.If.elim (motive_2 := fun _ => Option (Expr × List Stmt × List Stmt)) e h (fun a b c _ => some (a, b, c)) else none
noncomputable def yWh (e : Stmt) : Option (Expr × List Stmt × List Stmt) := if h : e.ctorIdx = 11 then Stmt.While.elim (motive_2 := fun _ => Option (Expr × List Stmt × List Stmt)) e h (fun a b c _ => some (a, b, c)) else none
noncomputable def yFor (e : Stmt) : Option (Expr × Expr × List Stmt × List Stmt) := if h : e.ctorIdx = 9 then Stmt.For.elim (motive_2 := fun _ => Option (Expr × Expr × List Stmt × List Stmt)) e h (fun a b c d _ => some (a, b, c, d)) else none
noncomputable def yRet (e : Stmt) : Option (Option Expr) := if h : e.ctorIdx = 3 then Stmt.Return.elim (motive_2 := fun _ => Option (Option Expr)) e h (fun a _ => some a) else none
noncomputable def yRai (e : Stmt) : Option (Option Expr × Option Expr) := if h : e.ctorIdx = 16 then Stmt.Raise.elim (motive_2 := fun _ => Option (Option Expr × Option Expr)) e h (fun a b _ => some (a, b)) else none
noncomputable def yTry (e : Stmt) : Option (List Stmt × List ExceptHandler × List Stmt × List Stmt) := if h : e.ctorIdx = 17 then Stmt.Try.elim (motive_2 := fun _ => Option (List Stmt × List ExceptHandler × List Stmt × List Stmt)) e h (fun a b c d _ => some (a, b, c, d)) else none
section
variable (gt : List (Str × V)) (lamOk : Nat → Arguments → Expr → Scope → Pos → Bool)
noncomputable abbrev Sc := List (Str × NameKind)
mutual
noncomputable def embE : Sc → IE → Expr → Bool
  | sc, .kn, e => decide (xKon e = some .none)
  | sc, .kb b, e => decide (xKon e = some (.bool b))
  | sc, .ki b, e => decide (xKon e = some (.int b))
  | sc, .ks b, e => decide (xKon e = some (.str b))
  | sc, .kx b, e => decide (xKon e = some (.bytes b))
  | sc, .loc x, e => (xName e).any fun y => y == x.str && sc.lookup y == some .local
  | sc, .cv x, e => (xName e).any fun y => x.nat == 30 && y == x.str && (sc.lookup y == some .cell || sc.lookup y == some .free)
  | sc, .glob x v, e => (xName e).any fun y => y == x && sc.lookup x == some .globalImplicit && !(x == ("__debug__" : Str)) && gt.any fun p => p.1 == x && vEq p.2 v
  | sc, .attr a x, e => (xAttr e).any fun t => t.2.1 == x.str && plainBase t.1 && embE sc a t.1
  | sc, .bm a f, e => (xAttr e).any fun t => methF.any (fEq f) && mcls f == clsWire && t.2.1 == mname f && plainBase t.1 && embE sc a t.1
  | sc, .call f is, e => (xCall e).any fun t => t.2.2.1.isEmpty && notAttr t.1 && t.2.1.all notStar && embE sc f t.1 && embEs sc is t.2.1
  | sc, .meth o f is, e => (xCall e).any fun t => (xAttr t.1).any fun a =>
      t.2.2.1.isEmpty && methF.any (fEq f) && allF.any (fEq f) && a.2.1 == mname f && a.2.2.endLine == t.2.2.2.line && plainBase a.1 && t.2.1.all notStar && Nat.ble t.2.1.length 5 && embE sc o a.1 && embEs sc is t.2.1
  | sc, .bmeth o x is, e => (xCall e).any fun t => (xAttr t.1).any fun a =>
      t.2.2.1.isEmpty && a.2.1 == x && a.2.2.endLine == t.2.2.2.line && plainBase a.1 && t.2.1.all notStar && Nat.ble t.2.1.length 5 && embE sc o a.1 && embEs sc is t.2.1
  | sc, .bin op a b, e => (xBin e).any fun t => decide (op = t.2.1) && embE sc a t.1 && embE sc b t.2.2
  | sc, .cmp op a b, e => (xCmp e).any fun t => (l1 t.2.2).any fun eb => decide (t.2.1 = [op]) && !behindInMarks op eb && embE sc a t.1 && embE sc b eb
  | sc, .cmp2 o₁ o₂ a b c, e => (xCmp e).any fun t => (l2 t.2.2).any fun r => decide (t.2.1 = [o₁, o₂]) && !behindInMarks o₂ r.2 && embE sc a t.1 && embE sc b r.1 && embE sc c r.2
  | sc, .inT lst neg a is, e => (xCmp e).any fun t => (l1 t.2.2).any fun d => (if lst then xList d else xTup d).any fun es =>
      decide (t.2.1 = [if neg then .NotIn else .In]) && Nat.ble es.length 1000 && embE sc a t.1 && embEs sc is es
  | sc, .isNone a, e => (xCmp e).any fun t => (l1 t.2.2).any fun d => decide (xKon d = some .none) && decide (t.2.1 = [.Is]) && embE sc a t.1
  | sc, .bop an is, e => (xBop e).any fun t => decide (t.1 = bop an) && !t.2.isEmpty && embEs sc is t.2
  | sc, .not a, e => (xUn e).any fun t => decide (t.1 = .Not) && embE sc a t.2
  | sc, .neg a, e => (xUn e).any fun t => decide (t.1 = .USub) && embE sc a t.2
  | sc, .ite c a b, e => (xIf e).any fun t => embE sc c t.1 && embE sc a t.2.1 && embE sc b t.2.2
  | sc, .sub o i, e => (xSub e).any fun t => embE sc o t.1 && embE sc i t.2
  | sc, .slice o l u, e => (xSub e).any fun t => (xSli t.2).any fun r => r.2.2.isNone && embE sc o t.1 && embO sc l r.1 && embO sc u r.2.1
  | sc, .tup is, e => (xTup e).any fun es => Nat.ble es.length 1000 && embEs sc is es
  | sc, .list is, e => (xList e).any fun es => Nat.ble es.length 1000 && embEs sc is es
  | sc, .comp a x src, e => (xLc e).any fun t => (l1 t.2.1).any fun g => decide (xName g.target = some x.str) && g.ifs.isEmpty && g.is_async == 0 && compSc t.2.2 && t.2.2.names.lookup x.str == some .local && notSet g.iter && embE sc src g.iter && embE t.2.2.names a t.1
  | sc, .lam f, e => (xLam e).any fun t => isLamF f && (sc.lookup N.nAsked.str).isSome && lamOk (lamNo f) t.1 t.2.1 t.2.2.1 t.2.2.2
noncomputable def embEs : Sc → List IE → List Expr → Bool
  | sc, [], es => es.isEmpty
  | sc, i :: is, es => es.head?.any fun e => notStar e && embE sc i e && embEs sc is es.tail
noncomputable def embO : Sc → Option IE → Option Expr → Bool
  | sc, none, e => e.isNone
  | sc, some i, e => e.any fun e => embE sc i e
end
mutual
noncomputable def embS1 : Sc → IS → Stmt → Bool
  | sc, .asg x a, s => (yAsg s).any fun t => (l1 t.1).any fun tg => decide (xName tg = some x.str) && sc.lookup x.str == some .local && notComp t.2 && embE gt lamOk sc a t.2
  | sc, .asgC x a, s => (yAsg s).any fun t => (l1 t.1).any fun tg => decide (xName tg = some x.str) && x.nat == 30 && sc.lookup x.str == some .cell && notComp t.2 && embE gt lamOk sc a t.2
  | sc, .asgA o x a, s => (yAsg s).any fun t => (l1 t.1).any fun tg => (xAttr tg).any fun r => r.2.1 == x.str && notComp t.2 && embE gt lamOk sc o r.1 && embE gt lamOk sc a t.2
  | sc, .asgI o i a, s => (yAsg s).any fun t => (l1 t.1).any fun tg => (xSub tg).any fun r => notComp t.2 && embE gt lamOk sc o r.1 && embE gt lamOk sc i r.2 && embE gt lamOk sc a t.2
  | sc, .expr a, s => (yExpr s).any fun t => notComp t && embE gt lamOk sc a t
  | sc, .iff c a b, s => (yIf s).any fun t => embE gt lamOk sc c t.1 && embS sc a t.2.1 && embS sc b t.2.2
  | sc, .wh c b, s => (yWh s).any fun t => t.2.2.isEmpty && embE gt lamOk sc c t.1 && embS sc b t.2.1
  | sc, .for_ x src b, s => (yFor s).any fun t => decide (xName t.1 = some x.str) && t.2.2.2.isEmpty && sc.lookup x.str == some .local && notSet t.2.1 && embE gt lamOk sc src t.2.1 && embS sc b t.2.2.1
  | sc, .ret a, s => (yRet s).any fun t => t.any fun e => embE gt lamOk sc a e
  | sc, .raise a, s => (yRai s).any fun t => t.1.any fun e => t.2.isNone && embE gt lamOk sc a e
  | sc, .try_ _ _ _, s => false
noncomputable def embS : Sc → List IS → List Stmt → Bool
  | sc, [], ss => ss.isEmpty
  | sc, i :: is, ss => ss.head?.any fun s => embS1 sc i s && embS sc is ss.tail
end
end
noncomputable def plainF : List F := [.lowerCode, .lower, .asciiText, .atomInit, .atomTold, .toldValue, .isPrintable, .isAtomCode, .isAstringCode, .isValueCode, .isSetCode, .isFigure, .numberOfFigures,
  .wInit, .wFault, .wPeek, .wSkip, .wNeed, .wSpace, .wRun, .wWordOf, .wAtom, .wSetText, .wFlag, .wNumber, .wQuoted, .wLiteral, .wString, .wStringOr, .wAstring, .wNstring, .wListOf, .wPlain, .wValue,
  .lTake, .lBag, .lOctets, .lRun, .lFigures, .lString, .lValue, .lNumber, .lAstring, .lNstring, .lFlag, .lSet, .lNumbers]
noncomputable def dFn (d : Data) : Option (FuncData) := if h : d.ctorIdx = 7 then Data.func.elim (motive := fun _ => Option (FuncData)) d h (fun fd => some fd) else none
noncomputable def funAt (K : Frag) (a : Addr) : Option FuncData := (K.lookup a).bind fun o => dFn o.data
noncomputable def bodyOf (fd : FuncData) : List Stmt := match fd.body with | .stmts b => b | _ => []
noncomputable def bodyA (K : Frag) (a : Addr) : List Stmt := match funAt K a with | some fd => bodyOf fd | none => []
noncomputable def scA (K : Frag) (a : Addr) : List (Str × NameKind) := match funAt K a with | some fd => fd.scope.names | none => []
noncomputable abbrev bodyAt (K : Frag) (f : F) : List Stmt := bodyA K f.addr
noncomputable abbrev scAt (K : Frag) (f : F) : List (Str × NameKind) := scA K f.addr
/-- PostError.__init__ -/
noncomputable def initA : Addr := 36
noncomputable def xNm (e : Expr) : Option (Str × Pos) := if h : e.ctorIdx = 23 then Expr.Name.elim (motive_1 := fun _ => Option (Str × Pos)) e h (fun y p => some (y, p)) else none
noncomputable def eqs (f : Expr → Expr → Bool) : List Expr → List Expr → Bool
  | [], bs => bs.isEmpty
  | a :: as, bs => bs.head?.any fun b => f a b && eqs f as bs.tail
noncomputable def eqX : Nat → Expr → Expr → Bool
  | 0, _, _ => false
  | n + 1, a, b => ((xNm a).any fun s => decide (xNm b = some s)) || ((xAttr a).any fun s => (xAttr b).any fun t => s.2.1 == t.2.1 && decide (s.2.2 = t.2.2) && eqX n s.1 t.1) ||
      ((xCall a).any fun s => (xCall b).any fun t => s.2.2.1.isEmpty && t.2.2.1.isEmpty && decide (s.2.2.2 = t.2.2.2) && eqX n s.1 t.1 && eqs (eqX n) s.2.1 t.2.1)
noncomputable def emptyA (a : Arguments) : Bool := a.posonlyargs.isEmpty && a.args.isEmpty && a.vararg.isNone && a.kwonlyargs.isEmpty && a.kw_defaults.isEmpty && a.kwarg.isNone && a.defaults.isEmpty
/-- the two lambdas of law's body -/
noncomputable def lamsOf (ss : List Stmt) : Option (LamD × LamD) := (ss[4]?).bind fun s4 => (ss[5]?).bind fun s5 => (yIf s4).bind fun i => (xCmp i.1).bind fun c => (xCall c.1).bind fun k => (k.2.1[1]?).bind fun l => (xLam l).bind fun u =>
  (yFor s5).bind fun f => (f.2.2.1[1]?).bind fun a => (yAsg a).bind fun q => (xSub q.2).bind fun z => (xList z.1).bind fun es => es.getLast?.bind fun m => (xLam m).bind fun v => some (⟨u.1, u.2.1, u.2.2.1, u.2.2.2⟩, ⟨v.1, v.2.1, v.2.2.1, v.2.2.2⟩)
noncomputable def DK (d : LamD × LamD) : Nat → LamD | 0 => d.1 | _ => d.2
noncomputable def lamOkD (d : LamD × LamD) (k : Nat) (params : Arguments) (body : Expr) (scope : Scope) (pos : Pos) : Bool :=
  emptyA params && emptyA (DK d k).params && eqX 9 body (DK d k).body && decide (scope = (DK d k).scope) && decide (pos = (DK d k).pos)
noncomputable def lamNames (k : Nat) : List (Str × NameKind) := match k with | 0 => [(N.nWire.str, .free), ("told_value", .globalImplicit)] | _ => [(N.nWire.str, .free)]
noncomputable def lamGood (d : LamD × LamD) (k : Nat) : Bool :=
  emptyA (DK d k).params && decide ((DK d k).scope.kind = .function) && !(DK d k).scope.isCoroutine && !(DK d k).scope.isGenerator && decide ((DK d k).scope.names = lamNames k)
noncomputable def dFl (d : Data) : Option (Array Value) := if h : d.ctorIdx = 9 then Data.fields.elim (motive := fun _ => Option (Array Value)) d h (fun vs => some vs) else none
noncomputable def dSq (d : Data) : Option (Array Value × Nat) := if h : d.ctorIdx = 2 then Data.seq.elim (motive := fun _ => Option (Array Value × Nat)) d h (fun vs n => some (vs, n)) else none
noncomputable def vRf (d : Value) : Option (Addr) := if h : d.ctorIdx = 10 then Value.ref.elim (motive := fun _ => Option (Addr)) d h (fun a => some a) else none
noncomputable def vSt (d : Value) : Option (Str × Tok) := if h : d.ctorIdx = 6 then Value.str.elim (motive := fun _ => Option (Str × Tok)) d h (fun x t' => some (x, t')) else none
noncomputable def isStmts (fd : FuncData) : Bool := match fd.body with | .stmts b => true | _ => false
noncomputable def codeOk (K : Frag) (fd : FuncData) : Bool := (vRf fd.code).any fun c => (K.lookup c).any fun o => (dFl o.data).any fun vs => (vs[1]?).any fun v => (vSt v).any fun q => q.1 == fd.qualname
noncomputable def plainA (a : Arguments) (ps : List Str) : Bool := a.posonlyargs.isEmpty && a.vararg.isNone && a.kwonlyargs.isEmpty && a.kwarg.isNone && a.args.map (·.arg) == ps
noncomputable def dfltOk (K : Frag) (fd : FuncData) (ds : List V) : Bool := match ds with
  | [] => decide (fd.defaults = .none)
  | v :: _ => (vRf fd.defaults).any fun T => (K.lookup T).any fun o => (dSq o.data).any fun x => (l1 x.1.toList).any fun d => vEq (av d) v && ds.tail.isEmpty
noncomputable def baseFn (fd : FuncData) : Bool := isStmts fd && decide (fd.scope.kind = .function) && !fd.scope.isCoroutine && !fd.scope.isGenerator && fd.globals == mainGlobals && fd.builtins == builtinsNs
noncomputable def scopeOk (f : F) (sc : List (Str × NameKind)) : Bool := sc.all (fun x => decide (x.2 ≠ .cell)) && !(sc.lookup N.nAsked.str).isSome && (params f).all fun x => decide (sc.lookup x.str = some .local)
/-- the function f, but for its body -/
noncomputable def fnOk (K : Frag) (f : F) : Bool := match funAt K f.addr with
  | some fd => baseFn fd && codeOk K fd && plainA fd.params ((params f).map N.str) && dfltOk K fd (dflt f) && scopeOk f fd.scope.names
  | none => false
/-- what the names of the top mean -/
noncomputable def gt0 : List (String × V) := [("lower_code", .ref 80), ("lower", .ref 85), ("ascii_text", .ref 95), ("told_value", .ref 128), ("is_printable", .ref 135), ("is_atom_code", .ref 142), ("is_astring_code", .ref 149), ("is_value_code", .ref 156),
  ("is_set_code", .ref 163), ("is_figure", .ref 170), ("number_of_figures", .ref 177), ("_law_take", .ref 373), ("_law_bag", .ref 380), ("_law_octets", .ref 387), ("_law_run", .ref 394), ("_law_figures", .ref 401), ("_law_string", .ref 408),
  ("_law_value", .ref 415), ("_law_number", .ref 422), ("_law_astring", .ref 429), ("_law_nstring", .ref 436), ("_law_flag", .ref 443), ("_law_set", .ref 450), ("_law_numbers", .ref 457), ("_law_asked", .ref 464),
  ("Atom", .ref clsAtom), ("Wire", .ref clsWire), ("WireFault", .ref clsFault), ("WordFault", .ref 59), ("QUOTE", .int 34), ("BACKSLASH", .int 92), ("MOST_DEPTH", .int 30), ("MOST_FIGURES", .int 19), ("MOST_COUNT_FIGURES", .int 10),
  ("CRLF", .bytes [13, 10]), ("SPECIALS", .bytes [40, 41, 123, 37, 42, 34, 92, 93]), ("VALUE_SPECIALS", .bytes [40, 41, 123, 34, 93]),
  ("len", .builtin "len"), ("chr", .builtin "chr"), ("isinstance", .builtin "isinstance"), ("all", .builtin "all"), ("bytes", .type "bytes"), ("bytearray", .type "bytearray"), ("range", .type "range"), ("tuple", .type "tuple"), ("int", .type "int"), ("list", .type "list")]
noncomputable def gt : List (Str × V) := gt0.map fun p => (Str.ofString p.1, p.2)
noncomputable def gtOk (K : Frag) : Bool := gt.all fun p => (nsIn K mainGlobals p.1).any fun r => (r.any fun y => vEq (av y) p.2) || (r.isNone && !(p.1 == ("__name__" : Str)) && (bootBuiltins p.1).any fun y => vEq (av y) p.2)
noncomputable def clsOk (K : Frag) (C : Addr) : Bool := decide (findIn K (.ref C) "__getattribute__" = some (some (.builtin "object.__getattribute__"))) && decide (findIn K (.ref C) "__getattr__" = some none) &&
  decide (findIn K (.ref C) "__setattr__" = some (some (.builtin "object.__setattr__"))) && plainGet K C "__class__" && hasDictIn K C && decide (findIn K (.ref C) "__class__" = some (some (.builtin "object.__class__"))) &&
  decide (mroIn K C (.type "object") = some true) && plainOver K C && makesIn K C
noncomputable def methOk (K : Frag) (f : F) : Bool := decide (findIn K (.ref (mcls f)) (mname f) = some (some (.ref f.addr))) && decide (typeIn K (.ref f.addr) = some (.type "function")) &&
  decide (specialIn K (.ref f.addr) "__get__" = some (some (.builtin "function.__get__"))) && decide (takesIn K (.ref f.addr) = some false)
noncomputable def kf1 (K : Frag) : Bool := (K.lookup 471).isSome && methF.all (methOk K) && allF.all (fun f => fnIn K f.addr) && keepIn K (.ref clsWire) && keepIn K (.ref clsAtom) && keepIn K (.ref clsFault)
noncomputable def kf2 (K : Frag) : Bool := decide (findIn K (.ref clsWire) "at" = some none) && decide (findIn K (.ref clsWire) "data" = some none) && decide (findIn K (.ref clsAtom) "text" = some none) && decide (findIn K (.ref clsFault) "at" = some none) &&
  decide (findIn K (.ref clsFault) "__getattribute__" = some (some (.builtin "BaseException.__getattribute__"))) && decide (findIn K (.ref clsFault) "__getattr__" = some none) && hasDictIn K clsFault &&
  decide (mroIn K clsFault (.type "BaseException") = some true) && decide (typeIn K (.ref clsFault) = some (.type "type"))
noncomputable def kf3 (K : Frag) : Bool := clsOk K clsWire && clsOk K clsAtom && decide (specialIn K (.builtin "object.__class__") "__get__" = some (some (.builtin "getset_descriptor.__get__"))) && decide (takesIn K (.builtin "object.__class__") = some true)
noncomputable def kf4 (K : Frag) : Bool := decide (kitOne K (.ref clsAtom) (.ref clsAtom) = some true) && decide (kitOne K (.ref clsWire) (.ref clsAtom) = some false) && decide (kitOne K (.type "list") (.ref clsAtom) = some false) &&
  decide (kitOne K (.type "tuple") (.ref clsAtom) = some false) && decide (kitOne K (.type "int") (.ref clsAtom) = some false) && decide (kitOne K (.type "bytes") (.ref clsAtom) = some false) && decide (kitOne K (.type "list") (.type "bytes") = some false) &&
  decide (kitOne K (.type "tuple") (.type "bytes") = some false) && decide (kitOne K (.type "int") (.type "bytes") = some false) && decide (kitOne K (.type "bytes") (.type "bytes") = some true)
noncomputable def kf5 (K : Frag) : Bool := decide (kitAny K (.type "list") [.type "list", .type "tuple"] = some true) && decide (kitAny K (.type "tuple") [.type "list", .type "tuple"] = some true) && decide (kitAny K (.type "int") [.type "list", .type "tuple"] = some false)
noncomputable def isLine (x : N) (s : Stmt) : Bool := (yAsg s).any fun t => (l1 t.1).any fun tg => (xAttr tg).any fun r => decide (xName r.1 = some N.nSelf.str) && r.2.1 == x.str && decide (xName t.2 = some x.str)
noncomputable def isWireB (b : List Stmt) : Bool := (l2 b).any fun t => isLine .nData t.1 && isLine .nAt t.2
noncomputable def isAtomB (b : List Stmt) : Bool := (l1 b).any (isLine .nText)
noncomputable def isExc (s : Stmt) : Bool := (yExpr s).any fun e => (xCall e).any fun c => (xAttr c.1).any fun a => (l2 c.2.1).any fun r => c.2.2.1.isEmpty && decide (xName a.1 = some ("Exception" : Str)) && a.2.1 == ("__init__" : Str) && decide (xName r.1 = some N.nSelf.str) && decide (xName r.2 = some N.nWhat.str) && a.2.2.endLine == c.2.2.2.line
noncomputable def isFaultB (b : List Stmt) : Bool := b.head?.any fun s => isExc s && (l2 b.tail).any fun t => isLine .nWhat t.1 && isLine .nAt t.2
noncomputable def hExc : ExceptHandler → Option Expr × Option Str × List Stmt | .ExceptHandler t n b _ => (t, n, b)
noncomputable def xKS (e : Expr) : Option (Str × Nat) := if h : e.ctorIdx = 19 then Expr.Constant.elim (motive_1 := fun _ => Option (Str × Nat)) e h (fun c k _ => if h : c.ctorIdx = 5 then Const.str.elim (motive := fun _ => Option (Str × Nat)) c h (fun x => some (x, k)) else none) else none
noncomputable def isGone (s : Stmt) : Bool := (yRet s).any fun r => r.any fun e => (xTup e).any fun es => (l2 es).any fun t => (xAttr t.2).any fun a => decide (xKS t.1 = some (("fault" : Str), 0)) && decide (xName a.1 = some N.nFault.str) && a.2.1 == N.nAt.str
noncomputable def isAskedB (ck : List Stmt → Bool) (b : List Stmt) : Bool := (l1 b).any fun s => (yTry s).any fun t => (l1 t.2.1).any fun hd => (hExc hd).1.any fun w => (l1 (hExc hd).2.2).any fun g =>
  decide (xName w = some ("WireFault" : Str)) && decide ((hExc hd).2.1 = some ("fault" : Str)) && isGone g && t.2.2.1.isEmpty && t.2.2.2.isEmpty && ck t.1
noncomputable def initOk (K : Frag) : Bool := (funAt K initA).any fun fd => baseFn fd && codeOk K fd && plainA fd.params ([N.nSelf, N.nWhat, N.nAt].map N.str) && dfltOk K fd [.int (-1)] && isFaultB (bodyA K initA) && decide (typeIn K (.ref initA) = some (.type "function")) &&
      fd.scope.names.all (fun x => decide (x.2 ≠ .cell)) && !(fd.scope.names.lookup N.nAsked.str).isSome && decide (fd.scope.names.lookup N.nSelf.str = some .local) && decide (fd.scope.names.lookup N.nWhat.str = some .local) && decide (fd.scope.names.lookup N.nAt.str = some .local) &&
      decide (fd.scope.names.lookup ("Exception" : Str) = some .globalImplicit)
noncomputable def dCl (d : Data) : Option (ClassData) := if h : d.ctorIdx = 8 then Data.cls.elim (motive := fun _ => Option (ClassData)) d h (fun c => some c) else none
noncomputable abbrev Vo := Option Value
noncomputable def l6 (l : List Vo) : Option (Vo × Vo × Vo × Vo × Vo × Vo) := (l2 (l.take 2)).bind fun a => (l2 ((l.drop 2).take 2)).bind fun b => (l2 (l.drop 4)).map fun c => (a.1, a.2, b.1, b.2, c.1, c.2)
noncomputable def excOk (K : Frag) : Bool := (K.lookup clsFault).any fun o => (dCl o.data).any fun c => (l6 o.slots.toList).any fun k => decide (o.cls = .type "type") && decide (c.mro = .ref clsFault :: c.mro.tail) && decide (k.2.2.2.2.1 = some (.builtin excN)) && !c.hasDel &&
  c.mro.tail.contains (.type "Exception") && !c.mro.tail.contains (.type "AttributeError") && !c.mro.tail.contains (.type "NameError") && c.mro.tail.contains (.type "BaseException")
noncomputable def faultFOk (K : Frag) : Bool := decide (findIn K (.ref clsFault) "__setattr__" = some (some (.builtin "object.__setattr__"))) && excOver K clsFault && hasDictIn K clsFault && decide (takerIn K clsFault N.nWhat.str = some none) && decide (takerIn K clsFault N.nAt.str = some none)
noncomputable def lawA : Addr := 471
noncomputable def oneCell (sc : List (Str × NameKind)) : Bool := (l1 (sc.filter fun x => x.2 == .cell)).any fun x => x.1 == N.nWire.str
noncomputable def lawOk (K : Frag) (d : LamD × LamD) : Bool := (funAt K lawA).any fun fd => baseFn fd && codeOk K fd && plainA fd.params [N.nScript.str] && dfltOk K fd [] && fd.closure.isEmpty && decide (fd.code = .ref lawCode) && decide (fd.qualname = "law") &&
      decide (fd.scope.names.lookup N.nScript.str = some .local) && oneCell fd.scope.names && embS gt (lamOkD d) fd.scope.names lawBody (bodyOf fd)
noncomputable def posOk (d : LamD × LamD) : Bool := !(d.1.pos.line == d.2.pos.line && d.1.pos.col == d.2.pos.col)
noncomputable def lamsOk (d : LamD × LamD) : Bool := lamGood d 0 && lamGood d 1 && posOk d && embE gt (lamOkD d) d.1.scope.names (lamBody 0) d.1.body && embE gt (lamOkD d) d.2.scope.names (lamBody 1) d.2.body
noncomputable def fnsOk (K : Frag) (d : LamD × LamD) : Bool := plainF.all fun f => fnOk K f && embS gt (lamOkD d) (scAt K f) (body f) (bodyAt K f)
noncomputable def askOk (K : Frag) (d : LamD × LamD) : Bool := fnOk K .lAsked && isAskedB (embS gt (lamOkD d) (scAt K .lAsked) (body .lAsked)) (bodyAt K .lAsked) && decide ((scAt K .lAsked).lookup N.nFault.str = some .local) && decide ((scAt K .lAsked).lookup ("WireFault" : Str) = some .globalImplicit)
noncomputable def initsOk (K : Frag) : Bool := decide (findIn K (.ref clsWire) "__init__" = some (some (.ref F.wInit.addr))) && decide (typeIn K (.ref F.wInit.addr) = some (.type "function")) && isWireB (bodyAt K .wInit) &&
  decide (findIn K (.ref clsAtom) "__init__" = some (some (.ref F.atomInit.addr))) && decide (typeIn K (.ref F.atomInit.addr) = some (.type "function")) && isAtomB (bodyAt K .atomInit) &&
  initOk K && excOk K && faultFOk K && decide (findIn K (.ref clsFault) "__init__" = some (some (.ref initA)))
noncomputable def restOk (K : Frag) : Bool := gtOk K && decide (nsIn K mainGlobals "WireFault" = some (some (.ref clsFault))) && decide (nsIn K mainGlobals "Exception" = some none) && codeHdIn K lawCode tabAddr
noncomputable def kfAll (K : Frag) : Bool := kf1 K && kf2 K && kf3 K && kf4 K && kf5 K
noncomputable def lawD (K : Frag) : Option (LamD × LamD) := (funAt K lawA).bind fun fd => lamsOf (bodyOf fd)
noncomputable def kOk (K : Frag) : Bool := (lawD K).any fun d => lawOk K d && lamsOk d && fnsOk K d && askOk K d && initsOk K && restOk K && kfAll K
noncomputable def statics : List Addr := [3, 362, 361, 119, 118, 71, 70, 46, 45, 36, 35, 29, 185, 352, 470, 471]
noncomputable def allFs : List F := F.lAsked :: plainF
noncomputable def addrs : List Addr := statics ++ (allFs.map F.addr ++ allFs.map fun f => f.addr - 1)
noncomputable def fragOf (h : Heap) : Frag := addrs.filterMap fun a => (h.get? a).map fun o => (a, o)
noncomputable def notList (o : Obj) : Bool := match o.cls with | .type n => !(n == "list") | _ => true
noncomputable def kAll (K : Frag) : Bool := kOk K && (K.lookup tabAddr).isNone && K.all (fun p => notList p.2) && decide (nsIn K mainGlobals "law" = some (some (.ref lawA)))
noncomputable def tabEmpty (h : Heap) : Bool := match h.get? tabAddr with | some ⟨.none, none, .fields vs, sl⟩ => vs.toList.isEmpty && sl.toList.isEmpty | _ => false
noncomputable def XtL (s : Shared) : Bool := kAll (fragOf s.heap) && tabEmpty s.heap
noncomputable def pw : Program := PySem.Challenge.pw_no0376_01
noncomputable def qv : Program := view pw [44]
noncomputable def looseL : List Str := (["_wall", "PostError", "WordFault", "WireFault", "CRLF", "lower_code", "lower", "upper_text", "ascii_text", "QUOTE",
 "BACKSLASH", "MOST_DEPTH", "MOST_FIGURES", "MOST_COUNT_FIGURES", "SPECIALS", "VALUE_SPECIALS", "Atom", "told_value",
 "is_printable", "is_atom_code", "is_astring_code", "is_value_code", "is_set_code", "is_figure", "number_of_figures",
 "Wire", "_law_take", "_law_bag", "_law_octets", "_law_run", "_law_figures", "_law_string", "_law_value", "_law_number",
 "_law_astring", "_law_nstring", "_law_flag", "_law_set", "_law_numbers", "_law_asked"] : List String).map Str.ofString
noncomputable def topRunT (sok : Nat → Option Value → Thread → Bool) (stp : SharedT → Thread → Option (SharedT × Thread)) (n₀ : Nat) (ann : Option Value) : Nat → SharedT → Thread → Option SharedT
  | 0, _, _ => none
  | n + 1, s, t => match through t with
    | true => some s
    | false => match sok n₀ ann t with
      | false => none
      | true => match stp s t with
        | some (s', t') => topRunT sok stp n₀ ann n s' t'
        | none => none
/-- a step, by the library's quick twins -/
noncomputable def stepQ (p : Program) (w : World) : SharedT → Thread → Option (SharedT × Thread) := Fast.tw10156331382660048174 (Fast.tw11892475500146522536 Fast.tw14364793385576792824) p w
/-- every second of a list -/
noncomputable def evens : List Obj → List Obj
  | [] => []
  | [a] => [a]
  | a :: _ :: r => a :: evens r
noncomputable def treeOf : Nat → List Obj → BT
  | 0, _ => .nil
  | _ + 1, [] => .nil
  | n + 1, a :: r => .node a (treeOf n (evens r)) (treeOf n (evens r.tail))
noncomputable def bootT (P : Params) : BT := treeOf (boot_heap P).objs.size (boot_heap P).objs.toList
noncomputable def S0 (P : Params) (os : OsState) : SharedT := ⟨bootT P, (boot_heap P).objs.size, (boot_heap P).life, Array.mk [], boot_drawn, boot_toks, os⟩
noncomputable def allLooks (h₀ : Heap) (s : Shared) := (staticsOk (importedModules pw.main.body) h₀ s.heap && namesBound pw s.heap && gensDone s && laidKept h₀ s.heap, openSeen qv looseL (importedModules pw.main.body) XtL true s)
end Mine
end
section
open PySem PySem.W PySem.Calls PyProof.Rows
namespace Mine
theorem run1 : ∀ w : World, (fun os => (topRunT Fast.tw6613529449190102663 (stepQ pw w) (boot_heap w.params).objs.size ((boot_heap w.params).nsMap mainGlobals "__annotations__") 3000 (S0 w.params os) (topStub pw)).map (fun s => allLooks (boot_heap w.params) s.abs)) = fun _ => some (true, openGood qv looseL) := by
  intro w
  kernel_rfl
end Mine
end
section
open PySem PySem.W PySem.Calls PyProof.Rows
namespace Mine
/-! the law is well said: the looks, by the library's quick twins, in pieces -/
theorem bare0 : List.filter (readsOut pw pw.main.body) ["vars", "dir", "locals"] = [] := by
  rw [Fast.te13343964577679436407]
  kernel_rfl
theorem looks_pw : looksOpen pw = true := by
  unfold looksOpen
  rw [bare0, Fast.te8377067652309620493, Fast.te8326940854005059898, Fast.te17119622794617984870]
  kernel_rfl
theorem row_pw : OpenRow.wellSaid (OpenLaw.row PySem.Challenge.rw_no0376_01) = true := by
  unfold OpenRow.wellSaid OpenRow.partSaid
  rw [show looksOpen (OpenLaw.row PySem.Challenge.rw_no0376_01).prog = true from looks_pw]
  kernel_rfl
theorem said1 : OpenLaw.wellSaid PySem.Challenge.rw_no0376_01 = true := by
  unfold OpenLaw.wellSaid
  rw [row_pw, Fast.te8326940854005059898, Fast.te17119622794617984870]
  kernel_rfl
end Mine
end
section
open PySem PySem.W PySem.Calls PyProof.Rows
set_option genSizeOf false
set_option genInjectivity false
namespace Mine
/-! plain data -/
inductive D where
  | none | int (i : Int) | str (x : Str) | bytes (b : List UInt8) | tup (l : List D) | list (l : List D)
mutual
inductive IsDat (σ : St) : Nat → V → D → Prop where
  | none (n : Nat) : IsDat σ n .none .none
  | int (n : Nat) (i : Int) : IsDat σ n (.int i) (.int i)
  | str (n : Nat) (x : Str) : IsDat σ n (.str x) (.str x)
  | bytes (n : Nat) (b : List UInt8) : IsDat σ n (.bytes b) (.bytes b)
  | tup {n : Nat} {a : Addr} {vs : List V} {ds : List D} : σ a = some (.tup vs) → IsDats σ n vs ds → IsDat σ (n + 1) (.ref a) (.tup ds)
  | list {n : Nat} {a : Addr} {vs : List V} {ds : List D} : σ a = some (.list vs) → IsDats σ n vs ds → IsDat σ (n + 1) (.ref a) (.list ds)
inductive IsDats (σ : St) : Nat → List V → List D → Prop where
  | nil (n : Nat) : IsDats σ n [] []
  | cons {n : Nat} {v : V} {d : D} {vs : List V} {ds : List D} : IsDat σ n v d → IsDats σ n vs ds → IsDats σ n (v :: vs) (d :: ds)
end
noncomputable abbrev Kt := V → St → Prop
noncomputable abbrev Xt := Addr → St → Prop
noncomputable abbrev Ct := F → List V → St → Kt → Xt → Prop
noncomputable def news (σ : St) (o : AO) (Q : Kt) : Prop := ∀ a, σ a = none → Q (.ref a) (σ.set a o)
/-- a new object, beyond those of the top -/
noncomputable def newsT (σ : St) (o : AO) (Q : Kt) : Prop := ∀ a, σ a = none → 472 ≤ a → Q (.ref a) (σ.set a o)
noncomputable def getLoc (o : Option AO) (x : N) : Option V := match o with | some (.ns _ m) => m x | _ => none
noncomputable def setLoc (σ : St) (L : Addr) (x : N) (v : V) : St := match σ L with | some (.ns fr m) => σ.set L (.ns fr (upd m x v)) | _ => σ
noncomputable def okAttr (C : Addr) (x : N) : Bool := (C == clsWire && (x.nat == 2 || x.nat == 3)) || (C == clsAtom && x.nat == 15)
noncomputable def attrOf (σ : St) (v : V) (x : N) : Option V := match v with
  | .ref a => match σ a with
    | some (.inst C d) => (match σ d with | some (.ns false m) => if okAttr C x then m x else none | _ => none)
    | some (.exc C d) => (match σ d with | some (.ns false m) => if C = clsFault ∧ x.nat = 2 then m x else none | _ => none)
    | _ => none
  | _ => none
noncomputable def notRef : V → Bool | .ref _ => false | _ => true
noncomputable def notB : V → Bool | .builtin _ => false | _ => true
/-- no name but those of the data -/
noncomputable def lean (m : N → Option V) : Prop := ∀ k, (m k).isSome = true → k = .nAt ∨ k = .nData ∨ k = .nText
noncomputable def strOf (b : List UInt8) : Str := ⟨(b.map (·.toNat)).toArray⟩
noncomputable def lowCp (c : Nat) : Nat := if 65 ≤ c ∧ c ≤ 90 then c + 32 else c
noncomputable def lowStr (x : Str) : Str := ⟨(x.cps.toList.map lowCp).toArray⟩
noncomputable def digitsVal (l : List Nat) : Int := l.foldl (fun (n : Int) (c : Nat) => n * 10 + ((c : Int) - 48)) 0
noncomputable def bInt (b : List UInt8) : List V := b.map fun c => V.int c.toNat
noncomputable def onI (v : V) (k : Int → Prop) : Prop := match v with | .int a => k a | _ => False
noncomputable def onB (v : V) (k : List UInt8 → Prop) : Prop := match v with | .bytes a => k a | _ => False
noncomputable def onS (v : V) (k : Str → Prop) : Prop := match v with | .str a => k a | _ => False
noncomputable def onR (v : V) (k : Addr → Prop) : Prop := match v with | .ref a => k a | _ => False
noncomputable def on4 (v : V) (kI : Int → Prop) (kB : List UInt8 → Prop) (kS : Str → Prop) (kR : Addr → Prop) : Prop := match v with | .int a => kI a | .bytes a => kB a | .str a => kS a | .ref a => kR a | _ => False
noncomputable def binV (op : Operator) (v w : V) (σ : St) (Q : Kt) : Prop := match op with
  | .Add => on4 v (fun a => onI w fun b => Q (.int (a + b)) σ) (fun a => onB w fun b => a.length + b.length ≤ 1000000 ∧ Q (.bytes (a ++ b)) σ) (fun x => onS w fun y => x.length + y.length ≤ 1000000 ∧ Q (.str (x ++ y)) σ)
      fun a => onR w fun b => ∃ xs ys, σ a = some (.list xs) ∧ σ b = some (.list ys) ∧ xs.length + ys.length ≤ 1000 ∧ news σ (.list (xs ++ ys)) Q
  | .Sub => onI v fun a => onI w fun b => Q (.int (a - b)) σ
  | .Mult => on4 v (fun a => onI w fun b => (-(2 ^ 62) < b ∧ b < 2 ^ 62) ∧ Q (.int (a * b)) σ) (fun a => onI w fun n => (a.length = 1 ∧ 0 ≤ n ∧ n ≤ 1000) ∧ Q (.bytes (List.replicate n.toNat (a.headD 0))) σ) (fun _ => False) (fun _ => False)
  | .FloorDiv => onI v fun a => onI w fun b => (0 ≤ a ∧ 0 < b ∧ b < 2 ^ 20) ∧ Q (.int (a / b)) σ
  | .Mod => onI v fun a => onI w fun b => 0 < b ∧ Q (.int (a % b)) σ
  | .Pow => onI v fun a => onI w fun b => (0 ≤ a ∧ a ≤ 10 ^ 60 ∧ 0 ≤ b ∧ b ≤ 120) ∧ Q (.int (a ^ b.toNat)) σ
  | _ => False
noncomputable def cmpV (op : CmpOp) (v w : V) (σ : St) (k : Bool → Prop) : Prop := match op with
  | .Lt => onI v fun a => onI w fun b => k (decide (a < b))
  | .LtE => onI v fun a => onI w fun b => k (decide (a ≤ b))
  | .Gt => onI v fun a => onI w fun b => k (decide (b < a))
  | .GtE => onI v fun a => onI w fun b => k (decide (b ≤ a))
  | .Eq => on4 v (fun a => on4 w (fun b => k (decide (a = b))) (fun _ => False) (fun _ => k false) (fun _ => False)) (fun a => onB w fun b => k (decide (a = b))) (fun a => onS w fun b => k (decide (a = b))) fun a => onS w fun _ => (∃ xs, σ a = some (.tup xs)) ∧ k false
  | .NotEq => on4 v (fun a => onI w fun b => k (!decide (a = b))) (fun a => onB w fun b => k (!decide (a = b))) (fun a => onS w fun b => k (!decide (a = b)))
      fun a => onR w fun b => (∃ xs, σ a = some (.list xs) ∧ σ b = some (.list []) ∧ k (!xs.isEmpty)) ∨ ∃ d, IsDat σ 200 (.ref a) (.tup d) ∧ IsDat σ 200 (.ref b) (.tup d) ∧ k false
  | .In => onI v fun i => onB w fun b => (0 ≤ i ∧ i ≤ 255 ∧ b.length ≤ 1000) ∧ k (decide (i.toNat.toUInt8 ∈ b))
  | .NotIn => onI v fun i => onB w fun b => (0 ≤ i ∧ i ≤ 255 ∧ b.length ≤ 1000) ∧ k (!decide (i.toNat.toUInt8 ∈ b))
  | _ => False
noncomputable def isN : V → Bool | .none => true | _ => false
noncomputable def eqb : V → V → Bool | .int a, .int b => a == b | .bytes a, .bytes b => a == b | _, _ => false
noncomputable def inV (neg : Bool) (v : V) (vs : List V) (σ : St) (Q : Kt) : Prop :=
  (((∃ i, v = .int i) ∧ ∀ w ∈ vs, ∃ i, w = V.int i) ∨ ((∃ b, v = .bytes b) ∧ ∀ w ∈ vs, ∃ b, w = V.bytes b)) ∧ vs.length ≤ 40 ∧ Q (.bool (neg ^^ vs.any fun w => eqb w v)) σ
noncomputable def subV (o i : V) (σ : St) (Q : Kt) : Prop := on4 o (fun _ => False) (fun b => onI i fun i => (0 ≤ i ∧ i < b.length ∧ b.length ≤ 1000000) ∧ Q (.int (b.getD i.toNat 0).toNat) σ) (fun _ => False)
  fun a => onI i fun i => ∃ xs v, (σ a = some (.list xs) ∨ σ a = some (.tup xs)) ∧ 0 ≤ i ∧ i < 2 ^ 60 ∧ xs[i.toNat]? = some v ∧ Q v σ
noncomputable def ListAt (σ : St) (a : Addr) (xs : List V) : Prop := σ a = some (.list xs) ∨ ∃ vs n, σ a = some (.raw { cls := .type "list", data := .seq vs n }) ∧ vs.toList.map av = xs
noncomputable def onO (l : Option V) (k : V → Prop) (k0 : Prop) : Prop := match l with | some v => k v | none => k0
noncomputable def sliceV (o : V) (l u : Option V) (σ : St) (Q : Kt) : Prop := on4 o (fun _ => False)
  (fun b => onO l (fun l => onI l fun l => onO u (fun u => onI u fun u => (0 ≤ l ∧ 0 ≤ u ∧ b.length ≤ 1000000) ∧ Q (.bytes ((b.take u.toNat).drop l.toNat)) σ) False) False) (fun _ => False)
  fun a => onO l (fun l => onI l fun l => onO u (fun _ => False) (∃ xs, σ a = some (.tup xs) ∧ 1 ≤ l ∧ l ≤ xs.length ∧ xs.length ≤ 1000 ∧ news σ (.tup (xs.drop l.toNat)) Q))
    (onO u (fun u => onI u fun u => ∃ xs, ListAt σ a xs ∧ 0 ≤ u ∧ xs.length ≤ 1000 ∧ news σ (.list (xs.take u.toNat)) Q) False)
noncomputable def boolsOf : List V → Option (List Bool)
  | [] => some []
  | .bool b :: r => (boolsOf r).map (b :: ·)
  | _ => none
noncomputable def intsOf : List V → Option (List Int)
  | [] => some []
  | .int b :: r => (intsOf r).map (b :: ·)
  | _ => none
noncomputable def strsOf : List V → Option (List Str)
  | [] => some []
  | .str b :: r => (strsOf r).map (b :: ·)
  | _ => none
/-- what isinstance answers -/
inductive Isi (σ : St) : V → V → Bool → Prop where
  | own {a d : Addr} {m : N → Option V} : σ a = some (.inst clsAtom d) → σ d = some (.ns false m) → Isi σ (.ref a) (.ref clsAtom) true
  | la {a : Addr} {xs : List V} : σ a = some (.list xs) → Isi σ (.ref a) (.ref clsAtom) false
  | ta {a : Addr} {xs : List V} : σ a = some (.tup xs) → Isi σ (.ref a) (.ref clsAtom) false
  | ll {a c : Addr} {xs : List V} : σ c = some (.tup [.type "list", .type "tuple"]) → σ a = some (.list xs) → Isi σ (.ref a) (.ref c) true
  | tl {a c : Addr} {xs : List V} : σ c = some (.tup [.type "list", .type "tuple"]) → σ a = some (.tup xs) → Isi σ (.ref a) (.ref c) true
  | lb {a : Addr} {xs : List V} : σ a = some (.list xs) → Isi σ (.ref a) (.type "bytes") false
  | tb {a : Addr} {xs : List V} : σ a = some (.tup xs) → Isi σ (.ref a) (.type "bytes") false
  | ba {b : List UInt8} : Isi σ (.bytes b) (.ref clsAtom) false
  | bb {b : List UInt8} : Isi σ (.bytes b) (.type "bytes") true
  | ia {i : Int} : Isi σ (.int i) (.ref clsAtom) false
  | il {i : Int} {c : Addr} : σ c = some (.tup [.type "list", .type "tuple"]) → Isi σ (.int i) (.ref c) false
  | ib {i : Int} : Isi σ (.int i) (.type "bytes") false
noncomputable def on1 (l : List V) (k : V → Prop) : Prop := match l with | [] => False | v :: r => match r with | [] => k v | _ :: _ => False
noncomputable def on2 (l : List V) (k : V → V → Prop) : Prop := match l with | [] => False | v :: r => on1 r (k v)
noncomputable def bltV (b : String) (args : List V) (σ : St) (Q : Kt) : Prop :=
  if b = "len" then on1 args fun v => on4 v (fun _ => False) (fun b => b.length ≤ 1000000 ∧ Q (.int b.length) σ) (fun _ => False) fun a => ∃ xs, σ a = some (.list xs) ∧ xs.length ≤ 1000000 ∧ Q (.int xs.length) σ
  else if b = "chr" then on1 args fun v => onI v fun i => (0 ≤ i ∧ i ≤ 255) ∧ Q (.str ⟨#[i.toNat]⟩) σ
  else if b = "isinstance" then on2 args fun v c => ∃ r, Isi σ v c r ∧ Q (.bool r) σ
  else if b = "all" then on1 args fun v => onR v fun a => ∃ xs bs, σ a = some (.list xs) ∧ boolsOf xs = some bs ∧ xs.length ≤ 1000000 ∧ Q (.bool (bs.all id)) σ
  else False
noncomputable def typV (b : String) (args : List V) (σ : St) (Q : Kt) : Prop :=
  if b = "range" then on1 args fun v => onI v fun n => (0 ≤ n ∧ n ≤ 1000000) ∧ news σ (.rng n.toNat) Q
  else if b = "bytes" then on1 args fun v => on4 v (fun _ => False) (fun b => b.length ≤ 1000000 ∧ Q (.bytes b) σ) (fun _ => False) fun a => (∃ xs ns, σ a = some (.list xs) ∧ intsOf xs = some ns ∧ xs.length ≤ 1000000 ∧ (∀ n ∈ ns, 0 ≤ n ∧ n < 256) ∧ Q (.bytes (ns.map fun n => n.toNat.toUInt8)) σ) ∨
      ∃ b, σ a = some (.barr b) ∧ b.length ≤ 1000000 ∧ Q (.bytes b) σ
  else if b = "bytearray" then (match args with | [] => news σ (.barr []) Q | _ :: _ => False)
  else if b = "tuple" then on1 args fun v => onR v fun a => ∃ xs, σ a = some (.list xs) ∧ xs.length ≤ 1000000 ∧ news σ (.tup xs) Q
  else if b = "int" then on1 args fun v => onS v fun x => (1 ≤ x.length ∧ x.length ≤ 600 ∧ ∀ c ∈ x.cps.toList, 48 ≤ c ∧ c ≤ 57) ∧ Q (.int (digitsVal x.cps.toList)) σ
  else False
noncomputable def methId (σ : St) (v : V) (name : Str) : Option String := match v with
  | .ref a => if name = "append" then (match σ a with
      | some (.list _) => some "list.append"
      | some (.barr _) => some "bytearray.append"
      | _ => none) else none
  | .bytes _ => if name = "decode" then some "bytes.decode" else none
  | .str _ => if name = "lower" then some "str.lower" else if name = "join" then some "str.join" else none
  | _ => none
noncomputable def bmethV (id : String) (o : V) (args : List V) (σ : St) (Q : Kt) : Prop :=
  if id = "list.append" then onR o fun a => on1 args fun v => ∃ xs, σ a = some (.list xs) ∧ xs.length ≤ 1000000 ∧ Q .none (σ.set a (.list (xs ++ [v])))
  else if id = "bytearray.append" then onR o fun a => on1 args fun v => onI v fun i => ∃ b, σ a = some (.barr b) ∧ 0 ≤ i ∧ i < 256 ∧ b.length ≤ 1000000 ∧ Q .none (σ.set a (.barr (b ++ [i.toNat.toUInt8])))
  else if id = "bytes.decode" then onB o fun b => on1 args fun v => onS v fun e => e = "ascii" ∧ b.length ≤ 1000000 ∧ (∀ c ∈ b, c.toNat < 128) ∧ Q (.str (strOf b)) σ
  else if id = "str.lower" then onS o fun x => (match args with | [] => x.length ≤ 1000000 ∧ (∀ c ∈ x.cps.toList, c < 128) ∧ Q (.str (lowStr x)) σ | _ :: _ => False)
  else if id = "str.join" then onS o fun e => on1 args fun v => onR v fun a => ∃ xs ss, e = Str.empty ∧ σ a = some (.list xs) ∧ strsOf xs = some ss ∧ xs.length ≤ 1000000 ∧ (∀ x ∈ ss, x.length = 1) ∧ Q (.str ⟨(ss.flatMap (·.cps.toList)).toArray⟩) σ
  else False
noncomputable def seqOf (σ : St) (v : V) : Option (V × List V) := match v with
  | .bytes b => if b.length ≤ 1000000 then some (.bytes b, bInt b) else none
  | .ref a => match σ a with
    | some (.list xs) => if xs.length ≤ 1000000 then some (.ref a, xs) else none
    | some (.rng n) => if n ≤ 1000000 then some (.int n, (List.range n).map fun (i : Nat) => V.int i) else none
    | _ => none
  | _ => none
/-- a call of a value -/
noncomputable def callV (C : Ct) (v : V) (args : List V) (σ : St) (Q : Kt) (X : Xt) : Prop := match v with
  | .ref a => match funOf a with
    | some f => C f args σ Q X
    | none =>
      if a = clsWire then ∃ x y, args = [x, y] ∧ ∀ d w, σ d = none → σ w = none → d ≠ w → Q (.ref w) ((σ.set d (.ns false (mk [(.nAt, y), (.nData, x)]))).set w (.inst clsWire d))
      else if a = clsAtom then ∃ x, args = [x] ∧ ∀ d w, σ d = none → σ w = none → d ≠ w → Q (.ref w) ((σ.set d (.ns false (mk [(.nText, x)]))).set w (.inst clsAtom d))
      else if a = clsFault then ∃ what i, args = [.str what, .int i] ∧ ∀ d e, σ d = none → σ e = none → d ≠ e → Q (.ref e) ((σ.set d (.ns false (mk [(.nAt, .int i), (.nWhat, .str what)]))).set e (.exn clsFault d))
      else match σ a with
        | some (.meth f w) => ∃ g, funOf f = some g ∧ C g (.ref w :: args) σ Q X
        | some (.lam k c cc) => args = [] ∧ (∃ j, σ cc = some (.code j)) ∧ C (if k = 0 then .lam0 else .lam1) [.ref c] σ Q X
        | _ => False
  | .builtin b => bltV b args σ Q
  | .type b => typV b args σ Q
  | _ => False
theorem lamNo_lt (f : F) : lamNo f < 2 := by
  unfold lamNo
  by_cases h : f.ctorIdx = F.lam0.ctorIdx
  · rw [if_pos h]; exact Nat.zero_lt_two
  · rw [if_neg h]; exact Nat.one_lt_two
section
variable (C : Ct) (cl : Option Addr)
open Classical in
mutual
noncomputable def WE : IE → Addr → St → Kt → Xt → Prop
  | .kn, L, σ, Q, X => Q .none σ
  | .kb b, L, σ, Q, X => Q (.bool b) σ
  | .ki i, L, σ, Q, X => Q (.int i) σ
  | .ks x, L, σ, Q, X => Q (.str x) σ
  | .kx b, L, σ, Q, X => Q (.bytes b) σ
  | .loc x, L, σ, Q, X => ∃ v, getLoc (σ L) x = some v ∧ Q v σ
  | .cv x, L, σ, Q, X => ∃ c v, cl = some c ∧ σ c = some (.cell (some v)) ∧ Q v σ
  | .glob x v, L, σ, Q, X => Q v σ
  | .attr e x, L, σ, Q, X => WE e L σ (fun v σ => ∃ r, attrOf σ v x = some r ∧ notB r = true ∧ Q r σ) X
  | .bm e f, L, σ, Q, X => WE e L σ (fun v σ => ∃ w d m, v = .ref w ∧ σ w = some (.inst clsWire d) ∧ σ d = some (.ns false m) ∧ lean m ∧ newsT σ (.meth f.addr w) Q) X
  | .call f es, L, σ, Q, X => WE f L σ (fun v σ => WEs es L σ (fun vs σ => callV C v vs σ Q X) X) X
  | .meth o f es, L, σ, Q, X => WE o L σ (fun v σ => ∃ w d m, v = .ref w ∧ σ w = some (.inst (mcls f) d) ∧ σ d = some (.ns false m) ∧ lean m ∧ WEs es L σ (fun vs σ => C f (v :: vs) σ Q X) X) X
  | .bmeth o name es, L, σ, Q, X => WE o L σ (fun v σ => ∃ id, methId σ v name = some id ∧ WEs es L σ (fun vs σ => bmethV id v vs σ Q) X) X
  | .bin op a b, L, σ, Q, X => WE a L σ (fun v σ => WE b L σ (fun w σ => binV op v w σ Q) X) X
  | .cmp op a b, L, σ, Q, X => WE a L σ (fun v σ => WE b L σ (fun w σ => cmpV op v w σ fun r => Q (.bool r) σ) X) X
  | .cmp2 o₁ o₂ a b c, L, σ, Q, X => WE a L σ (fun v σ => WE b L σ (fun w σ => cmpV o₁ v w σ fun r => (r = true → WE c L σ (fun u σ => cmpV o₂ w u σ fun r => Q (.bool r) σ) X) ∧ (r = false → Q (.bool false) σ)) X) X
  | .inT lst neg a es, L, σ, Q, X => WE a L σ (fun v σ => WEs es L σ (fun vs σ => inV neg v vs σ Q) X) X
  | .isNone a, L, σ, Q, X => WE a L σ (fun v σ => Q (.bool (isN v)) σ) X
  | .bop an es, L, σ, Q, X => WB an es L σ (fun b σ => Q (.bool b) σ) X
  | .not a, L, σ, Q, X => WE a L σ (fun v σ => ∃ b, v = .bool b ∧ Q (.bool (!b)) σ) X
  | .neg a, L, σ, Q, X => WE a L σ (fun v σ => ∃ i, v = .int i ∧ Q (.int (-i)) σ) X
  | .ite c a b, L, σ, Q, X => WE c L σ (fun v σ => ∃ r, v = .bool r ∧ (r = true → WE a L σ Q X) ∧ (r = false → WE b L σ Q X)) X
  | .sub o i, L, σ, Q, X => WE o L σ (fun v σ => WE i L σ (fun w σ => subV v w σ Q) X) X
  | .slice o l u, L, σ, Q, X => WE o L σ (fun v σ => WO l L σ (fun l σ => WO u L σ (fun u σ => sliceV v l u σ Q) X) X) X
  | .tup es, L, σ, Q, X => WEs es L σ (fun vs σ => newsT σ (.tup vs) Q) X
  | .list es, L, σ, Q, X => WEs es L σ (fun vs σ => news σ (.list vs) Q) X
  | .comp elt x src, L, σ, Q, X => WE src L σ (fun v σ => cl = none ∧ ∃ sv items, seqOf σ v = some (sv, items) ∧ ∀ it A D, σ it = none → σ A = none → σ D = none → it ≠ A → it ≠ D → A ≠ D → ∃ I : Nat → List V → St → Prop,
      I 0 [] (((σ.set it (.iter sv 0)).set A (.list [])).set D (.ns true fun _ => none)) ∧
      (∀ i acc τ, I i acc τ → i ≤ items.length → (∀ l, sv = .ref l → τ l = some (.list items)) ∧ τ it = some (.iter sv i) ∧ τ A = some (.list acc) ∧ (∃ m, τ D = some (.ns true m)) ∧ acc.length = i ∧
        (∀ v, items[i]? = some v → WE elt D (setLoc (τ.set it (.iter sv (i + 1))) D x v) (fun r ρ => ρ A = some (.list acc) ∧ ∃ ρ', ρ'.le (ρ.set A (.list (acc ++ [r]))) ∧ I (i + 1) (acc ++ [r]) ρ') (fun _ _ => False)) ∧
        (i = items.length → Q (.ref A) ((τ.del it).del D)))) X
  | .lam f, L, σ, Q, X => ∃ c k cs, cl = some c ∧ k = lamNo f ∧ σ tabAddr = some (.tab cs) ∧
      ((∃ cc, cs.lookup k = some cc ∧ newsT σ (.lam k c cc) Q) ∨ (cs.lookup k = none ∧ ∀ cc a, σ cc = none → σ a = none → cc ≠ a → 472 ≤ a → Q (.ref a) (((σ.set tabAddr (.tab (cs ++ [(k, cc)]))).set cc (.code k)).set a (.lam k c cc))))
noncomputable def WEs : List IE → Addr → St → (List V → St → Prop) → Xt → Prop
  | [], L, σ, Q, X => Q [] σ
  | e :: es, L, σ, Q, X => WE e L σ (fun v σ => WEs es L σ (fun vs σ => Q (v :: vs) σ) X) X
noncomputable def WO : Option IE → Addr → St → (Option V → St → Prop) → Xt → Prop
  | none, L, σ, Q, X => Q none σ
  | some e, L, σ, Q, X => WE e L σ (fun v σ => Q (some v) σ) X
noncomputable def WB (an : Bool) : List IE → Addr → St → (Bool → St → Prop) → Xt → Prop
  | [], L, σ, Q, X => Q an σ
  | e :: es, L, σ, Q, X => WE e L σ (fun v σ => ∃ b, v = .bool b ∧ (b = an → WB an es L σ Q X) ∧ (b ≠ an → Q b σ)) X
end
inductive Fl where | next | ret (v : V)
noncomputable abbrev Ft := Fl → St → Prop
mutual
noncomputable def WS1 : IS → Addr → St → Ft → Xt → Prop
  | .asg x e, L, σ, Q, X => WE C cl e L σ (fun v σ => (∃ m, σ L = some (.ns true m)) ∧ Q .next (setLoc σ L x v)) X
  | .asgC x e, L, σ, Q, X => WE C cl e L σ (fun v σ => ∃ c o, cl = some c ∧ σ c = some (.cell o) ∧ Q .next (σ.set c (.cell (some v)))) X
  | .asgA o x e, L, σ, Q, X => WE C cl e L σ (fun v σ => WE C cl o L σ (fun w σ => ∃ a cls d m, w = .ref a ∧ σ a = some (.inst cls d) ∧ σ d = some (.ns false m) ∧ okAttr cls x = true ∧ (m x).isSome = true ∧ Q .next (σ.set d (.ns false (upd m x v)))) X) X
  | .asgI o i e, L, σ, Q, X => WE C cl e L σ (fun v σ => WE C cl o L σ (fun w σ => WE C cl i L σ (fun u σ => ∃ a k xs, w = .ref a ∧ u = .int k ∧ σ a = some (.list xs) ∧ 0 ≤ k ∧ k < xs.length ∧ xs.length ≤ 1000000 ∧ Q .next (σ.set a (.list (xs.set k.toNat v)))) X) X) X
  | .expr e, L, σ, Q, X => WE C cl e L σ (fun v σ => notRef v = true ∧ Q .next σ) X
  | .iff c a b, L, σ, Q, X => WE C cl c L σ (fun v σ => ∃ r, v = .bool r ∧ (r = true → WS a L σ Q X) ∧ (r = false → WS b L σ Q X)) X
  | .wh c b, L, σ, Q, X => ∃ I : Nat → St → Prop, (∃ k, I k σ) ∧ ∀ k τ, I k τ → WE C cl c L τ (fun v τ => ∃ r, v = .bool r ∧ (r = true → WS b L τ (fun fl ρ => match fl with | .next => ∃ j ρ', j < k ∧ ρ'.le ρ ∧ I j ρ' | .ret v => Q (.ret v) ρ) X) ∧ (r = false → Q .next τ)) X
  | .for_ x src b, L, σ, Q, X => WE C cl src L σ (fun v σ => ∃ sv items, seqOf σ v = some (sv, items) ∧ ∀ it, σ it = none → ∃ I : Nat → St → Prop, I 0 (σ.set it (.iter sv 0)) ∧
      (∀ i τ, I i τ → i ≤ items.length → (∀ l, sv = .ref l → τ l = some (.list items)) ∧ τ it = some (.iter sv i) ∧
        (∀ v, items[i]? = some v → (∃ m, τ L = some (.ns true m)) ∧ WS b L (setLoc (τ.set it (.iter sv (i + 1))) L x v) (fun fl ρ => match fl with | .next => ∃ ρ', ρ'.le ρ ∧ I (i + 1) ρ' | .ret v => Q (.ret v) ρ) X) ∧
        (i = items.length → Q .next (τ.del it)))) X
  | .ret e, L, σ, Q, X => WE C cl e L σ (fun v σ => Q (.ret v) σ) X
  | .raise e, L, σ, Q, X => WE C cl e L σ (fun v σ => ∃ a d, v = .ref a ∧ σ a = some (.exn clsFault d) ∧ X a (σ.set a (.exc clsFault d))) X
  | .try_ b x h, L, σ, Q, X => False
noncomputable def WS : List IS → Addr → St → Ft → Xt → Prop
  | [], L, σ, Q, X => Q .next σ
  | s :: r, L, σ, Q, X => WS1 s L σ (fun fl σ => match fl with | .next => WS r L σ Q X | .ret v => Q (.ret v) σ) X
end
end
end Mine
end
section
open PySem PySem.W PySem.Calls PyProof.Rows
namespace Mine
open IE IS N
noncomputable def bindF (f : F) (args : List V) : List (N × V) := (params f).zip (args ++ (dflt f).drop (args.length + (dflt f).length - (params f).length))
noncomputable def retV : Fl → V | .next => .none | .ret v => v
open Classical in
noncomputable def isP : F → Bool | .lAsked => false | .lam0 => false | .lam1 => false | _ => true
noncomputable def WC : Nat → Ct
  | 0, f, args, σ, Q, X => False
  | n + 1, f, args, σ, Q, X => match isP f with
    | true => (params f).length ≤ args.length + (dflt f).length ∧ args.length ≤ (params f).length ∧
        ∀ L, σ L = none → WS (WC n) none (body f) L (σ.set L (.ns true (mk (bindF f args).reverse))) (fun fl τ => ∃ ρ, ρ.le (τ.del L) ∧ Q (retV fl) ρ) (fun e τ => ∃ ρ, ρ.le (τ.del L) ∧ X e ρ)
    | false => match f with
      | .lAsked => match args with
        | [w, d] => ∀ L, σ L = none → WS (WC n) none (body .lAsked) L (σ.set L (.ns true (mk [(.nDeed, d), (.nWire, w)]))) (fun fl τ => ∃ ρ, ρ.le (τ.del L) ∧ Q (retV fl) ρ)
          (fun e τ => ∃ m i, τ L = some (.ns true m) ∧ e ≠ L ∧ attrOf τ (.ref e) .nAt = some (.int i) ∧ news (τ.del L) (.tup [.str (S "fault"), .int i]) Q)
        | _ => False
      | g => match args with
        | [.ref c] => ∀ L, σ L = none → WE (WC n) (some c) (lamBody (lamNo g)) L (σ.set L (.ns true fun _ => none)) (fun v τ => ∃ ρ, ρ.le (τ.del L) ∧ Q v ρ) (fun e τ => ∃ ρ, ρ.le (τ.del L) ∧ X e ρ)
        | _ => False
theorem WC_plain {n : Nat} {f : F} (hf : isP f = true) {args : List V} {σ : St} {Q : Kt} {X : Xt} : WC (n + 1) f args σ Q X = ((params f).length ≤ args.length + (dflt f).length ∧ args.length ≤ (params f).length ∧
        ∀ L, σ L = none → WS (WC n) none (body f) L (σ.set L (.ns true (mk (bindF f args).reverse))) (fun fl τ => ∃ ρ, ρ.le (τ.del L) ∧ Q (retV fl) ρ) (fun e τ => ∃ ρ, ρ.le (τ.del L) ∧ X e ρ)) := by
  show (match isP f with | true => _ | false => _) = _
  rw [hf]
end Mine
end
section
open PySem PySem.W PySem.Calls PyProof.Rows
namespace Mine
open Sem (wp)
noncomputable abbrev Md (G : Glob) : Model := model G.prog G.w
noncomputable def QS (G : Glob) (l : List Env) (Q : Kt) : Value → Shared → Prop := fun v s' => ∃ τ, Rel G l τ s' ∧ Q (av v) τ
structure Fly (G : Glob) (τ : St) (h : Heap) (P : Option Value → Prop) (a : Addr) : Prop where
  nb : G.base.get? a = none
  un : ∀ o, τ a = some o → ∃ C d, o = .exc C d
  ob : ∃ oe vs, h.get? a = some oe ∧ oe.data = .fields vs ∧ oe.cls = .ref clsFault ∧ 5 ≤ vs.size ∧ ((vs[1]? = some .none ∧ P none) ∨
    ∃ T oT ts v, vs[1]? = some (.ref T) ∧ G.base.get? T = none ∧ τ T = none ∧ T ≠ a ∧ h.get? T = some oT ∧ oT.data = .fields ts ∧ ts[3]? = some v ∧ P (some v))
noncomputable def PC : Option Value → Prop := fun t => t = none ∨ t = some .none
noncomputable def PL (L : Addr) : Option Value → Prop := fun t => t = none ∨ t = some .none ∨ t = some (rawInt L)
noncomputable def PN (L : Addr) : Option Value → Prop := fun t => t = some (rawInt L)
noncomputable def PO : Option Value → Prop := fun t => t = some .none
noncomputable def EX (G : Glob) (l : List Env) (P : Option Value → Prop) (X : Xt) : Value → Shared → Prop :=
  fun e s' => ∃ a τ, e = .ref a ∧ Rel G l τ s' ∧ Fly G τ s'.heap P a ∧ X a τ
noncomputable abbrev EC (G : Glob) (l : List Env) (X : Xt) := EX G l PC X
section
variable {G : Glob} {l : List Env} {σ τ : St} {s : Shared}
theorem Fly.mono {P P' : Option Value → Prop} {h : Heap} {a : Addr} (F : Fly G τ h P a) (hp : ∀ t, P t → P' t) : Fly G τ h P' a := by
  obtain ⟨x1, x2, oe, vs, h1, h2, h3, h4, h5⟩ := F
  refine ⟨x1, x2, oe, vs, h1, h2, h3, h4, ?_⟩
  rcases h5 with ⟨h5, h6⟩ | ⟨T, oT, ts, v, h5, h6, h7, h8, h9, h10, h11, h12⟩
  · exact .inl ⟨h5, hp _ h6⟩
  · exact .inr ⟨T, oT, ts, v, h5, h6, h7, h8, h9, h10, h11, hp _ h12⟩
theorem Fly.le {ρ : St} {P : Option Value → Prop} {h : Heap} {a : Addr} (F : Fly G τ h P a) (hl : ρ.le τ) : Fly G ρ h P a := by
  obtain ⟨x1, x2, oe, vs, h1, h2, h3, h4, h5⟩ := F
  refine ⟨x1, fun o e => x2 o (hl _ _ e), oe, vs, h1, h2, h3, h4, ?_⟩
  rcases h5 with ⟨h5, h6⟩ | ⟨T, oT, ts, v, h5, h6, h7, h8, h9, h10, h11, h12⟩
  · exact .inl ⟨h5, h6⟩
  · refine .inr ⟨T, oT, ts, v, h5, h6, ?_, h8, h9, h10, h11, h12⟩
    cases q : ρ T with
    | none => rfl
    | some o => rw [hl _ _ q] at h7; cases h7
theorem EX.mono {P P' : Option Value → Prop} {X X' : Xt} {e : Value} (x : EX G l P X e s) (hp : ∀ t, P t → P' t) (hx : ∀ a τ, X a τ → X' a τ) : EX G l P' X' e s := by
  obtain ⟨a, τ, rfl, R, F, q⟩ := x
  exact ⟨a, τ, rfl, R, F.mono hp, hx _ _ q⟩
theorem PC_PL {L : Addr} (t : Option Value) (h : PC t) : PL L t := h.elim .inl fun h => .inr (.inl h)
theorem PN_PL {L : Addr} (t : Option Value) (h : PN L t) : PL L t := .inr (.inr h)
theorem PO_PC (t : Option Value) (h : PO t) : PC t := .inr h
theorem QS.mono {Q Q' : Kt} {v : Value} (x : QS G l Q v s) (h : ∀ v τ, Q v τ → Q' v τ) : QS G l Q' v s := let ⟨τ, R, q⟩ := x; ⟨τ, R, h _ _ q⟩
theorem mapFields_dict (o : Obj) (f) : (o.mapFields f).dict = o.dict := by
  obtain ⟨c, d, dt, sl⟩ := o; cases dt <;> rfl
/-- a change at an address that no namespace has -/
theorem Rel.off (R : Rel G l σ s) {h' : Heap} {a : Addr} (hb : G.base.get? a = none) (ht : ∀ o, σ a = some o → ∃ ob, h'.get? a = some ob ∧ OM G ob o)
    (hd : ∀ o es ep, s.heap.get? a = some o → o.data ≠ .dict es ep) (hk : ∀ b o, b ≠ a → s.heap.get? b = some o → h'.get? b = some o) : Rel G l σ { s with heap := h' } := by
  refine ⟨fun b o e => hk b o (fun q => by subst q; rw [hb] at e; cases e) (R.base b o e), fun b o e => ?_, fun env he => ?_, R.gens, R.os⟩
  · obtain ⟨x, ob, h1, h2⟩ := R.objs b o e
    by_cases q : b = a
    · subst q; exact ⟨x, ht o e⟩
    · exact ⟨x, ob, hk _ _ q h1, h2⟩
  · cases R.fr env he with
    | mk f o es ep k h1 h2 h3 h4 d => exact ⟨f, o, es, ep, k, h1, h2, hk _ _ (fun q => by subst q; exact hd o es ep h3 h4) h3, h4, d⟩
theorem Rel.frames (R : Rel G l σ s) : s.heap.FunFrames G.base l := by
  have : ∀ l' : List Env, (∀ e ∈ l', e ∈ l) → s.heap.FunFrames G.base l' := fun l' => by
    induction l' with
    | nil => exact fun _ => trivial
    | cons env r ih =>
      intro hs
      obtain ⟨f, o, es, ep, k, h1, h2, h3, h4, d⟩ := R.fr env (hs _ List.mem_cons_self)
      exact ⟨(by rw [k]; intro x; cases x), ⟨f, o, h1, h2, h3, fun vs q => by rw [h4] at q; cases q⟩, ih fun e he => hs e (List.mem_cons_of_mem _ he)⟩
  exact this l fun _ h => h
theorem Rel.slots (R : Rel G l σ s) {h' : Heap} (x : Heap.SlotsOnly (l.filterMap (·.frame)) s.heap h') : Rel G l σ { s with heap := h' } := by
  have hin : ∀ b, b ∈ l.filterMap (·.frame) → G.base.get? b = none ∧ ∀ o, σ b = some o → ∃ m, o = .ns true m := fun b hb => by
    obtain ⟨env, he, hf⟩ := List.mem_filterMap.mp hb
    obtain ⟨f, o, es, ep, k, h1, h2, h3, h4, d⟩ := R.fr env he
    rw [h1] at hf; cases hf
    exact ⟨h2, d⟩
  refine ⟨fun b o e => ?_, fun b o e => ?_, fun env he => ?_, R.gens, R.os⟩
  · rw [← R.base b o e]; exact x.2.1 b fun hm => by rw [(hin b hm).1] at e; cases e
  · obtain ⟨y, ob, h1, h2⟩ := R.objs b o e
    refine ⟨y, ?_⟩
    by_cases hm : b ∈ l.filterMap (·.frame)
    · obtain ⟨m, rfl⟩ := (hin b hm).2 o e
      obtain ⟨sl, hs⟩ := x.2.2 b ob h1
      obtain ⟨es, ep, mm, hd, r1, r2, r3, r4⟩ := h2
      exact ⟨_, hs, es, ep, mm, hd, r1, r2, r3, fun q => by cases q⟩
    · exact ⟨ob, (x.2.1 b hm).trans h1, h2⟩
  · obtain ⟨f, o, es, ep, k, h1, h2, h3, h4, d⟩ := R.fr env he
    obtain ⟨sl, hs⟩ := x.2.2 f o h3
    exact ⟨f, _, es, ep, k, h1, h2, hs, h4, d⟩
section
variable {M : Model} {A : Around} {E : Value → Shared → Prop} {Q : Unit → Shared → Prop}
theorem Fly.setT {P' : Option Value → Prop} {a T : Addr} {oe oT : Obj} {vs ts : Array Value} {x : Value} (hnb : G.base.get? a = none) (hun : ∀ o, σ a = some o → ∃ C d, o = .exc C d)
    (he : s.heap.get? a = some oe) (hd : oe.data = .fields vs) (hc : oe.cls = .ref clsFault) (hz : 5 ≤ vs.size) (h1 : vs[1]? = some (.ref T)) (hbT : G.base.get? T = none) (hσT : σ T = none) (hTa : T ≠ a)
    (hT : s.heap.get? T = some oT) (hdT : oT.data = .fields ts) (h3 : 3 < ts.size) (hp : P' (some x)) (R : Rel G l σ s) :
    let h' := s.heap.update T (Obj.mapFields (·.setIfInBounds 3 x))
    Rel G l σ { s with heap := h' } ∧ Fly G σ h' P' a := by
  intro h'
  have other : ∀ b, b ≠ T → h'.get? b = s.heap.get? b := fun b hb => Heap.get?_update_other _ _ (Ne.symm hb)
  refine ⟨R.off hbT (fun o e => by rw [hσT] at e; cases e) (fun o es ep q q' => by rw [hT] at q; cases q; rw [hdT] at q'; cases q') fun b o hb e => (other b hb).trans e, hnb, hun, oe, vs, (other a (Ne.symm hTa)).trans he, hd, hc, hz, .inr ?_⟩
  exact ⟨T, _, _, x, h1, hbT, hσT, hTa, Heap.get?_update_self _ hT (Obj.isFreed_of_fields (Obj.data_mapFields hdT _)), Obj.data_mapFields hdT _, by simp [h3], hp⟩
theorem entry {env : Env} {outer : List Env} {L a : Addr} {oe : Obj} {vs : Array Value} {head : Value} {hadNext : Bool} (hl : l = env :: outer)
    (hfr : A.frames = some l) (R : Rel G l σ s) (hf : env.frame = some L) (hnb : G.base.get? a = none) (hun : ∀ o, σ a = some o → ∃ C d, o = .exc C d)
    (he : s.heap.get? a = some oe) (hd : oe.data = .fields vs) (hc : oe.cls = .ref clsFault) (hz : 5 ≤ vs.size)
    (h : ∀ h', Rel G l σ { s with heap := h' } → Fly G σ h' (PN L) a → Q () { s with heap := h' }) :
    wpAny M A (do let a' ← frameOf env; let pl ← entryPlaceOf L hadNext; let b ← EntryCells.newEntry head a' .none (rawInt L) .none pl; setField (.ref a) 1 b) Q E s := by
  subst hl
  have hsz : 1 < vs.size := by lia
  have hene : a ∉ (env :: outer).filterMap (·.frame) := fun hm => by
    obtain ⟨_, o, ho, hnf⟩ := R.frames.mem hm
    rw [he] at ho; injection ho with ho; subst ho; exact hnf vs hd
  refine wpAny_bind (wpAny_frameOf_fun hfr R.frames hf fun h₁ hs₁ => ?_)
  refine wpAny_bind (wpAny_entryPlaceOf fun pl hpl => ?_)
  unfold EntryCells.newEntry newFields
  refine wpAny_bind (wpAny_newObj_type ?_ (hpl.sizeOk5 _ _ _ _ _))
  have R₁ : Rel G (env :: outer) σ { s with heap := h₁ } := R.slots hs₁
  have he₁ : h₁.get? a = some oe := (hs₁.2.1 a hene).trans he
  generalize hX : ({ cls := .type "traceback", dict := none, data := .fields ([head, .ref L, .none, rawInt L, .none] ++ (if pl.isEmpty then List.replicate 6 Value.none else pl)).toArray } : Obj) = obT
  have hXf : obT.isFreed = false := by subst hX; rfl
  have hXd : ∃ ts, obT.data = .fields ts ∧ ts[3]? = some (rawInt L) := by
    subst hX; exact ⟨_, rfl, by simp⟩
  have R₂ : Rel G (env :: outer) σ { s with heap := h₁.push obT } := R₁.keeps (fun _ _ e => Heap.get?_push_of_some _ e)
  have he₂ := Heap.get?_push_of_some (h := h₁) obT he₁
  refine wpAny_setField he₂ hd hsz (h _ ?_ ?_)
  · refine R₂.off hnb (fun o e => ?_) (fun o es ep q q' => ?_) fun b o hb e => ?_
    · obtain ⟨C, d, rfl⟩ := hun o e
      obtain ⟨_, ob, g1, g2, g3, vs', g4, g5⟩ := R₂.objs a _ e
      rw [he₂] at g1; cases g1
      refine ⟨_, Heap.get?_update_self _ he₂ (Obj.isFreed_of_fields (Obj.data_mapFields hd _)), (Obj.cls_mapFields _ _).trans g2, (mapFields_dict _ _).trans g3, _, Obj.data_mapFields hd _, by simpa using hz⟩
    · rw [he₂] at q; cases q; rw [hd] at q'; cases q'
    · exact (Heap.get?_update_other _ _ (Ne.symm hb)).trans e
  · have hTa : h₁.objs.size ≠ a := Nat.ne_of_gt (Heap.lt_size he₁)
    have hσT : σ h₁.objs.size = none := by
      cases q : σ h₁.objs.size with
      | none => rfl
      | some o => obtain ⟨_, ob, ho, _⟩ := R₁.objs _ _ q; exact absurd (Heap.lt_size ho) (Nat.lt_irrefl _)
    have hbT : G.base.get? h₁.objs.size = none := by
      cases q : G.base.get? h₁.objs.size with
      | none => rfl
      | some o => exact absurd (Heap.lt_size (R₁.base _ _ q)) (Nat.lt_irrefl _)
    obtain ⟨ts, hX1, hX2⟩ := hXd
    refine ⟨hnb, hun, _, _, Heap.get?_update_self _ he₂ (Obj.isFreed_of_fields (Obj.data_mapFields hd _)), Obj.data_mapFields hd _, (Obj.cls_mapFields _ _).trans hc, by simpa using hz, .inr
      ⟨h₁.objs.size, obT, ts, rawInt L, by simp [hsz], hbT, hσT, hTa, ?_, hX1, hX2, rfl⟩⟩
    exact (Heap.get?_update_other _ _ (Ne.symm hTa)).trans (Heap.get?_push_size h₁ hXf)
theorem note {env : Env} {outer : List Env} {L a : Addr} (hl : l = env :: outer) (hfr : A.frames = some l) (R : Rel G l σ s) (hf : env.frame = some L) (F : Fly G σ s.heap (PL L) a)
    (h : ∀ h', Rel G l σ { s with heap := h' } → Fly G σ h' (PN L) a → Q () { s with heap := h' }) : wpAny M A (noteFrame (.ref a) env) Q E s := by
  obtain ⟨hnb, hun, oe, vs, he, hd, hc, hz, hh⟩ := F
  unfold noteFrame
  simp only [hf]
  rcases hh with ⟨h1, _⟩ | ⟨T, oT, ts, v, h1, hbT, hσT, hTa, hT, hdT, h3, hp⟩
  · refine wpAny_bind (wpAny_field he hd h1 ?_)
    rw [if_neg (by decide)]
    exact entry hl hfr R hf hnb hun he hd hc hz h
  · refine wpAny_bind (wpAny_field he hd h1 ?_)
    rw [if_pos (show (Value.ref T != Value.none) = true from by simp)]
    refine wpAny_bind (wpAny_field hT hdT h3 ?_)
    by_cases hv : v = rawInt L
    · subst hv
      rw [if_pos (show (rawInt L == rawInt L) = true from by simp)]
      exact wpAny_pure (h s.heap R ⟨hnb, hun, oe, vs, he, hd, hc, hz, .inr ⟨T, oT, ts, _, h1, hbT, hσT, hTa, hT, hdT, h3, rfl⟩⟩)
    · rw [if_neg (show ¬ ((v == rawInt L) = true) from by simpa using hv)]
      refine wpAny_bind (wpAny_setField hT hdT (Array.getElem?_eq_some_iff.mp h3).1 ?_)
      have := Fly.setT (P' := fun _ => True) (x := Value.none) hnb hun he hd hc hz h1 hbT hσT hTa hT hdT (Array.getElem?_eq_some_iff.mp h3).1 trivial R
      exact entry (s := { s with heap := _ }) hl hfr this.1 hf hnb hun ((Heap.get?_update_other _ _ hTa).trans he) hd hc hz h
theorem flight {a : Addr} {fo : Option Addr} {P : Option Value → Prop} (R : Rel G l σ s) (F : Fly G σ s.heap P a) (hP : ¬ P none)
    (h : ∀ h', Rel G l σ { s with heap := h' } → Fly G σ h' (fun t => t = some (fo.elim .none fun f => rawInt f)) a → Q () { s with heap := h' }) : wpAny M A (setFlight (.ref a) fo) Q E s := by
  obtain ⟨hnb, hun, oe, vs, he, hd, hc, hz, hh⟩ := F
  rcases hh with ⟨h1, hp⟩ | ⟨T, oT, ts, v, h1, hbT, hσT, hTa, hT, hdT, h3, hp⟩
  · exact (hP hp).elim
  · unfold setFlight
    refine wpAny_bind (wpAny_field he hd h1 ?_)
    rw [if_pos (show (Value.ref T != Value.none) = true from by simp)]
    have := Fly.setT (P' := fun t => t = some (fo.elim .none fun f => rawInt f)) (x := fo.elim Value.none fun f => rawInt f) hnb hun he hd hc hz h1 hbT hσT hTa hT hdT (Array.getElem?_eq_some_iff.mp h3).1 rfl R
    exact wpAny_setField hT hdT (Array.getElem?_eq_some_iff.mp h3).1 (h _ this.1 this.2)
/-- leaving a function -/
theorem leaves {env : Env} {outer : List Env} {L a : Addr} (hl : l = env :: outer) (hfr : A.frames = some l) (R : Rel G l σ s) (hf : env.frame = some L) (F : Fly G σ s.heap (PL L) a)
    (h : ∀ h', Rel G l σ { s with heap := h' } → Fly G σ h' PO a → Q () { s with heap := h' }) : wpAny M A (leaving env (.ref a)) Q E s := by
  unfold leaving
  refine wpAny_bind (note hl hfr R hf F fun h₁ R₁ F₁ => ?_)
  exact flight R₁ F₁ (by intro q; cases q) fun h₂ R₂ F₂ => h h₂ R₂ (F₂.mono fun t q => q)
/-- out of a loop, into the statement around -/
theorem back {env : Env} {outer : List Env} {L : Addr} {X : Xt} {e : Value} (hl : l = env :: outer) (hfr : A.frames = some l) (hf : env.frame = some L) (x : EX G l (PL L) X e s) :
    notedBy M A env (fun e s' => cameBackBy M A env (EX G l (PL L) X) e s') e s := by
  obtain ⟨a, τ, rfl, R, F, q⟩ := x
  unfold notedBy
  refine note hl hfr R hf F fun h₁ R₁ F₁ => ?_
  unfold cameBackBy
  obtain ⟨hnb, hun, oe, vs, he, hd, hc, hz, hh⟩ := F₁
  rcases hh with ⟨h1, hp⟩ | ⟨T, oT, ts, v, h1, hbT, hσT, hTa, hT, hdT, h3, hp⟩
  · cases hp
  · refine wpAny_bind (wpAny_field he hd h1 ?_)
    rw [if_neg (show ¬ ((Value.ref T == Value.none) = true) from by simp)]
    refine flight R₁ ⟨hnb, hun, oe, vs, he, hd, hc, hz, .inr ⟨T, oT, ts, v, h1, hbT, hσT, hTa, hT, hdT, h3, hp⟩⟩ (P := PN L) (by intro q; cases q) fun h₂ R₂ F₂ => ?_
    exact ⟨a, τ, rfl, R₂, F₂.mono fun t ht => by subst ht; rw [hf]; exact .inr (.inr rfl), q⟩
end
end
end Mine
end
section
open PySem PySem.W PySem.Calls PyProof.Rows
namespace Mine
open Sem (wp)
section
variable {G : Glob} {l : List Env} {σ : St} {s : Shared} {A : Around} {E : Value → Shared → Prop}
theorem Rel.qs {Q : Kt} {v : Value} {t : Tok} (R : Rel G l σ s) (q : Q (av v) σ) : QS G l Q v { s with toks := t } := ⟨σ, R.tok, q⟩
theorem Rel.qs0 {Q : Kt} {v : Value} (R : Rel G l σ s) (q : Q (av v) σ) : QS G l Q v s := ⟨σ, R, q⟩
theorem intBits_pow {a : Int} (h0 : 0 ≤ a) (h1 : a ≤ 10 ^ 60) : Builtin.Int.intBits a ≤ 200 := by
  have : a.natAbs < 2 ^ 200 := by
    have h2 : (10 : Int) ^ 60 < 2 ^ 200 := by decide
    lia
  unfold Builtin.Int.intBits
  by_cases h : a.natAbs = 0
  · rw [if_pos (by simpa using h)]; lia
  · rw [if_neg (by simpa using h)]
    have : a.natAbs.log2 < 200 := (Nat.log2_lt h).mpr this
    lia
theorem list_at (R : Rel G l σ s) {a : Addr} {xs : List V} (h : σ a = some (.list xs)) : ∃ vs n, s.heap.get? a = some { cls := .type "list", data := .seq vs n } ∧ vs.toList.map av = xs := by
  obtain ⟨_, ob, h1, vs, n, rfl, h2⟩ := R.objs a _ h
  exact ⟨vs, n, h1, h2⟩
theorem tup_at (R : Rel G l σ s) {a : Addr} {xs : List V} (h : σ a = some (.tup xs)) : ∃ vs n, s.heap.get? a = some { cls := .type "tuple", data := .seq vs n } ∧ vs.toList.map av = xs := by
  obtain ⟨_, ob, h1, vs, n, rfl, h2⟩ := R.objs a _ h
  exact ⟨vs, n, h1, h2⟩
theorem len_av {vs : Array Value} {xs : List V} (h : vs.toList.map av = xs) : vs.size = xs.length := by rw [← h]; simp
theorem Rel.news (R : Rel G l σ s) {Q : Kt} {ob : Obj} {o : AO} {t : Nat} (q : news σ o Q) (hm : OM G ob o) (hf : ob.isFreed = false) : QS G l Q (.ref s.heap.objs.size) { s with heap := s.heap.push ob, toks := t } :=
  ⟨_, R.push hm hf, q _ R.fresh⟩
theorem Rel.news0 (R : Rel G l σ s) {Q : Kt} {ob : Obj} {o : AO} (q : Mine.news σ o Q) (hm : OM G ob o) (hf : ob.isFreed = false) : QS G l Q (.ref s.heap.objs.size) { s with heap := s.heap.push ob } :=
  ⟨_, R.push (t := s.toks) hm hf, q _ R.fresh⟩
@[elab_as_elim] theorem onI_ind {P : Value → Prop} (v : Value) {k : Int → Prop} (h : onI (av v) k) (c : ∀ a t, k a → P (.int a t)) : P v := by
  cases v with
  | int a t => exact c a t h
  | _ => exact False.elim h
@[elab_as_elim] theorem onB_ind {P : Value → Prop} (v : Value) {k : List UInt8 → Prop} (h : onB (av v) k) (c : ∀ a t, k a.toList → P (.bytes a t)) : P v := by
  cases v with
  | bytes a t => exact c a t h
  | _ => exact False.elim h
@[elab_as_elim] theorem onS_ind {P : Value → Prop} (v : Value) {k : Str → Prop} (h : onS (av v) k) (c : ∀ a t, k a → P (.str a t)) : P v := by
  cases v with
  | str a t => exact c a t h
  | _ => exact False.elim h
@[elab_as_elim] theorem onR_ind {P : Value → Prop} (v : Value) {k : Addr → Prop} (h : onR (av v) k) (c : ∀ a, k a → P (.ref a)) : P v := by
  cases v with
  | ref a => exact c a h
  | _ => exact False.elim h
@[elab_as_elim] theorem on4_ind {P : Value → Prop} (v : Value) {kI : Int → Prop} {kB : List UInt8 → Prop} {kS : Str → Prop} {kR : Addr → Prop} (h : on4 (av v) kI kB kS kR) (cI : ∀ a t, kI a → P (.int a t)) (cB : ∀ a t, kB a.toList → P (.bytes a t))
    (cS : ∀ a t, kS a → P (.str a t)) (cR : ∀ a, kR a → P (.ref a)) : P v := by
  cases v with
  | int a t => exact cI a t h
  | bytes a t => exact cB a t h
  | str a t => exact cS a t h
  | ref a => exact cR a h
  | _ => exact False.elim h
theorem bin_ok {op : Operator} {v w : Value} {Q : Kt} (R : Rel G l σ s) (h : binV op (av v) (av w) σ Q) : wpAny (Md G) A (binaryOp op v w) (QS G l Q) E s := by
  cases op with
  | Add =>
    refine on4_ind v h (fun a t h => by exact onI_ind w h fun b u h => PySem.P.add_int (R.qs h)) (fun a t h => ?_) (fun a t h => ?_) (fun a h => ?_)
    · refine onB_ind w h fun b u h => ?_
      exact bytes_add_K (by simp only [List.size_toArray]; have := h.1; lia) rfl fun t' k => R.qs h.2
    · refine onS_ind w h fun b u h => ?_
      exact PyProof.Rows.add_str (fun t' k => R.qs h.2) (by rw [sizeLine_eq]; have := h.1; lia)
    · refine onR_ind w h fun b h => ?_
      obtain ⟨xs, ys, g1, g2, g3, hq⟩ := h
      obtain ⟨vs, n, k1, k2⟩ := list_at R g1
      obtain ⟨ws, m, k3, k4⟩ := list_at R g2
      refine PySem.P.add_list k1 k3 (R.news0 hq ⟨_, _, rfl, ?_⟩ rfl) (by rw [sizeLine_eq, len_av k2, len_av k4]; lia)
      rw [Array.toList_append, List.map_append, k2, k4]
  | Sub => exact onI_ind v h fun a t h => by exact onI_ind w h fun b u h => PySem.P.sub_int (R.qs h)
  | Mult =>
    refine on4_ind v h (fun a t h => ?_) (fun a t h => ?_) (fun a t h => False.elim h) (fun a h => False.elim h)
    · refine onI_ind w h fun b u h => ?_
      exact PySem.P.mul_int (R.qs h.2) (PySem.IntMulOk.of_right (PySem.intBits_le_64 (by have := h.1; lia) (by have := h.1; lia)))
    · refine onI_ind w h fun n u h => ?_
      obtain ⟨⟨g1, g2, g3⟩, hq⟩ := h
      obtain ⟨a⟩ := a
      obtain ⟨c, rfl⟩ : ∃ c, a = [c] := List.length_eq_one_iff.mp g1
      refine bytes_mul_any (by simp) (by lia) (by lia) (by simp) fun t' k => R.qs ?_
      have : (List.replicate n.toNat [c]).flatten = List.replicate n.toNat c := by
        induction n.toNat with
        | zero => rfl
        | succ k ih => rw [List.replicate_succ, List.flatten_cons, ih]; rfl
      simp only [av, this]
      exact hq
  | FloorDiv =>
    refine onI_ind v h fun a t h => ?_
    refine onI_ind w h fun b u h => ?_
    refine floordiv_int (by have := h.1; lia) (R.qs ?_) (.inl (PyProof.noPylong_small (by have := h.1; lia)))
    rw [Int.fdiv_eq_ediv_of_nonneg _ (by have := h.1; lia)]; exact h.2
  | Mod =>
    refine onI_ind v h fun a t h => ?_
    refine onI_ind w h fun b u h => ?_
    refine mod_int' (by have := h.1; lia) (R.qs ?_)
    rw [Int.fmod_eq_emod_of_nonneg _ (by have := h.1; lia)]; exact h.2
  | Pow =>
    refine onI_ind v h fun a t h => ?_
    refine onI_ind w h fun b u h => ?_
    have hb := intBits_pow h.1.1 h.1.2.1
    have : (Builtin.Int.intBits a : Int) ≤ 200 := by exact_mod_cast hb
    exact PyProof.Rows.pow_int h.1.2.2.1 (Int.le_trans (Int.mul_le_mul this h.1.2.2.2 h.1.2.2.1 (by decide)) (by decide)) (R.qs h.2)
  | _ => exact False.elim h
theorem gives_bytes_has {b : Array UInt8} {t u : Tok} {i : Int} (h0 : 0 ≤ i) (h1 : i < 256) : Gives (Builtin.«bytes.__contains__» ⟨[.bytes b t, .int i u], []⟩) (.val (.bool (b.contains i.toNat.toUInt8))) := by
  refine .of_wp fun M A E s Q hq => ?_
  show wpAny M A (Builtin.Bytes.containsIn "bytes.__contains__" (.bytes b t) (.int i u) >>= fun r => ret (.bool r)) _ E s
  refine wpAny_bind ?_
  unfold Builtin.Bytes.containsIn
  refine wpAny_bind (wpAny_attempt (wpAny_of_eq (a := i) rfl ?_))
  refine wpAny_bind (wpAny_of_eq (a := some b) KBy.buffer_eq ?_)
  show wpAny M A (if (decide (i < 0) || decide (i ≥ 256)) = true then _ else pure (b.contains i.toNat.toUInt8)) _ E s
  rw [if_neg (by simp only [Bool.or_eq_true, decide_eq_true_eq]; lia)]
  exact wpAny_pure (wpAny_pure ⟨_, rfl, hq⟩)
theorem bytes_mem (b : List UInt8) (c : UInt8) : b.toArray.contains c = decide (c ∈ b) := by
  rw [Bool.eq_iff_iff]; simp
theorem bytes_mem' (b : Array UInt8) (c : UInt8) : b.contains c = decide (c ∈ b.toList) := bytes_mem b.toList c
theorem ints_beq (a b : Int) : (a == b) = decide (a = b) := by rw [Bool.eq_iff_iff]; simp
theorem bytes_beq (a b : Array UInt8) : (a.toList == b.toList) = decide (a.toList = b.toList) := by rw [Bool.eq_iff_iff]; simp
/-- the answer of a comparison -/
noncomputable def BS (G : Glob) (l : List Env) (σ : St) (k : Bool → Prop) : Value → Shared → Prop := fun v s' => ∃ r, v = .bool r ∧ Rel G l σ s' ∧ k r
theorem strs_beq (a b : Str) : (a == b) = decide (a = b) := by
  rw [Bool.eq_iff_iff]; simp
theorem IsDats.get {n : Nat} : ∀ {vs : List V} {ds : List D}, IsDats σ n vs ds → ∀ (j : Nat) (v : V), vs[j]? = some v → ∃ d, ds[j]? = some d ∧ IsDat σ n v d
  | [], _, _, j, v, h => by simp at h
  | w :: vs, ds, hd, j, v, h => by
    cases hd with
    | cons h1 h2 =>
      cases j with
      | zero => simp at h; subst h; exact ⟨_, rfl, h1⟩
      | succ j => exact IsDats.get h2 j v (by simpa using h)
theorem IsDats.len {n : Nat} : ∀ {vs : List V} {ds : List D}, IsDats σ n vs ds → vs.length = ds.length
  | [], _, hd => by cases hd; rfl
  | w :: vs, _, hd => by cases hd with | cons h1 h2 => simp [IsDats.len h2]
theorem eqAt_bytes {a : Array UInt8} {t u : Tok} : SeqAt.EqAt A s (.bytes a t) (.bytes a u) true := fun prog w E Q h => by
  unfold eqBool
  refine wpAny_holding ?_
  by_cases hab : t = u
  · subst hab
    rw [if_pos (beq_self_eq_true _)]
    exact wpAny_bind (wpAny_rule (wpAny_pure h))
  · rw [if_neg (by simpa using hab)]
    refine wpAny_bind (m := richCompare .Eq (.bytes a t) (.bytes a u)) ?_
    refine eq_bytes (Q := fun v s' => wpAny (model prog w) A (truthOfDropped v) Q E s') ?_
    rw [beq_self_eq_true]
    exact wpAny_truthy_bool h
theorem isTup {n : Nat} {a : Addr} {d : List D} (h : IsDat σ (n + 1) (.ref a) (.tup d)) : ∃ xs, σ a = some (.tup xs) ∧ IsDats σ n xs d := by
  cases h with
  | tup g1 g2 => exact ⟨_, g1, g2⟩
theorem all_true {a b : Array Value} (h : a.size = b.size) : ((List.range (min a.size b.size)).all (fun _ => true) && a.size == b.size) = true := by
  rw [h, List.all_eq_true.mpr fun _ _ => rfl, beq_self_eq_true]; rfl
theorem item_at {xs : Array Value} {vs : List V} {j : Nat} (k : xs.toList.map av = vs) (h : j < xs.size) : vs[j]? = some (av xs[j]) := by
  rw [← k]; simp [h]
theorem eqAt_dat : ∀ (n : Nat) {A : Around} {s : Shared} {v w : Value} {d : D}, Rel G l σ s → IsDat σ n (av v) d → IsDat σ n (av w) d → A.units + n + 10 < cLine → SeqAt.EqAt A s v w true
  | n, A, s, v, w, d, R, h1, h2, hu => by
    generalize hv : av v = v' at h1
    generalize hw : av w = w' at h2
    cases h1 with
    | none => cases h2; rw [av_none hv, av_none hw]; exact SeqAt.EqAt.same _
    | int _ i =>
      cases h2
      obtain ⟨t, rfl⟩ := av_int hv; obtain ⟨u, rfl⟩ := av_int hw
      have := SeqAt.EqAt.int_int (A := A) (s := s) i t i u
      rwa [beq_self_eq_true] at this
    | str _ x =>
      cases h2
      obtain ⟨t, rfl⟩ := av_str hv; obtain ⟨u, rfl⟩ := av_str hw
      have := SeqAt.EqAt.str_str (A := A) (s := s) x t x u
      rwa [show (x == x) = true from by simp] at this
    | bytes _ b =>
      cases h2
      obtain ⟨t, rfl⟩ := av_bytes hv; obtain ⟨u, rfl⟩ := av_bytes hw
      exact eqAt_bytes
    | @tup m a vs ds g1 g2 =>
      cases h2 with
      | @tup _ b ws _ g3 g4 =>
      obtain rfl := av_ref hv; obtain rfl := av_ref hw
      obtain ⟨xs, n1, k1, k2⟩ := tup_at R g1
      obtain ⟨ys, n2, k3, k4⟩ := tup_at R g3
      have hs : xs.size = ys.size := by rw [len_av k2, len_av k4, IsDats.len g2, IsDats.len g4]
      by_cases hab : a = b
      · subst hab; exact SeqAt.EqAt.same _
      · refine SeqAt.EqAt.of_refs hab ?_
        have := SeqAt.RcAt.tuples (A := A) (s := s) (e := fun _ => true) (l := a) (b := b) (items := xs) (items2 := ys) ⟨_, k1, rfl, _, rfl⟩ ⟨_, k3, rfl, _, rfl⟩ (by lia) fun j h1 h2 => by
          obtain ⟨d1, q1, q2⟩ := IsDats.get g2 j _ (item_at k2 h1)
          obtain ⟨d2, q3, q4⟩ := IsDats.get g4 j _ (item_at k4 h2)
          obtain rfl := Option.some.inj (q1.symm.trans q3)
          exact eqAt_dat m R q2 q4 (by simp only [Around.in1_units]; lia)
        rwa [all_true hs] at this
    | @list m a vs ds g1 g2 =>
      cases h2 with
      | @list _ b ws _ g3 g4 =>
      obtain rfl := av_ref hv; obtain rfl := av_ref hw
      obtain ⟨xs, n1, k1, k2⟩ := list_at R g1
      obtain ⟨ys, n2, k3, k4⟩ := list_at R g3
      have hs : xs.size = ys.size := by rw [len_av k2, len_av k4, IsDats.len g2, IsDats.len g4]
      by_cases hab : a = b
      · subst hab; exact SeqAt.EqAt.same _
      · refine SeqAt.EqAt.of_refs hab ?_
        have := SeqAt.RcAt.lists (A := A) (s := s) (e := fun _ => true) (l := a) (b := b) (items := xs) (items2 := ys) ⟨_, k1, rfl, _, rfl⟩ ⟨_, k3, rfl, _, rfl⟩ hs (by lia) fun j h1 h2 => by
          obtain ⟨d1, q1, q2⟩ := IsDats.get g2 j _ (item_at k2 h1)
          obtain ⟨d2, q3, q4⟩ := IsDats.get g4 j _ (item_at k4 h2)
          obtain rfl := Option.some.inj (q1.symm.trans q3)
          exact eqAt_dat m R q2 q4 (by simp only [Around.in1_units]; lia)
        rwa [List.all_eq_true.mpr fun _ _ => rfl] at this
theorem eqAt_item {n : Nat} {xs ys : Array Value} {vs ws : List V} {ds : List D} {j : Nat} (R : Rel G l σ s) (g2 : IsDats σ n vs ds) (g4 : IsDats σ n ws ds) (k2 : xs.toList.map av = vs) (k4 : ys.toList.map av = ws) (h1 : j < xs.size) (h2 : j < ys.size) (hu : A.units + n + 10 < cLine) : SeqAt.EqAt A s xs[j] ys[j] true := by
  obtain ⟨d1, q1, q2⟩ := IsDats.get g2 j _ (item_at k2 h1)
  obtain ⟨d2, q3, q4⟩ := IsDats.get g4 j _ (item_at k4 h2)
  obtain rfl := Option.some.inj (q1.symm.trans q3)
  exact eqAt_dat n R q2 q4 hu
theorem cmp_ok {op : CmpOp} {v w : Value} {k : Bool → Prop} (R : Rel G l σ s) (hu : A.units + 220 < cLine)
    (h : cmpV op (av v) (av w) σ k) : wpAny (Md G) A (compareOp op v w) (BS G l σ k) E s := by
  have z {v w : Value} {r : Bool} (c : ∀ {Q : Value → Shared → Prop}, Q (.bool r) s → wpAny (Md G) A (compareOp op v w) Q E s) (h : k r) : wpAny (Md G) A (compareOp op v w) (BS G l σ k) E s := c ⟨r, rfl, R, h⟩
  cases op with
  | Lt => exact onI_ind v h fun a t h => by exact onI_ind w h fun b u h => z PySem.P.lt_int h
  | LtE => exact onI_ind v h fun a t h => by exact onI_ind w h fun b u h => z PySem.P.le_int h
  | Gt => exact onI_ind v h fun a t h => by exact onI_ind w h fun b u h => z PySem.P.gt_int h
  | GtE => exact onI_ind v h fun a t h => by exact onI_ind w h fun b u h => z PySem.P.ge_int h
  | Eq =>
    refine on4_ind v h (fun a t h => by exact on4_ind w h (fun b u h => z PySem.P.eq_int (by rw [ints_beq]; exact h)) (fun b u h => False.elim h) (fun b u h => z (PySem.EqBoolInt.of_rc (SeqAt.RcAt.int_str _ _ _ _)) h) (fun b h => False.elim h))
      (fun a t h => by exact onB_ind w h fun b u h => z eq_bytes (by rw [bytes_beq]; exact h)) (fun a t h => by exact onS_ind w h fun b u h => z PyProof.Rows.eq_str (by rw [strs_beq]; exact h)) (fun a h => ?_)
    refine onS_ind w h fun b u h => ?_
    obtain ⟨⟨xs, g1⟩, hk⟩ := h
    obtain ⟨vs, n, k1, k2⟩ := tup_at R g1
    exact z (PySem.EqBoolInt.of_rc (SeqAt.RcAt.tuple_str _ _ ⟨_, k1, rfl, _, rfl⟩ (by lia))) hk
  | NotEq =>
    refine on4_ind v h (fun a t h => by exact onI_ind w h fun b u h => z PySem.P.ne_int (by rw [bne, ints_beq]; exact h)) (fun a t h => by exact onB_ind w h fun b u h => z ne_bytes (by rw [bne, bytes_beq]; exact h))
      (fun a t h => by exact onS_ind w h fun b u h => z PyProof.Rows.ne_str (by rw [bne, strs_beq]; exact h)) (fun a h => ?_)
    refine onR_ind w h fun b h => ?_
    rcases h with ⟨xs, g1, g2, g3⟩ | ⟨d, g1, g2, g3⟩
    · obtain ⟨vs, n, k1, k2⟩ := list_at R g1
      obtain ⟨ws, m, k3, k4⟩ := list_at R g2
      have hw : ws.size = 0 := len_av k4
      have hv := len_av k2
      cases xs with
      | nil =>
        refine PySem.EqBoolInt.of_rcne (SeqAt.RcNeAt.lists (e := fun _ => true) ⟨_, k1, rfl, _, rfl⟩ ⟨_, k3, rfl, _, rfl⟩ (by rw [hw]; exact hv) (by lia) fun j h1 h2 => by lia) ⟨_, rfl, R, ?_⟩
        rw [show vs.size = 0 from hv]; exact g3
      | cons x r =>
        refine PySem.EqBoolInt.of_rcne (SeqAt.RcNeAt.lists_lengths ⟨_, k1, rfl, _, rfl⟩ ⟨_, k3, rfl, _, rfl⟩ (by rw [hw, hv]; rfl) (by lia)) ⟨_, rfl, R, g3⟩
    · obtain ⟨xs, g4, g5⟩ := isTup g1
      obtain ⟨ys, g6, g7⟩ := isTup g2
      obtain ⟨vs, n, k1, k2⟩ := tup_at R g4
      obtain ⟨ws, m, k3, k4⟩ := tup_at R g6
      have hs : vs.size = ws.size := by rw [len_av k2, len_av k4, IsDats.len g5, IsDats.len g7]
      refine PySem.EqBoolInt.of_rcne (SeqAt.RcNeAt.tuples (e := fun _ => true) ⟨_, k1, rfl, _, rfl⟩ ⟨_, k3, rfl, _, rfl⟩ (by lia) fun j h1 h2 => eqAt_item R g5 g7 k2 k4 h1 h2 (by simp only [Around.in1_units]; lia)) ⟨_, rfl, R, ?_⟩
      rw [all_true hs]; exact g3
  | In =>
    refine onI_ind v h fun a t h => ?_
    refine onB_ind w h fun b u h => z (in_gives (typeIs_bytes s _ u) FB.slot_bytes_contains FB.entry_bytes_contains (FB.args_bytes_contains_2 _ _) (gives_bytes_has h.1.1 (by have := h.1; lia))) ?_
    rw [bytes_mem']; exact h.2
  | NotIn =>
    refine onI_ind v h fun a t h => ?_
    refine onB_ind w h fun b u h => z (notIn_gives (typeIs_bytes s _ u) FB.slot_bytes_contains FB.entry_bytes_contains (FB.args_bytes_contains_2 _ _) (gives_bytes_has h.1.1 (by have := h.1; lia))) ?_
    rw [bytes_mem']; exact h.2
  | _ => exact False.elim h
end
end Mine
end
section
open PySem PySem.W PySem.Calls PyProof.Rows
namespace Mine
open Sem (wp)
section
variable {G : Glob} {l : List Env} {σ : St} {s : Shared} {A : Around} {E : Value → Shared → Prop}
theorem subs_or (slice : Expr) (o i : Value) : subscripted slice false o i = operate [i, o] (getItem o i) ∨ subscripted slice false o i = operate [o, i] (getItem o i) := by
  cases slice with
  | Slice a b c d => cases c <;> first | exact .inl rfl | exact .inr rfl
  | _ => exact .inr rfl
theorem sub_tail {value slice : Expr} {o i : Value} {T id : String} {Q : Value → Shared → Prop} (hT : s.TypeIs o T) (hl : typeLookup (.type T) "__getitem__" = pure (some (.builtin id)))
    (h : wpAny (Md G) A (getItem o i) Q E s) : wpAny (Md G) A (subscriptTail value slice o i) Q E s := by
  unfold subscriptTail
  refine wpAny_bind ?_
  rw [getitemInPython_of_ne hT.not_modules]
  refine wpAny_bind (wpAny_specialOf hT hl ?_)
  refine wpAny_pure (wpAny_bind ?_)
  have fin : ∀ vs, wpAny (Md G) A (operate vs (getItem o i)) (fun r s₃ => wpAny (Md G) A (letTemporaryGo value o r >>= fun _ => pure r) Q E s₃) E s := fun vs =>
    wpAny_operating (wpAny_mono h (fun r s₃ h₃ => wpAny_bind (wpAny_letTemporaryGo (wpAny_pure h₃))) fun _ _ x => x)
  rcases subs_or slice o i with e | e <;> rw [e] <;> exact fin _
theorem list_av {vs : Array Value} {xs : List V} {k : Nat} {v : V} (h : vs.toList.map av = xs) (e : xs[k]? = some v) : ∃ x, vs[k]? = some x ∧ av x = v := by
  subst h
  rw [List.getElem?_map] at e
  obtain ⟨x, h1, h2⟩ := Option.map_eq_some_iff.mp e
  exact ⟨x, by simpa using h1, h2⟩
theorem sub_ok {value slice : Expr} {v w : Value} {Q : Kt} (R : Rel G l σ s) (h : subV (av v) (av w) σ Q) : wpAny (Md G) A (subscriptTail value slice v w) (QS G l Q) E s := by
  refine on4_ind v h (fun _ _ h => False.elim h) (fun b t h => ?_) (fun _ _ h => False.elim h) (fun a h => ?_)
  · refine onI_ind w h fun i u h => ?_
    exact sub_tail (typeIs_bytes s _ t) FB.slot_bytes_getitem.lookup (getItem_bytes (by have := h.1.2.2; lia) h.1.1 h.1.2.1 (R.qs h.2))
  · refine onI_ind w h fun i u h => ?_
    obtain ⟨xs, v, hx, g1, g2, g3, hq⟩ := h
    rcases hx with hx | hx
    · obtain ⟨vs, n, k1, k2⟩ := list_at R hx
      obtain ⟨x, e1, rfl⟩ := list_av k2 g3
      have hl : s.heap.IsList _ vs := ⟨_, k1, rfl, _, rfl⟩
      exact sub_tail hl.typeIs list_getitem_lookup (wpAny_getItem_list hl g1 (by lia) e1 (R.qs0 hq))
    · obtain ⟨vs, n, k1, k2⟩ := tup_at R hx
      obtain ⟨x, e1, rfl⟩ := list_av k2 g3
      have ht : IsTup s.heap _ vs := ⟨_, k1, rfl, _, rfl⟩
      refine sub_tail ht.typeIs slot_tuple_getitem.lookup (getItem_tuple ht (by lia) (by lia) (j := i.toNat) ?_ e1 (R.qs0 hq))
      have hlt := (Array.getElem?_eq_some_iff.mp e1).1
      unfold seqIndex?
      have hn : ¬ i < 0 := by lia
      simp only [hn, if_false]
      rw [if_pos (by simp only [Bool.and_eq_true, decide_eq_true_eq]; lia)]
noncomputable def Part : Option V → Value → Prop
  | none, v => v = .none
  | some x, v => av v = x
theorem clip {b : List UInt8} {i' j' : Nat} : ((b.take (j' : Int).toNat).drop (i' : Int).toNat) = (b.drop (min i' b.length)).take (min j' b.length - min i' b.length) := by
  simp only [Int.toNat_natCast]
  rw [List.drop_take]
  apply List.ext_getElem?
  intro n
  simp only [List.getElem?_take, List.getElem?_drop]
  rcases Nat.le_total i' b.length with h1 | h1
  · rw [Nat.min_eq_left h1]
    rcases Nat.le_total j' b.length with h2 | h2
    · rw [Nat.min_eq_left h2]
    · rw [Nat.min_eq_right h2]
      by_cases hn : n < b.length - i'
      · rw [if_pos hn, if_pos (by lia)]
      · rw [if_neg hn]
        split
        · exact List.getElem?_eq_none (by lia)
        · rfl
  · rw [Nat.min_eq_right h1]
    split <;> split <;> first | rfl | (rw [List.getElem?_eq_none (by lia)]; try rw [List.getElem?_eq_none (by lia)])
theorem part_none {v : Value} (h : Part none v) : v = .none := h
/-- a bound of a slice -/
theorem onO_ind {lo : Option V} {vl : Value} {k : V → Prop} {k0 P : Prop} (hl : Part lo vl) (h : onO lo k k0) (c : k (av vl) → P) (c0 : vl = .none → k0 → P) : P := by
  cases lo with
  | none => exact c0 hl h
  | some x => exact c (by rw [show av vl = x from hl]; exact h)
theorem slice_ok {value slice : Expr} {v vl vu : Value} {lo up : Option V} {Q : Kt} (R : Rel G l σ s) (hl : Part lo vl) (hu : Part up vu) (h : sliceV (av v) lo up σ Q) :
    wpAny (Md G) A (subscriptTail value slice v (.ref s.heap.objs.size)) (QS G l Q) E { s with heap := s.heap.push { cls := .type "slice", data := .fields #[vl, vu, .none] } } := by
  have R' : Rel G l σ { s with heap := s.heap.push { cls := .type "slice", data := .fields #[vl, vu, .none] } } := R.keeps (t := s.toks) (fun _ _ e => Heap.get?_push_of_some _ e)
  refine on4_ind v h (fun _ _ h => False.elim h) (fun b t h => ?_) (fun _ _ h => False.elim h) (fun a h => ?_)
  · refine onO_ind hl h (fun h => ?_) fun _ h => False.elim h
    clear hl
    revert R'
    refine onI_ind vl h fun i u h R' => ?_
    refine onO_ind hu h (fun h => ?_) fun _ h => False.elim h
    clear hu
    revert R'
    refine onI_ind vu h fun j u' h R' => ?_
    obtain ⟨⟨g1, g2, g3⟩, hq⟩ := h
    refine sub_tail (typeIs_bytes _ _ t) FB.slot_bytes_getitem.lookup (getItem_meets (typeIs_bytes _ _ _) (by decide) FB.slot_bytes_getitem FB.entry_bytes_getitem (FB.args_bytes_getitem_2 _ _)
      (KBc.meets_slice2 _ t _ (.int i u) (.int j u')) ⟨Heap.IsSliceOf.new _ _ _ _, Nat.le_trans (KBc.size_picked_le _ _ _) (by rw [← Array.length_toList, sizeLine_eq]; lia), fun t' k => R'.qs ?_⟩)
    rw [KBc.picked_eq]
    obtain ⟨i', rfl⟩ := Int.eq_ofNat_of_zero_le g1
    obtain ⟨j', rfl⟩ := Int.eq_ofNat_of_zero_le g2
    simp only [Option.elim, clipAt_nat, ← Array.length_toList]
    rw [clip] at hq
    exact hq
  · refine onO_ind hl h (fun h => ?_) fun e h => ?_
    · clear hl
      revert R'
      refine onI_ind vl h fun i u h R' => ?_
      refine onO_ind hu h (fun h => False.elim h) fun e h => ?_
      subst e
      obtain ⟨xs, hx, g1, g2, g3, hq⟩ := h
      obtain ⟨vs, n, k1, k2⟩ := tup_at R' hx
      have ht : IsTup _ _ vs := ⟨_, k1, rfl, _, rfl⟩
      obtain ⟨i', rfl⟩ := Int.eq_ofNat_of_zero_le (show 0 ≤ i by lia)
      refine sub_tail ht.typeIs slot_tuple_getitem.lookup (getItem_tuple_from ht (a := i') (Heap.IsSliceOf.new _ _ _ _) (by lia) (by rw [len_av k2]; lia) (R'.news0 hq ⟨_, _, rfl, ?_⟩ rfl) (by rw [sizeLine_eq, len_av k2]; lia))
      simp [← k2, List.map_drop]
    · subst e
      refine onO_ind hu h (fun h => ?_) fun _ h => False.elim h
      clear hu
      revert R'
      refine onI_ind vu h fun j u' h R' => ?_
      obtain ⟨xs, hx, g1, g2, hq⟩ := h
      obtain ⟨vs, n, k1, k2⟩ : ∃ vs n, ({ s with heap := s.heap.push { cls := .type "slice", data := .fields #[.none, .int j u', .none] } } : Shared).heap.get? a = some { cls := .type "list", data := .seq vs n } ∧ vs.toList.map av = xs := by
        rcases hx with hx | ⟨vs, n, hx, e⟩
        · exact list_at R' hx
        · obtain ⟨_, ob, h1, rfl⟩ := R'.objs _ _ hx
          exact ⟨vs, n, h1, e⟩
      have hl : Heap.IsList _ _ vs := ⟨_, k1, rfl, _, rfl⟩
      refine sub_tail hl.typeIs list_getitem_lookup (wpAny_getItem_list_slice hl (Heap.IsSliceOf.new _ _ _ _) .none (.int j u') .none (by simp) (R'.news0 hq ⟨_, _, rfl, ?_⟩ rfl) (by rw [sizeLine_eq, len_av k2]; lia))
      obtain ⟨j', rfl⟩ := Int.eq_ofNat_of_zero_le g1
      rw [slicePick_upto']
      simp [← k2, List.map_take]
end
end Mine
end
section
open PySem PySem.W PySem.Calls PyProof.Rows
namespace Mine
open Sem (wp)
/-- what the class C of the fragment is -/
structure ClsF (K : Frag) (C : Addr) : Prop where
  ga : findIn K (.ref C) "__getattribute__" = some (some (.builtin "object.__getattribute__"))
  gk : findIn K (.ref C) "__getattr__" = some none
  sa : findIn K (.ref C) "__setattr__" = some (some (.builtin "object.__setattr__"))
  pg : plainGet K C "__class__" = true
  hd : hasDictIn K C = true
  fc : findIn K (.ref C) "__class__" = some (some (.builtin "object.__class__"))
  mo : mroIn K C (.type "object") = some true
  po : plainOver K C = true
  mks : makesIn K C = true
structure MethF (K : Frag) (f : F) : Prop where
  fi : findIn K (.ref (mcls f)) (mname f) = some (some (.ref f.addr))
  ty : typeIn K (.ref f.addr) = some (.type "function")
  gt : specialIn K (.ref f.addr) "__get__" = some (some (.builtin "function.__get__"))
  tk : takesIn K (.ref f.addr) = some false
structure KFact (K : Frag) : Prop where
  top : (K.lookup 471).isSome = true
  meth : ∀ f ∈ methF, MethF K f
  fn : ∀ f ∈ allF, fnIn K f.addr = true
  kw : keepIn K (.ref clsWire) = true
  ka : keepIn K (.ref clsAtom) = true
  kf : keepIn K (.ref clsFault) = true
  wAt : findIn K (.ref clsWire) "at" = some none
  wData : findIn K (.ref clsWire) "data" = some none
  aText : findIn K (.ref clsAtom) "text" = some none
  fAt : findIn K (.ref clsFault) "at" = some none
  fga : findIn K (.ref clsFault) "__getattribute__" = some (some (.builtin "BaseException.__getattribute__"))
  fgk : findIn K (.ref clsFault) "__getattr__" = some none
  fhd : hasDictIn K clsFault = true
  fbe : mroIn K clsFault (.type "BaseException") = some true
  fty : typeIn K (.ref clsFault) = some (.type "type")
  wire : ClsF K clsWire
  atom : ClsF K clsAtom
  gs : specialIn K (.builtin "object.__class__") "__get__" = some (some (.builtin "getset_descriptor.__get__"))
  tk : takesIn K (.builtin "object.__class__") = some true
  atomSelf : kitOne K (.ref clsAtom) (.ref clsAtom) = some true
  wireAtom : kitOne K (.ref clsWire) (.ref clsAtom) = some false
  listAtom : kitOne K (.type "list") (.ref clsAtom) = some false
  tupAtom : kitOne K (.type "tuple") (.ref clsAtom) = some false
  intAtom : kitOne K (.type "int") (.ref clsAtom) = some false
  bytesAtom : kitOne K (.type "bytes") (.ref clsAtom) = some false
  listBytes : kitOne K (.type "list") (.type "bytes") = some false
  tupBytes : kitOne K (.type "tuple") (.type "bytes") = some false
  intBytes : kitOne K (.type "int") (.type "bytes") = some false
  bytesBytes : kitOne K (.type "bytes") (.type "bytes") = some true
  listLT : kitAny K (.type "list") [.type "list", .type "tuple"] = some true
  tupLT : kitAny K (.type "tuple") [.type "list", .type "tuple"] = some true
  intLT : kitAny K (.type "int") [.type "list", .type "tuple"] = some false
theorem Rel.big {G : Glob} {l : List Env} {σ : St} {s : Shared} (R : Rel G l σ s) (O : G.Ok) (F : KFact G.K) : 472 ≤ s.heap.objs.size := by
  obtain ⟨o, ho⟩ := Option.isSome_iff_exists.mp F.top
  exact Heap.lt_size (R.kin O _ _ ho)
theorem Rel.newsT {G : Glob} {l : List Env} {σ : St} {s : Shared} (R : Rel G l σ s) (O : G.Ok) (F : KFact G.K) {Q : Kt} {ob : Obj} {o : AO} {t : Nat} (q : Mine.newsT σ o Q) (hm : OM G ob o) (hf : ob.isFreed = false) : QS G l Q (.ref s.heap.objs.size) { s with heap := s.heap.push ob, toks := t } :=
  ⟨_, R.push hm hf, q _ R.fresh (R.big O F)⟩
section
variable {G : Glob} {l : List Env} {σ : St} {s : Shared} {A : Around} {E : Value → Shared → Prop}
theorem list_map_av {vs : Array Value} {xs : List V} (h : vs.toList.map av = xs) {ns : List Int} (e : intsOf xs = some ns) : IntsAre vs.toList ns := by
  subst h
  generalize vs.toList = l at e
  induction l generalizing ns with
  | nil => cases e; exact .nil
  | cons v r ih =>
    rw [List.map_cons] at e
    generalize hv : av v = v' at e
    cases v' <;> first | cases e | skip
    obtain ⟨t, rfl⟩ := av_int hv
    obtain ⟨ms, h1, rfl⟩ := Option.map_eq_some_iff.mp e
    exact .cons _ _ (ih h1)
theorem bools_get {vs : Array Value} {xs : List V} (h : vs.toList.map av = xs) {bs : List Bool} (e : boolsOf xs = some bs) : vs.size = bs.length ∧ ∀ (i : Nat) v, vs[i]? = some v → v = .bool (bs.getD i true) := by
  subst h
  rw [← Array.length_toList]
  simp only [← Array.getElem?_toList]
  generalize vs.toList = l at e
  induction l generalizing bs with
  | nil => cases e; exact ⟨rfl, fun i v h => by simp at h⟩
  | cons v r ih =>
    rw [List.map_cons] at e
    generalize hv : av v = v' at e
    cases v' <;> first | cases e | skip
    obtain ⟨ms, h1, rfl⟩ := Option.map_eq_some_iff.mp e
    obtain ⟨g1, g2⟩ := ih h1
    refine ⟨by simp [g1], fun i v h => ?_⟩
    cases i with
    | zero => simp at h; subst h; simpa using av_bool hv
    | succ i => simpa using g2 i v (by simpa using h)
theorem range_all (bs : List Bool) (n : Nat) (h : n = bs.length) : (List.range n).all (fun i => bs.getD i true) = bs.all id := by
  subst h
  rw [Bool.eq_iff_iff]
  simp only [List.all_eq_true, List.mem_range, id]
  constructor
  · intro h b hb
    obtain ⟨i, hi, rfl⟩ := List.mem_iff_getElem.mp hb
    simpa [hi] using h i hi
  · intro h i hi
    simpa [hi] using h _ (List.getElem_mem hi)
theorem inst_at {C d : Addr} {a : Addr} (R : Rel G l σ s) (h : σ a = some (.inst C d)) : s.heap.get? a = some (instObj C d) := by
  obtain ⟨_, ob, h1, rfl⟩ := R.objs a _ h
  exact h1
theorem map1 {vs : List Value} {a : V} (h : vs.map av = [a]) : ∃ v, vs = [v] ∧ av v = a := by
  obtain ⟨v, r, rfl, h1, h2⟩ := List.map_eq_cons_iff.mp h
  exact ⟨v, by rw [List.map_eq_nil_iff.mp h2], h1⟩
theorem map2 {vs : List Value} {a b : V} (h : vs.map av = [a, b]) : ∃ v w, vs = [v, w] ∧ av v = a ∧ av w = b := by
  obtain ⟨v, r, rfl, h1, h2⟩ := List.map_eq_cons_iff.mp h
  obtain ⟨w, rfl, h3⟩ := map1 h2
  exact ⟨v, w, rfl, h1, h3⟩
theorem two_types {ws : Array Value} {a b : String} (h : ws.toList.map av = [.type a, .type b]) : ws.toList = [.type a, .type b] := by
  obtain ⟨v, w, e, h1, h2⟩ := map2 h
  rw [e, av_type h1, av_type h2]
theorem listCls (R : Rel G l σ s) {a : Addr} {xs : List V} (h : σ a = some (.list xs)) : ∃ o, s.heap.get? a = some o ∧ o.cls = .type "list" := by
  obtain ⟨vs, n, k1, k2⟩ := list_at R h
  exact ⟨_, k1, rfl⟩
theorem tupCls (R : Rel G l σ s) {a : Addr} {xs : List V} (h : σ a = some (.tup xs)) : ∃ o, s.heap.get? a = some o ∧ o.cls = .type "tuple" := by
  obtain ⟨vs, n, k1, k2⟩ := tup_at R h
  exact ⟨_, k1, rfl⟩
theorem ltAt (R : Rel G l σ s) {c : Addr} (h : σ c = some (.tup [.type "list", .type "tuple"])) : ∃ ws m, s.heap.get? c = some { cls := .type "tuple", data := .seq ws m } ∧ ws.toList = [.type "list", .type "tuple"] := by
  obtain ⟨ws, m, k3, k4⟩ := tup_at R h
  exact ⟨ws, m, k3, two_types k4⟩
theorem isi_ok {v c : Value} {Q : Kt} {r : Bool} (O : G.Ok) (KF : KFact G.K) (R : Rel G l σ s) (h : Isi σ (av v) (av c) r) (q : Q (.bool r) σ) :
    wpAny (Md G) A (call (.builtin "isinstance") [v, c]) (QS G l Q) E s := by
  have X := R.kin O
  have fin : ∀ tk, QS G l Q (.bool r) { s with toks := tk } := fun tk => R.qs q
  generalize hv : av v = v' at h
  generalize hc : av c = c' at h
  cases h with
  | @own a d m ho hd =>
    obtain rfl := av_ref hv; obtain rfl := av_ref hc
    obtain ⟨_, od, g1, g2⟩ := R.objs _ _ hd
    have I : InstAt s.heap a (instObj clsAtom d) clsAtom (some od) := ⟨inst_at R ho, rfl, rfl, g1⟩
    exact kia_one (kitx_own KF.atom.pg KF.atom.hd KF.atom.fc KF.gs KF.tk KF.atom.mo) X I KF.atomSelf (by simp) fin
  | la ho => obtain rfl := av_ref hv; obtain rfl := av_ref hc; exact kia_one kitx_list X (listCls R ho) KF.listAtom (by simp) fin
  | ta ho => obtain rfl := av_ref hv; obtain rfl := av_ref hc; exact kia_one kitx_tuple X (tupCls R ho) KF.tupAtom (by simp) fin
  | ll hc' ho =>
    obtain rfl := av_ref hv; obtain rfl := av_ref hc
    obtain ⟨ws, m, k3, ew⟩ := ltAt R hc'
    exact kia_tup kitx_list X (listCls R ho) (its := [.type "list", .type "tuple"]) (by rw [k3, ← ew]) KF.listLT (by simp) fin
  | tl hc' ho =>
    obtain rfl := av_ref hv; obtain rfl := av_ref hc
    obtain ⟨ws, m, k3, ew⟩ := ltAt R hc'
    exact kia_tup kitx_tuple X (tupCls R ho) (its := [.type "list", .type "tuple"]) (by rw [k3, ← ew]) KF.tupLT (by simp) fin
  | lb ho => obtain rfl := av_ref hv; obtain rfl := av_type hc; exact kia_one kitx_list X (listCls R ho) KF.listBytes (by simp) fin
  | tb ho => obtain rfl := av_ref hv; obtain rfl := av_type hc; exact kia_one kitx_tuple X (tupCls R ho) KF.tupBytes (by simp) fin
  | ba => obtain ⟨t, rfl⟩ := av_bytes hv; obtain rfl := av_ref hc; exact kia_one kitx_bytes X trivial KF.bytesAtom (by simp) fin
  | bb => obtain ⟨t, rfl⟩ := av_bytes hv; obtain rfl := av_type hc; exact kia_one kitx_bytes X trivial KF.bytesBytes (by simp) fin
  | ia => obtain ⟨t, rfl⟩ := av_int hv; obtain rfl := av_ref hc; exact kia_one kitx_int X trivial KF.intAtom (by simp) fin
  | il hc' =>
    obtain ⟨t, rfl⟩ := av_int hv; obtain rfl := av_ref hc
    obtain ⟨ws, m, k3, ew⟩ := ltAt R hc'
    exact kia_tup kitx_int X trivial (its := [.type "list", .type "tuple"]) (by rw [k3, ← ew]) KF.intLT (by simp) fin
  | ib => obtain ⟨t, rfl⟩ := av_int hv; obtain rfl := av_type hc; exact kia_one kitx_int X trivial KF.intBytes (by simp) fin
theorem ite_inv {c : Prop} [Decidable c] {a b P : Prop} (h : if c then a else b) (h1 : c → a → P) (h2 : b → P) : P := by
  by_cases hc : c
  · exact h1 hc (by rwa [if_pos hc] at h)
  · exact h2 (by rwa [if_neg hc] at h)
@[elab_as_elim] theorem on1_ind {P : List Value → Prop} (vs : List Value) {k : V → Prop} (h : on1 (vs.map av) k) (c : ∀ v, k (av v) → P [v]) : P vs := by
  match vs, h with
  | [], h => exact False.elim h
  | [v], h => exact c v h
  | _ :: _ :: _, h => exact False.elim h
@[elab_as_elim] theorem on2_ind {P : List Value → Prop} (vs : List Value) {k : V → V → Prop} (h : on2 (vs.map av) k) (c : ∀ v w, k (av v) (av w) → P [v, w]) : P vs := by
  match vs, h with
  | [], h => exact False.elim h
  | [_], h => exact False.elim h
  | [v, w], h => exact c v w h
  | _ :: _ :: _ :: _, h => exact False.elim h
theorem all_ok {a : Addr} {xs : List V} {bs : List Bool} {Q : Kt} (R : Rel G l σ s) (hA : A.handled = none) (hx : σ a = some (.list xs)) (hb : boolsOf xs = some bs) (q : Q (.bool (bs.all id)) σ) : wpAny (Md G) A (call (.builtin "all") [.ref a]) (QS G l Q) E s := by
  obtain ⟨vs, n, k1, k2⟩ := list_at R hx
  obtain ⟨e1, e2⟩ := bools_get k2 hb
  refine call_all_walk (wpAny_pyIter_list (items := vs) ⟨_, k1, rfl, _, rfl⟩ ⟨s.heap.objs.size, _, _, _, _, _, fun i => bs.getD i true, rfl, Walks.list (A := A.in1) hA _ a (Nat.ne_of_lt (Heap.lt_size k1)) vs, ?_, ?_, fun h' tk hk => ?_⟩)
  · exact ⟨⟨_, Heap.get?_push_size _ rfl, rfl, rfl⟩, ⟨_, Heap.get?_push_of_some _ k1, rfl, _, rfl⟩⟩
  · intro i v s' Q' E' hv hQ
    rw [e2 i v hv]
    exact wpAny_truthy_bool hQ
  · rw [range_all bs _ e1]
    exact ⟨σ, R.keeps (t := tk) fun b o e => hk b o (by simp only [List.mem_singleton]; exact Nat.ne_of_lt (Heap.lt_size e)) (Heap.get?_push_of_some _ e), q⟩
theorem len_ok {a : Addr} {xs : List V} {Q : Kt} (R : Rel G l σ s) (hx : σ a = some (.list xs)) (hl : xs.length ≤ 1000000) (q : Q (.int xs.length) σ) : wpAny (Md G) A (call (.builtin "len") [.ref a]) (QS G l Q) E s := by
  obtain ⟨vs, n, k1, k2⟩ := list_at R hx
  refine call_len_list (l := a) (items := vs) ⟨_, k1, rfl, _, rfl⟩ (by rw [len_av k2]; lia) (R.qs ?_)
  rw [len_av k2]; exact q
theorem blt_ok {n : Nat} {b : String} {vs : List Value} {Q : Kt} (O : G.Ok) (KF : KFact G.K) (R : Rel G l σ s) (hA : A.handled = none) (h : bltV b (vs.map av) σ Q) :
    wpAny (Md G) A (call (.builtin b) vs) (QS G l Q) E s := by
  refine ite_inv h (fun e h => ?_) fun h => ite_inv h (fun e h => ?_) fun h => ite_inv h (fun e h => ?_) fun h => ite_inv h (fun e h => ?_) fun h => False.elim h
  all_goals subst e
  · refine on1_ind vs h fun v h => ?_
    refine on4_ind v h (fun _ _ h => False.elim h) (fun b t h => len_bytes (by rw [← Array.length_toList]; have := h.1; lia) (R.qs h.2)) (fun _ _ h => False.elim h) (fun a h => ?_)
    obtain ⟨xs, hx, g1, hq⟩ := h
    exact len_ok R hx g1 hq
  · refine on1_ind vs h fun v h => ?_
    exact onI_ind v h fun i t h => PySem.P.chr_of_int (by simp only [Bool.or_eq_false_iff, decide_eq_false_iff_not]; have := h.1; lia) (R.qs h.2)
  · refine on2_ind vs h fun v c h => ?_
    obtain ⟨r, hr, hq⟩ := h
    exact isi_ok O KF R hr hq
  · refine on1_ind vs h fun v h => ?_
    refine onR_ind v h fun a h => ?_
    obtain ⟨xs, bs, hx, hb, g1, hq⟩ := h
    exact all_ok R hA hx hb hq
theorem In.of {ns : List Int} (h : ∀ n ∈ ns, 0 ≤ n ∧ n < 256) : ns.map (fun n => n.toNat.toUInt8) = (byteArr ns).toList := by
  unfold byteArr; simp
theorem digits_val (l : List Nat) (h : ∀ c ∈ l, 48 ≤ c ∧ c ≤ 57) : Mine.digitsVal l = ((PySem.NumText.digitsVal l : Nat) : Int) := by
  unfold Mine.digitsVal PySem.NumText.digitsVal
  have : ∀ (l : List Nat) (a : Nat), (∀ c ∈ l, 48 ≤ c ∧ c ≤ 57) → l.foldl (fun (n : Int) (c : Nat) => n * 10 + ((c : Int) - 48)) (a : Int) = ((l.foldl (fun acc c => acc * 10 + (c - 48)) a : Nat) : Int) := by
    intro l
    induction l with
    | nil => intro a _; rfl
    | cons c r ih =>
      intro a h
      rw [List.foldl_cons, List.foldl_cons, ← ih _ fun d hd => h d (List.mem_cons_of_mem _ hd)]
      have := h c List.mem_cons_self
      congr 1
      lia
  exact this l 0 h
theorem typ_ok {b : String} {vs : List Value} {Q : Kt} (O : G.Ok) (R : Rel G l σ s) (hA : A.handled = none)
    (own : (b = "bytes" ∧ ∃ v, vs = [v] ∧ ((∃ x, av v = .bytes x ∧ x.length ≤ 1000000 ∧ Q (.bytes x) σ) ∨ ∃ a x, v = .ref a ∧ σ a = some (.barr x) ∧ x.length ≤ 1000000 ∧ Q (.bytes x) σ)) ∨ (b = "bytearray" ∧ vs = [] ∧ Mine.news σ (.barr []) Q) → wpAny (Md G) A (call (.type b) vs) (QS G l Q) E s)
    (h : typV b (vs.map av) σ Q) :
    wpAny (Md G) A (call (.type b) vs) (QS G l Q) E s := by
  refine ite_inv h (fun e h => ?_) fun h => ite_inv h (fun e h => ?_) fun h => ite_inv h (fun e h => ?_) fun h => ite_inv h (fun e h => ?_) fun h => ite_inv h (fun e h => ?_) fun h => False.elim h
  all_goals subst e
  · clear own
    refine on1_ind vs h fun v h => ?_
    refine onI_ind v h fun n t h => ?_
    refine call_range_1 (R.news h.2 ⟨s.toks, t, s.toks + 1, ?_⟩ rfl)
    rw [Int.toNat_of_nonneg h.1.1]
  · revert own
    refine on1_ind vs h fun v h => ?_
    refine on4_ind v h (fun _ _ h => False.elim h) (fun b t h own => own (.inl ⟨rfl, _, rfl, .inl ⟨_, rfl, h⟩⟩)) (fun _ _ h => False.elim h) (fun a h own => ?_)
    rcases h with ⟨xs, ns, hx, hn, g1, g2, hq⟩ | ⟨x, hx, g1, hq⟩
    · clear own
      obtain ⟨vs, n, k1, k2⟩ := list_at R hx
      have hi := list_map_av k2 hn
      refine call_bytes_ints (vs := vs.toList) (ns := ns) ⟨_, k1, rfl, _, rfl⟩ hi g2 (by rw [Array.length_toList, len_av k2, sizeLine_eq]; lia) hA fun h' t k hk => ⟨σ, R.keeps (t := k) hk, ?_⟩
      show Q (.bytes (byteArr ns).toList) σ
      rw [← In.of g2]; exact hq
    · exact own (.inl ⟨rfl, _, rfl, .inr ⟨a, x, rfl, hx, g1, hq⟩⟩)
  · revert own
    cases vs with
    | nil => exact fun own => own (.inr ⟨rfl, rfl, h⟩)
    | cons _ _ => exact False.elim h
  · clear own
    refine on1_ind vs h fun v h => ?_
    refine onR_ind v h fun a h => ?_
    obtain ⟨xs, hx, g1, hq⟩ := h
    obtain ⟨vs, n, k1, k2⟩ := list_at R hx
    refine call_tuple_list (items := vs) ⟨_, k1, rfl, _, rfl⟩ (fun h' hk => ?_) (by rw [len_av k2, sizeLine_eq]; lia)
    have R' : Rel G l σ { s with heap := h' } := R.keeps (t := s.toks) hk
    exact R'.news0 hq ⟨_, _, rfl, k2⟩ rfl
  · clear own
    refine on1_ind vs h fun v h => ?_
    refine onS_ind v h fun x t h => ?_
    obtain ⟨⟨g1, g2, g3⟩, hq⟩ := h
    refine PySem.W.KIN.call_text (intText_digits g3 (fun e => ?_) (by lia)) (by lia) (R.qs ?_)
    · have : x.length = x.cps.toList.length := (Array.length_toList).symm
      rw [e] at this
      simp at this; lia
    · rw [← digits_val _ g3]; exact hq
end
end Mine
end
section
open PySem PySem.W PySem.Calls PyProof.Rows
namespace Mine
open Sem (wp)
/-! the walk under stacks where no decoder holds a buffer -/
noncomputable def okC (c : Code) : Prop := ∀ (M : Model) (v : Value) (q : Pos) (s : Shared), wp M ⟨c, none, none, [], none⟩ (Builtin.Bytes.exported v) (fun b _ _ => b = false) (fun _ _ _ => False) q s
noncomputable def Below (Γ : Ctx) : Prop := ∀ x ∈ Γ.below, okC x.1
noncomputable def wN {α : Type} (M : Model) (A : Around) (t : Sem α) (Q : α → Shared → Prop) (E : Value → Shared → Prop) (s : Shared) : Prop :=
  ∀ Γ p, Γ.In A → okC Γ.code → Below Γ → wp M Γ t (fun a _ s' => Q a s') (fun e _ s' => E e s') p s
noncomputable def cN (M : Model) (A : Around) (c : Code) (R : Result → Shared → Prop) (s : Shared) : Prop :=
  ∀ Γ p, Γ.code = c → Γ.Below A → Below Γ → wpCode M Γ R p s
section
variable {α β : Type} {M : Model} {A : Around} {E : Value → Shared → Prop} {s : Shared}
theorem wN.of {t : Sem α} {Q : α → Shared → Prop} (h : wpAny M A t Q E s) : wN M A t Q E s := fun Γ p i _ _ => h Γ p i
theorem cN.of {c : Code} {R : Result → Shared → Prop} (h : codeAny M A c R s) : cN M A c R s := fun Γ p i b _ => h Γ p i b
theorem nPure {a : α} {Q : α → Shared → Prop} (h : Q a s) : wN M A (pure a) Q E s := .of (wpAny_pure h)
theorem nThrow {e : Value} {Q : α → Shared → Prop} (h : E e s) : wN M A (throw e : Sem α) Q E s := .of (wpAny_throw h)
theorem nMono {t : Sem α} {Q Q' : α → Shared → Prop} {E' : Value → Shared → Prop} (h : wN M A t Q E s) (hQ : ∀ a s, Q a s → Q' a s) (hE : ∀ e s, E e s → E' e s) : wN M A t Q' E' s :=
  fun Γ p i o b => Sem.wp_mono M Γ t (fun a _ s => hQ a s) (fun e _ s => hE e s) p s (h Γ p i o b)
theorem nBind {m : Sem α} {f : α → Sem β} {Q : β → Shared → Prop} (h : wN M A m (fun a s' => wN M A (f a) Q E s') E s) : wN M A (m >>= f) Q E s := fun Γ p i o b => by
  rw [Sem.wp_bind']
  exact Sem.wp_mono M Γ m (fun a p' s' h' => h' Γ p' i o b) (fun _ _ _ h' => h') p s (h Γ p i o b)
theorem nOnRaise {m : Sem α} {k : Value → Sem Unit} {Q : α → Shared → Prop} (h : wN M A m Q (fun e s' => wN M A (k e) (fun _ s'' => E e s'') E s') s) : wN M A (m.onRaise k) Q E s := fun Γ p i o b => by
  rw [Sem.wp_onRaise]
  exact Sem.wp_mono M Γ m (fun _ _ _ h' => h') (fun e p' s' h' => h' Γ p' i o b) p s (h Γ p i o b)
theorem nTryCatch {m : Sem α} {k : Value → Sem α} {Q : α → Shared → Prop} (h : wN M A m Q (fun e s' => wN M A (k e) Q E s') s) : wN M A (tryCatch m k) Q E s := fun Γ p i o b => by
  rw [Sem.wp_tryCatch']
  exact Sem.wp_mono M Γ m (fun _ _ _ h' => h') (fun e p' s' h' => h' Γ p' i o b) p s (h Γ p i o b)
theorem nAttempt {m : Sem α} {Q : Except Value α → Shared → Prop} (h : wN M A m (fun a => Q (.ok a)) (fun e => Q (.error e)) s) : wN M A m.attempt Q E s :=
  fun Γ p i o b => by rw [Sem.wp_attempt]; exact h Γ p i o b
theorem nHolding {vs : List Value} {m : Sem α} {Q : α → Shared → Prop} (h : wN M A m Q E s) : wN M A (holding vs m) Q E s := fun Γ p i o b => by rw [Sem.wp_holding]; exact h Γ p i o b
theorem nKeep {vs : List Value} {m : Sem α} {Q : α → Shared → Prop} (h : wN M A m Q E s) : wN M A (m.keep vs) Q E s := fun Γ p i o b => by rw [Sem.wp_keep]; exact h Γ p i o b
theorem nOperate {vs : List Value} {m : Sem Value} {Q : Value → Shared → Prop} (h : wN M A m Q E s) : wN M A (operate vs m) Q E s := fun Γ p i o b => by rw [Sem.wp_operate]; exact h Γ p i o b
theorem nStand {pos : Pos} {Q : Unit → Shared → Prop} (h : Q () s) : wN M A (standAt pos) Q E s := .of (wpAny_standAt h)
theorem nPoint {Q : Unit → Shared → Prop} (h : Q () s) : wN M A point Q E s := .of (wpAny_point h)
theorem nRule {t : String} {Q : Unit → Shared → Prop} (h : Q () s) : wN M A (rule t) Q E s := .of (wpAny_rule h)
theorem nEq {t : Sem α} {a : α} {Q : α → Shared → Prop} (e : t = pure a) (h : Q a s) : wN M A t Q E s := by rw [e]; exact nPure h
theorem nIf {c : Prop} [Decidable c] {a b : Sem α} {Q : α → Shared → Prop} (hc : c) (h : wN M A a Q E s) : wN M A (if c then a else b) Q E s := by rw [if_pos hc]; exact h
theorem nElse {c : Prop} [Decidable c] {a b : Sem α} {Q : α → Shared → Prop} (hc : ¬ c) (h : wN M A b Q E s) : wN M A (if c then a else b) Q E s := by rw [if_neg hc]; exact h
/-- a leaf, then the rest -/
theorem leaf {m : Sem α} {f : α → Sem β} {Q : β → Shared → Prop} (h : wpAny M A m (fun a s' => wN M A (f a) Q E s') E s) : wN M A (m >>= f) Q E s := nBind (.of h)
theorem below_enter {Γ : Ctx} {c : Code} {h : Option Value} {p : Pos} (o : okC Γ.code) (b : Below Γ) : Below (Γ.enter c h p) := fun x hx => by
  have hx' : x ∈ (Γ.code, p) :: Γ.below := hx
  rcases List.mem_cons.mp hx' with rfl | hx'
  · exact o
  · exact b x hx'
theorem nRun {c : Code} {h : Option Value} {Q : Flow → Shared → Prop} (hc : cN M (A.mark h) c (fun r s' => match r with | .ok f => Q f s' | .error e => E e s') s) (hnb : h ≠ some byPass := by intro x; cases x) :
    wN M A (run c h) Q E s := fun Γ p i o b => by rw [Sem.wp_run]; exact hc _ p rfl (i.enter c h p hnb) (below_enter o b)
theorem nRunValue {c : Code} {Q : Value → Shared → Prop} (hc : cN M A c (fun r s' => match r with | .ok (.ret v) => Q v s' | .ok _ => False | .error e => E e s') s) : wN M A (runValue c) Q E s :=
  fun Γ p i o b => by rw [Sem.wp_runValue]; exact hc _ p rfl (i.enter c none p (by intro x; cases x)) (below_enter o b)
noncomputable def Ret (Q : Value → Shared → Prop) (E : Value → Shared → Prop) : Result → Shared → Prop := fun r s' => match r with | .ok (.ret v) => Q v s' | .ok _ => False | .error e => E e s'
theorem nCall {f : Value} {pos : List Value} {kw : List (Str × Value)} {Q : Value → Shared → Prop} (hc : cN M A (.call f ⟨pos, kw⟩) (Ret Q E) s) : wN M A (call f pos kw) Q E s := nRunValue hc
theorem cMono {c : Code} {R R' : Result → Shared → Prop} (h : cN M A c R s) (hR : ∀ r s, R r s → R' r s) : cN M A c R' s := fun Γ p i b n => wpCode_mono hR (h Γ p i b n)
theorem cTree {c : Code} {R : Result → Shared → Prop} (ok : okC c)
    (h : wN M (A.under c) (M.den c) (fun fin s' => match fin with | .done f => R (.ok f) s' | .again c' => c'.quiet = true ∧ cN M A c' R s') (fun e s' => R (.error e) s') s) : cN M A c R s := fun Γ p hc hΓ b => by
  rw [wpCode_iff_wp, hc]
  refine Sem.wp_mono M Γ _ (fun fin p' s' h' => ?_) (fun _ _ _ h' => h') p s (h Γ p (hc ▸ hΓ.in) (hc ▸ ok) b)
  cases fin with
  | done f => exact h'
  | again c' => exact ⟨h'.1, h'.2 (Γ.goto c') p' rfl (hΓ.goto c') b⟩
theorem cLoop {c : Code} {R : Result → Shared → Prop} (ok : okC c) (hq : c.quiet = true) (I : Nat → Shared → Prop)
    (turn : ∀ n s, I n s → wN M (A.under c) (M.den c) (fun fin s' => match fin with | .done f => R (.ok f) s' | .again c' => (c' = c ∧ ∃ m, m < n ∧ I m s') ∨ c'.quiet = true ∧ cN M A c' R s') (fun e s' => R (.error e) s') s)
    (n : Nat) (h : I n s) : cN M A c R s := by
  induction n using Nat.strongRecOn generalizing s with
  | ind n ih =>
    refine cTree ok (nMono (turn n s h) (fun fin s' hf => ?_) fun _ _ h' => h')
    cases fin with
    | done f => exact hf
    | again c' =>
      rcases hf with ⟨rfl, m, hm, hI⟩ | hf
      · exact ⟨hq, ih m hm hI⟩
      · exact hf
theorem ok_call {f : Value} {a : Args} : okC (.call f a) := fun _ _ _ _ => rfl
theorem ok_func {b : List Stmt} {e : Env} : okC (.func b e) := fun _ _ _ _ => rfl
theorem ok_while {t : Expr} {b o : List Stmt} {e : Env} : okC (.whileLoop t b o e) := fun _ _ _ _ => rfl
theorem ok_for {t : Expr} {i : Value} {b o : List Stmt} {e : Env} : okC (.forLoop t i b o e) := fun _ _ _ _ => rfl
theorem by_any {γ : Type} {f : γ → Bool} {l : List γ} {Q : Bool → Shared → Prop} (hl : ∀ x ∈ l, [x].any f = false) (h : Q false s) : Q (l.any f) s := by
  have e : l.any f = false := by
    rw [List.any_eq_false]
    intro x hx e
    have := hl x hx
    rw [List.any_cons, e] at this
    cases this
  rw [e]; exact h
/-- no decoder, no other borrower: nothing has lent the buffer -/
theorem nExported {v : Value} {Q : Bool → Shared → Prop} (h : Q false s) : wN M A (Builtin.Bytes.exported v) Q E s := fun Γ p i o b => by
  show Q ((((Γ.code, p) :: Γ.below).any _)) s
  refine by_any (fun x hx => ?_) h
  have ok : okC x.1 := by
    rcases List.mem_cons.mp hx with rfl | hx
    · exact o
    · exact b x hx
  exact ok M v x.2 s
end
end Mine
end
section
open PySem PySem.W PySem.Calls PyProof.Rows
namespace Mine
open Sem (wp)
open Builtin
theorem low_each : ∀ c < 128, Unicode.lowerOf c = [lowCp c] := by decide +kernel
theorem lower_eq {x : Str} (h : ∀ c ∈ x.cps.toList, c < 128) : (⟨placed x fun i _ => Unicode.lowerAt x.cps i⟩ : Str) = lowStr x := by
  have key : (x.cps.mapIdx fun i c => (Unicode.lowerAt x.cps i).toArray) = x.cps.map fun c => #[lowCp c] := by
    apply Array.ext
    · simp
    · intro i h1 h2
      simp only [Array.getElem_mapIdx, Array.getElem_map]
      have hi : i < x.cps.size := by simpa using h1
      have hc : x.cps[i] < 128 := h _ (by simp)
      unfold Unicode.lowerAt
      rw [Array.getElem?_eq_getElem hi]
      have hn : (x.cps[i] == 0x3A3) = false := by rw [beq_eq_false_iff_ne]; lia
      simp only [hn, Bool.false_and, Bool.false_eq_true, if_false]
      rw [low_each _ hc]
  unfold placed lowStr
  rw [key]
  congr 1
  apply Array.toList_inj.mp
  rw [Array.toList_flatten]
  simp only [Array.toList_map, List.map_map]
  induction x.cps.toList with
  | nil => rfl
  | cons c r ih => simp_all
section
variable {G : Glob} {l : List Env} {σ : St} {s : Shared} {A : Around} {E : Value → Shared → Prop}
theorem lower_ok {x : Str} {t : Tok} {Q : Kt} (R : Rel G l σ s) (hl : x.length ≤ 1000000) (hx : ∀ c ∈ x.cps.toList, c < 128) (q : Q (.str (lowStr x)) σ) : wpAny (Md G) A (call (.builtin "str.lower") [.str x t]) (QS G l Q) E s := by
  have hs : (lowStr x).length = x.length := by unfold lowStr; simp [Str.length]
  have hf : (placed x fun i _ => Unicode.lowerAt x.cps i).size = x.length := by
    have := congrArg Str.length (lower_eq hx)
    rw [hs] at this; exact this
  refine call_gives F.slot_str_lower (typeIs_str s x t) F.entry_str_lower (F.args_str_lower_1 _) (gives_str_lower x t ?_) ?_
  · rw [hf]; unfold Builtin.Str.tooLong; simp only [decide_eq_false_iff_not, sizeLine_eq]; lia
  · rw [lower_eq hx]
    exact ⟨by rw [hs, sizeLine_eq]; lia, R.qs q⟩
theorem join_text : ∀ (ss : List Str), Txt.join Str.empty ss = ⟨(ss.flatMap (·.cps.toList)).toArray⟩ := fun ss => by
  have h := StrLaws.glued_eq_join Str.empty ss
  show (Txt.join Str.empty ss) = _
  rw [show Txt.join Str.empty ss = Str.join Str.empty ss from h]
  clear h
  have app : ∀ x y : Str, x ++ y = ⟨x.cps ++ y.cps⟩ := fun _ _ => rfl
  induction ss with
  | nil => rfl
  | cons x r ih =>
    cases r with
    | nil => show x = _; simp
    | cons y r =>
      show x ++ Str.empty ++ Str.join Str.empty (y :: r) = _
      rw [ih, app, app]
      simp [Str.empty]
theorem strs_of {vs : List Value} : ∀ {ss : List Str}, strsOf (vs.map av) = some ss → ∃ l : List (Str × Tok), vs = strValues l ∧ l.map (·.1) = ss := by
  induction vs with
  | nil => intro ss h; cases h; exact ⟨[], rfl, rfl⟩
  | cons v r ih =>
    intro ss h
    rw [List.map_cons] at h
    generalize hv : av v = v' at h
    cases v' <;> first | cases h | skip
    obtain ⟨t, rfl⟩ := av_str hv
    obtain ⟨ms, h1, rfl⟩ := Option.map_eq_some_iff.mp h
    obtain ⟨l, rfl, rfl⟩ := ih h1
    exact ⟨(_, t) :: l, rfl, rfl⟩
theorem join_ok {a : Addr} {t : Tok} {xs : List V} {ss : List Str} {Q : Kt} (R : Rel G l σ s) (hx : σ a = some (.list xs)) (hs : strsOf xs = some ss) (hl : xs.length ≤ 1000000) (h1 : ∀ x ∈ ss, x.length = 1)
    (q : Q (.str ⟨(ss.flatMap (·.cps.toList)).toArray⟩) σ) : wpAny (Md G) A (call (.builtin "str.join") [.str Str.empty t, .ref a]) (QS G l Q) E s := by
  obtain ⟨vs, n, k1, k2⟩ := list_at R hx
  obtain ⟨l', e1, e2⟩ := strs_of (vs := vs.toList) (by rw [k2]; exact hs)
  have hlen : ss.length = xs.length := by rw [← e2, ← k2, e1]; simp [strValues]
  refine SC.join (l := l') (texts := ss) ⟨_, k1, rfl, n, by rw [← e1]⟩ e2 ?_ fun t' k => R.qs ?_
  · unfold JoinOk
    rw [StrLaws.joinTotal]
    have : (ss.map (·.length)).sum = ss.length := by
      clear hs hlen e2 q
      induction ss with
      | nil => rfl
      | cons x r ih => rw [List.map_cons, List.sum_cons, h1 x List.mem_cons_self, ih fun y hy => h1 y (List.mem_cons_of_mem _ hy), List.length_cons]; lia
    rw [this]
    unfold Builtin.Str.tooLong
    have e0 : Str.empty.length = 0 := rfl
    simp only [e0, Nat.mul_zero, Nat.add_zero, Bool.not_eq_true', decide_eq_false_iff_not, sizeLine_eq]
    lia
  · rw [join_text]; exact q
theorem append_ok {a : Addr} {v : Value} {xs : List V} {Q : Kt} (R : Rel G l σ s) (hx : σ a = some (.list xs)) (hl : xs.length ≤ 1000000) (q : Q .none (σ.set a (.list (xs ++ [av v])))) :
    wpAny (Md G) A (call (.builtin "list.append") [.ref a, v]) (QS G l Q) E s := by
  obtain ⟨vs, n, k1, k2⟩ := list_at R hx
  refine append_at k1 (fun h' hs ho => ?_) (by rw [len_av k2, sizeLine_eq]; lia)
  have hm : OM G { cls := .type "list", data := .seq (vs.push v) (n + 1) } (.list (xs ++ [av v])) := ⟨_, _, rfl, by rw [Array.toList_push, List.map_append, k2]; rfl⟩
  exact ⟨_, R.put (t := s.toks) hx (fun b o hb e => (hs.2 b hb).trans e) ho hm (by intro m e; cases e), q⟩
/-! bytes of ASCII, read as text -/
theorem loop_pure {τ : Type} (f : Nat → τ → Sem (ForInStep τ)) (g : Nat → τ) : ∀ (m i j : Nat), (∀ k x, i ≤ k → k < i + m → f x (g k) = pure (.yield (g (k + 1)))) → forIn (List.range' j m) (g i) f = (pure (g (i + m)) : Sem τ)
  | 0, i, j, _ => by rw [List.range'_zero, List.forIn_nil]; rfl
  | m + 1, i, j, h => by
    rw [List.range'_succ, List.forIn_cons, h i j (Nat.le_refl _) (by lia), pure_bind]
    show forIn _ (g (i + 1)) f = _
    rw [loop_pure f g m (i + 1) (j + 1) fun k x h1 h2 => h k x (by lia) (by lia)]
    congr 2; lia
theorem ascii_run {id : String} {b : Array UInt8} (h : ∀ c ∈ b.toList, c.toNat < 128) (hl : b.size ≤ 1000000) : _codecs.runDecoder id _codecs.asciiDecoder none true b 0 [] = pure ((strOf b.toList).cps, b.size) := by
  unfold _codecs.runDecoder
  simp only [Std.Legacy.Range.forIn_eq_forIn_range', Std.Legacy.Range.size]
  have hn : (b.size - 0 + 1 - 1) / 1 = b.size := by simp
  rw [hn]
  have key := loop_pure (τ := Nat × Array Nat × _codecs.Faults) (fun x __s =>
    if __s.snd.fst.size > sizeLine then do
      unsupported "str:memory"
      if __s.fst ≥ b.size then pure (ForInStep.done (__s.fst, __s.snd.fst, __s.snd.snd))
        else
          match _codecs.asciiDecoder.find true b __s.fst with
          | _codecs.Found.text cs nxt => pure (ForInStep.yield (nxt, __s.snd.fst ++ cs.toArray, __s.snd.snd))
          | _codecs.Found.refuse tag => do
            unsupported (toString id ++ toString ":" ++ toString tag)
            pure (ForInStep.yield (__s.fst, __s.snd.fst, __s.snd.snd))
          | _codecs.Found.bad stop reason mayGrow =>
            if (mayGrow && !true) = true then do
              rule (toString id ++ toString ".held-back")
              pure (ForInStep.done (__s.fst, __s.snd.fst, __s.snd.snd))
            else do
              rule (toString id ++ toString ".fault")
              let __x ←
                _codecs.decodeFault id __s.snd.snd none _codecs.asciiDecoder.own _codecs.asciiDecoder.name b
                    __s.fst stop reason
              pure (ForInStep.yield (__x.2.snd, __s.snd.fst ++ __x.2.fst, __x.fst))
    else
      if __s.fst ≥ b.size then pure (ForInStep.done (__s.fst, __s.snd.fst, __s.snd.snd))
      else
        match _codecs.asciiDecoder.find true b __s.fst with
        | _codecs.Found.text cs nxt => pure (ForInStep.yield (nxt, __s.snd.fst ++ cs.toArray, __s.snd.snd))
        | _codecs.Found.refuse tag => do
          unsupported (toString id ++ toString ":" ++ toString tag)
          pure (ForInStep.yield (__s.fst, __s.snd.fst, __s.snd.snd))
        | _codecs.Found.bad stop reason mayGrow =>
          if (mayGrow && !true) = true then do
            rule (toString id ++ toString ".held-back")
            pure (ForInStep.done (__s.fst, __s.snd.fst, __s.snd.snd))
          else do
            rule (toString id ++ toString ".fault")
            let __x ←
              _codecs.decodeFault id __s.snd.snd none _codecs.asciiDecoder.own _codecs.asciiDecoder.name b
                  __s.fst stop reason
            pure (ForInStep.yield (__x.2.snd, __s.snd.fst ++ __x.2.fst, __x.fst)))
    (fun k => (k, ((b.toList.take k).map (·.toNat)).toArray, ({ } : _codecs.Faults))) b.size 0 0 (fun k x _ hk => by
      have hk' : k < b.size := by lia
      have hc : (b.getD k 0).toNat < 128 := by
        simp only [Array.getD, hk', dif_pos]; exact h _ (by simp)
      dsimp only
      rw [if_neg (by simp only [List.size_toArray, List.length_map, List.length_take, sizeLine_eq]; lia), if_neg (by lia)]
      have hf : _codecs.asciiDecoder.find true b k = _codecs.Found.text [(b.getD k 0).toNat] (k + 1) := by
        show (if (b.getD k 0).toNat < 128 then _ else _) = _
        rw [if_pos hc]; rfl
      rw [hf]
      dsimp only
      congr 3
      refine Prod.ext ?_ rfl
      show _ = ((b.toList.take (k + 1)).map (·.toNat)).toArray
      rw [List.take_add_one, List.map_append]
      simp [Array.getD, hk'])
  refine (congrArg (· >>= fun __s => pure (__s.2.1, __s.1)) key).trans ?_
  rw [pure_bind]
  simp only [strOf, Nat.zero_add, List.take_of_length_le (show b.toList.length ≤ b.size from by simp)]
theorem entry_ascii {c : UInt8} {cs : List UInt8} {t u : Tok} : «bytes.decode» ⟨[.bytes (c :: cs).toArray t, .str (Str.ofString "ascii") u], []⟩ = (mkStr (Str.ofString "utf-8") >>= fun _ => mkStr (Str.ofString "ascii") >>= fun e => mkStr (Str.ofString "bytes.decode") >>= fun d =>
    call (.builtin "_codecs.decode.text") [.bytes (c :: cs).toArray t, e, .none, d] >>= fun v => ret v) := by kernel_rfl
theorem entry_none {t u : Tok} : «bytes.decode» ⟨[.bytes #[] t, .str (Str.ofString "ascii") u], []⟩ = (rule "bytes.decode.empty" >>= fun _ => retStr Str.empty) := by kernel_rfl
theorem args_decode (a b : Value) : argsOk "bytes.decode" ⟨[a, b], []⟩ := by
  unfold argsOk; rw [signature?_of (id := "bytes.decode") (n := ['e', 'd', 'o', 'c', 'e', 'd']) (o := ['s', 'e', 't', 'y', 'b']) (by kernel_rfl) FB.owner_bytes]; kernel_rfl
theorem road_ascii {id : String} {b : Array UInt8} : _codecs.decodeRoad id b (Str.ofString "ascii") none [] = (_codecs.runDecoder id _codecs.asciiDecoder none true b 0 [] >>= fun r => mkStr ⟨r.1⟩) := by kernel_rfl
theorem decode_ok {b : List UInt8} {t u : Tok} {Q : Kt} (R : Rel G l σ s) (hl : b.length ≤ 1000000) (hb : ∀ c ∈ b, c.toNat < 128) (q : Q (.str (strOf b)) σ) :
    wpAny (Md G) A (call (.builtin "bytes.decode") [.bytes b.toArray t, .str (Str.ofString "ascii") u]) (QS G l Q) E s := by
  have hsz : (strOf b).length = b.length := by simp [strOf, Str.length]
  cases b with
  | nil =>
    refine call_meets (S := fun _ R s' => s' = s ∧ ∀ t' k, R (.ok (.ret (.str (strOf []) t'))) { s with toks := k }) FB.slot_bytes_decode (typeIs_bytes _ _ _) FB.entry_bytes_decode (args_decode _ _) ?_ ⟨rfl, fun t' k => R.qs q⟩
    refine .of_wp fun prog w A R s' hS => ?_
    obtain ⟨rfl, h⟩ := hS
    rw [entry_none]
    exact wpAny_bind (wpAny_rule (wpAny_bind (wpAny_mkStr (wpAny_pure ⟨_, rfl, h _ _⟩) (by decide))))
  | cons c cs =>
    refine call_meets (S := fun _ R s' => s' = s ∧ ∀ t' k, R (.ok (.ret (.str (strOf (c :: cs)) t'))) { s with toks := k }) FB.slot_bytes_decode (typeIs_bytes _ _ _) FB.entry_bytes_decode (args_decode _ _) ?_ ⟨rfl, fun t' k => R.qs q⟩
    refine .of_wp fun prog w A R s' hS => ?_
    obtain ⟨rfl, h⟩ := hS
    rw [entry_ascii]
    refine wpAny_bind (wpAny_mkStr ?_ (by decide))
    refine wpAny_bind (wpAny_mkStr ?_ (by decide))
    refine wpAny_bind (wpAny_mkStr ?_ (by decide))
    refine wpAny_bind (call_function_meets (S := fun _ R s' => ∀ t' k, R (.ok (.ret (.str (strOf (c :: cs)) t'))) { s' with toks := k }) KBd.kind_text KBd.plain_text KBd.entry_text (KBd.args_text _ _ _ _) ?_ fun t' k => wpAny_pure ⟨_, rfl, h _ _⟩)
    refine .of_wp fun prog w A R s' h => ?_
    show wpAny _ _ (Bytes.bytesLike _ (.bytes (c :: cs).toArray t) >>= fun r => _) _ _ _
    refine wpAny_bind (wpAny_of_eq KBd.like_eq ?_)
    refine wpAny_bind (wpAny_of_eq KBd.held_eq ?_)
    show wpAny _ _ (_codecs.decodeRoad _ (c :: cs).toArray (PySem.Str.ofString "ascii") none [] >>= fun v => _) _ _ _
    rw [road_ascii, ascii_run (b := (c :: cs).toArray) hb (by simpa using hl)]
    refine wpAny_bind (wpAny_bind (wpAny_pure ?_))
    exact wpAny_mkStr (wpAny_pure ⟨_, rfl, h _ _⟩) (by show (strOf (c :: cs)).length ≤ _; rw [hsz, sizeLine_eq]; lia)
end
end Mine
end
section
open PySem PySem.W PySem.Calls PyProof.Rows
namespace Mine
open Sem (wp)
open Builtin
theorem bb_bytes : typeLookup (.type "bytes") "__bytes__" = pure (some (.builtin "bytes.__bytes__")) := by rw [typeLookup_type, builtinLookup_eq_fast]; kernel_rfl
theorem ba_nobytes : typeLookup (.type "bytearray") "__bytes__" = pure none := by rw [typeLookup_type, builtinLookup_eq_fast]; kernel_rfl
theorem ba_noindex : typeLookup (.type "bytearray") "__index__" = pure none := by rw [typeLookup_type, builtinLookup_eq_fast]; kernel_rfl
theorem ba_buffer : typeLookup (.type "bytearray") "__buffer__" = pure (some (.builtin "bytearray.__buffer__")) := by rw [typeLookup_type, builtinLookup_eq_fast]; kernel_rfl
theorem ba_release : typeLookup (.type "bytearray") "__release_buffer__" = pure (some (.builtin "bytearray.__release_buffer__")) := by rw [typeLookup_type, builtinLookup_eq_fast]; kernel_rfl
theorem ba_sub : isSubtype (.type "bytearray") (.type "bytearray") = pure true := by rw [isSubtype_type]; kernel_rfl
section
variable {prog : Program} {w : World} {A : Around} {E : Value → Shared → Prop} {s : Shared}
theorem new_bytes {b : Array UInt8} {t : Tok} {Q : Value → Shared → Prop} (hQ : Q (.bytes b t) s) :
    codeAny (model prog w) A (.call (.builtin "bytes.__new__") ⟨[.type "bytes", .bytes b t], []⟩) (wants Q E) s := by
  refine codeAny_of_tree ?_
  show wpAny _ A.in1 (do checkBuiltinCall "bytes.__new__" ⟨[.type "bytes", .bytes b t], []⟩; again (.builtin "bytes.__new__" ⟨[.type "bytes", .bytes b t], []⟩)) _ _ s
  refine wpAny_bind (wpAny_of_eq (F.bm_newCall _) (wpAny_pure ⟨plainId_quiet F.bm_plain _, codeAny_builtin F.bm_entry ?_⟩))
  rw [Around.under_plainId F.bm_plain _]
  unfold Builtin.«bytes.__new__»
  refine wpAny_bind (wpAny_of_eq (a := true) rfl ?_)
  refine bm_if_false rfl ?_
  refine wpAny_bind (wpAny_of_eq F.bm_sub ?_)
  refine bm_if_false rfl ?_
  refine wpAny_bind (wpAny_of_eq (F.bm_bind _) ?_)
  refine wpAny_bind (wpAny_of_eq (a := ()) rfl ?_)
  refine wpAny_bind (wpAny_of_eq (a := ()) rfl ?_)
  refine bm_if_false rfl ?_
  refine wpAny_bind (wpAny_specialOf (typeIs_bytes s b t) bb_bytes ?_)
  refine wpAny_bind (wpAny_rule ?_)
  refine wpAny_bind (wpAny_typeOf (typeIs_bytes s b t) ?_)
  refine bm_if_true rfl ?_
  exact wpAny_pure hQ
theorem call_bytes_bytes {b : Array UInt8} {t : Tok} {Q : Value → Shared → Prop} (hQ : Q (.bytes b t) s) : wpAny (model prog w) A (call (.type "bytes") [.bytes b t]) Q E s := by
  refine callType_codes (Q₁ := fun obj s₁ => s₁.TypeIs obj "bytes" ∧ Q obj s₁) F.bm_called (F.bm_typeCall _) F.entry_object_init (new_bytes ⟨typeIs_bytes _ _ _, hQ⟩) fun obj s₁ h₁ => ?_
  exact ⟨h₁.1, F.args_object_init_2 obj _, object_init_meets F.bm_called.init.lookup F.bm_called.made (by decide) prog w A.in1 _ s₁ ⟨h₁.1, rfl, h₁.2⟩⟩
theorem ba_own {a : Addr} {o : Obj} {Q : Bool → Shared → Prop} (ho : s.heap.get? a = some o) (hc : o.cls = .type "bytearray") {name : String} {id : String} (hl : typeLookup (.type "bytearray") (Str.ofString name) = pure (some (.builtin id)))
    (h1 : (!id.endsWith ("." ++ name)) = false) (h2 : id.dropRight (name.length + 1) = "bytearray") (hq : Q true s) : wpAny (model prog w) A (Bytes.slotIsOwn (.ref a) name) Q E s := by
  have hT : s.TypeIs (.ref a) "bytearray" := ⟨_, ho, hc⟩
  unfold Bytes.slotIsOwn
  refine wpAny_bind (wpAny_specialOf hT hl ?_)
  dsimp only
  refine bm_if_false h1 ?_
  rw [h2]
  exact wpAny_isInstance hT ba_sub hq
theorem new_bytes_ba {a : Addr} {b : Array UInt8} {Q : Value → Shared → Prop} (ho : s.heap.get? a = some { cls := .type "bytearray", data := .bytearray b 0 }) (hz : b.size ≤ sizeLine) (hQ : ∀ t k, Q (.bytes b t) { s with toks := k }) :
    codeAny (model prog w) A (.call (.builtin "bytes.__new__") ⟨[.type "bytes", .ref a], []⟩) (wants Q E) s := by
  have hT : s.TypeIs (.ref a) "bytearray" := ⟨_, ho, rfl⟩
  refine codeAny_of_tree ?_
  show wpAny _ A.in1 (do checkBuiltinCall "bytes.__new__" ⟨[.type "bytes", .ref a], []⟩; again (.builtin "bytes.__new__" ⟨[.type "bytes", .ref a], []⟩)) _ _ s
  refine wpAny_bind (wpAny_of_eq (F.bm_newCall _) (wpAny_pure ⟨plainId_quiet F.bm_plain _, codeAny_builtin F.bm_entry ?_⟩))
  rw [Around.under_plainId F.bm_plain _]
  unfold Builtin.«bytes.__new__»
  refine wpAny_bind (wpAny_of_eq (a := true) rfl ?_)
  refine bm_if_false rfl ?_
  refine wpAny_bind (wpAny_of_eq F.bm_sub ?_)
  refine bm_if_false rfl ?_
  refine wpAny_bind (wpAny_of_eq (F.bm_bind _) ?_)
  refine wpAny_bind (wpAny_of_eq (a := ()) rfl ?_)
  refine wpAny_bind (wpAny_of_eq (a := ()) rfl ?_)
  refine bm_if_false rfl ?_
  refine wpAny_bind (wpAny_specialOf hT ba_nobytes ?_)
  refine wpAny_bind (wpAny_bind ?_)
  show wpAny _ _ (load a >>= _) _ _ _
  refine wpAny_bind (wpAny_load ho ?_)
  refine wpAny_pure (wpAny_pure ?_)
  refine bm_if_false rfl ?_
  refine wpAny_bind (wpAny_specialOf hT ba_noindex ?_)
  refine bm_if_true rfl ?_
  refine wpAny_bind ?_
  unfold Builtin.Bytes.buffer?
  refine wpAny_bind (wpAny_specialOf hT ba_buffer ?_)
  refine wpAny_bind (ba_own ho rfl ba_buffer (by decide +kernel) (by decide +kernel) ?_)
  refine bm_if_false rfl ?_
  refine wpAny_bind (wpAny_specialOf hT ba_buffer ?_)
  dsimp only
  refine wpAny_bind ?_
  unfold Bytes.ownRelease
  refine wpAny_bind (ba_own ho rfl ba_release (by decide +kernel) (by decide +kernel) ?_)
  refine wpAny_pure ?_
  refine bm_if_false rfl ?_
  refine wpAny_bind ?_
  unfold Bytes.payload Bytes.payload?
  refine wpAny_bind (wpAny_bind (wpAny_load ho (wpAny_pure ?_)))
  refine wpAny_pure (wpAny_pure ?_)
  dsimp only
  refine wpAny_bind (wpAny_rule (wpAny_bind (wpAny_mkBytes ?_ hz)))
  exact wpAny_pure (hQ _ _)
theorem call_bytes_ba {a : Addr} {b : Array UInt8} {Q : Value → Shared → Prop} (ho : s.heap.get? a = some { cls := .type "bytearray", data := .bytearray b 0 }) (hz : b.size ≤ sizeLine) (hQ : ∀ t k, Q (.bytes b t) { s with toks := k }) :
    wpAny (model prog w) A (call (.type "bytes") [.ref a]) Q E s := by
  refine callType_codes (Q₁ := fun obj s₁ => s₁.TypeIs obj "bytes" ∧ Q obj s₁) F.bm_called (F.bm_typeCall _) F.entry_object_init (new_bytes_ba ho hz fun t k => ⟨typeIs_bytes _ _ _, hQ t k⟩) fun obj s₁ h₁ => ?_
  exact ⟨h₁.1, F.args_object_init_2 obj _, object_init_meets F.bm_called.init.lookup F.bm_called.made (by decide) prog w A.in1 _ s₁ ⟨h₁.1, rfl, h₁.2⟩⟩
end
/-! the growing buffer -/
theorem ba_mro : mroOf (.type "bytearray") = pure [.type "bytearray", .type "object"] := by rw [mroOf_type]; kernel_rfl
theorem ba_new : typeLookup (.type "bytearray") "__new__" = pure (some (.builtin "bytearray.__new__")) := by rw [typeLookup_type, builtinLookup_eq_fast]; kernel_rfl
theorem ba_slot_init : Slot "bytearray" "__init__" "bytearray.__init__" :=
  .of (owner := "bytearray") (n := "__init__") (by rw [typeLookup_type, builtinLookup_eq_fast]; kernel_rfl) (by decide +kernel) (by decide +kernel) (by decide +kernel)
    (by first | exact .inl (by decide +kernel) | exact .inr (by decide +kernel)) (by rw [isSubtype_type]; kernel_rfl)
theorem ba_called : TypeCalled "bytearray" "bytearray.__new__" "bytearray.__init__" :=
  ⟨by decide +kernel, by decide +kernel, ⟨_, _, ba_mro⟩, madeBy_type ba_mro ba_new (by decide +kernel), by decide +kernel, ba_sub, ba_slot_init⟩
theorem ba_typeCall : checkTypeCall "bytearray" ⟨[], []⟩ = pure () := by kernel_rfl
theorem ba_entry_new : entryFor table "bytearray.__new__" = some Builtin.«list.__new__» := entryFor_alias (id' := "list.__new__") (by kernel_rfl) rfl (by decide +kernel) (by kernel_rfl)
theorem ba_entry_init : entryFor table "bytearray.__init__" = some Builtin.«bytearray.__init__» := by first | exact entryFor_of_fast (by kernel_rfl) | exact entryFor_of_tree (by kernel_rfl)
theorem ba_newCall : checkBuiltinCall "bytearray.__new__" ⟨[.type "bytearray"], []⟩ = pure () := by kernel_rfl
theorem ba_init_args (a : Value) : argsOk "bytearray.__init__" ⟨[a], []⟩ := by unfold argsOk; kernel_rfl
theorem ba_slot_append : Slot "bytearray" "append" "bytearray.append" :=
  .of (owner := "bytearray") (n := "append") (by rw [typeLookup_type, builtinLookup_eq_fast]; kernel_rfl) (by decide +kernel) (by decide +kernel) (by decide +kernel)
    (by first | exact .inl (by decide +kernel) | exact .inr (by decide +kernel)) (by rw [isSubtype_type]; kernel_rfl)
theorem ba_entry_append : entryFor table "bytearray.append" = some Builtin.«bytearray.append» := by first | exact entryFor_of_fast (by kernel_rfl) | exact entryFor_of_tree (by kernel_rfl)
theorem ba_append_args (a b : Value) : argsOk "bytearray.append" ⟨[a, b], []⟩ := by unfold argsOk; kernel_rfl
theorem ba_type_append : typeOf (.builtin "bytearray.append") = pure (.type "method_descriptor") := by show builtinType _ = _; rw [builtinType_eq_fast]; kernel_rfl
theorem ba_plainAttrs : PlainAttrs "bytearray" :=
  ⟨⟨"bytearray.__getattribute__", by rw [typeLookup_type, builtinLookup_eq_fast]; kernel_rfl, by decide +kernel⟩, by rw [typeLookup_type, builtinLookup_eq_fast]; kernel_rfl⟩
set_option maxHeartbeats 4000000 in
theorem ba_owner : ("bytearray.__new__".splitOn ".__new__").headD "" = "bytearray" := by simp +decide [String.splitOn, String.splitOnAux]
section
variable {prog : Program} {w : World} {A : Around} {E : Value → Shared → Prop} {s : Shared}
theorem code_ba_new {Q₁ : Value → Shared → Prop} (h : Q₁ (.ref s.heap.objs.size) { s with heap := s.heap.push { cls := .type "bytearray", data := .bytearray #[] 0 } }) :
    codeAny (model prog w) A (.call (.builtin "bytearray.__new__") ⟨[.type "bytearray"], []⟩) (wants Q₁ E) s := by
  refine codeAny_of_tree ?_
  show wpAny _ A.in1 (do checkBuiltinCall "bytearray.__new__" ⟨[.type "bytearray"], []⟩; again (.builtin "bytearray.__new__" ⟨[.type "bytearray"], []⟩)) _ _ s
  refine wpAny_bind (wpAny_of_eq ba_newCall (wpAny_pure ⟨plainId_quiet ba_called.plain _, codeAny_builtin_stack ba_entry_new rfl fun p st => ?_⟩))
  rw [Around.under_plainId ba_called.plain _]
  have hsub := ba_sub
  have hown := ba_owner
  obtain ⟨hp, g, d, tk, os⟩ := s
  simp only [hown]
  wp_walk
  exact h
/-- a built-in that holds no buffer -/
theorem ok_id {id : String} {u : Value} {r : List Value} {kw : List (Str × Value)} (h : Bytes.decodersThatHold.contains id = false)
    (e : (fun (M : Model) v q s => wp M ⟨.builtin id ⟨u :: r, kw⟩, none, none, [], none⟩ (Bytes.exported v) (fun b _ _ => b = false) (fun _ _ _ => False) q s) = fun M v q s => ((Bytes.sameRef u v && Bytes.decodersThatHold.contains id) || false) = false) : okC (.builtin id ⟨u :: r, kw⟩) := fun M v q s => by
  have z := congrFun (congrFun (congrFun (congrFun e M) v) q) s
  refine z.mpr ?_
  rw [h, Bool.and_false]; rfl
theorem cBuiltin {id : String} {args : Args} {b : Builtin} {R : Result → Shared → Prop} (hb : entryFor table id = some b) (ok : okC (.builtin id args))
    (h : wN (model prog w) (A.under (.builtin id args)) (b args) (fun fin s' => match fin with | .done f => R (.ok f) s' | .again c' => c'.quiet = true ∧ cN (model prog w) A c' R s') (fun e s' => R (.error e) s') s) :
    cN (model prog w) A (.builtin id args) R s := by
  refine cTree ok ?_
  show wN _ _ (match entryFor table id with | some b => b args | none => unsupported ((withoutEnding? id "#data").getD id)) _ _ s
  rw [hb]; exact h
theorem cSlot {T name id : String} {self : Value} {rest : List Value} {b : Builtin} {Q : Value → Shared → Prop} (hT : s.TypeIs self T) (sl : Slot T (Str.ofString name) id) (hb : entryFor table id = some b) (ha : argsOk id ⟨self :: rest, []⟩) (ok : okC (.builtin id ⟨self :: rest, []⟩))
    (h : wN (model prog w) A.in1 (b ⟨self :: rest, []⟩) (fun fin s' => ∃ v, fin = .done (.ret v) ∧ Q v s') E s) : wN (model prog w) A (call (.builtin id) (self :: rest)) Q E s := by
  refine nCall (cTree ok_call ?_)
  show wN _ A.in1 (do checkBuiltinCall id ⟨self :: rest, []⟩; again (.builtin id ⟨self :: rest, []⟩)) _ _ s
  refine leaf (sl.check _ _ _ _ _ _ _ _ hT ha (nPure ⟨plainId_quiet sl.plain _, cBuiltin hb ok ?_⟩))
  rw [Around.under_plainId sl.plain _]
  refine nMono h (fun fin s' z => ?_) fun e s' z => z
  obtain ⟨v, rfl, q⟩ := z
  exact q
theorem nPayload {a : Addr} {b : Array UInt8} {Q : Array UInt8 → Shared → Prop} (ho : s.heap.get? a = some { cls := .type "bytearray", data := .bytearray b 0 }) (h : Q b s) : wpAny (model prog w) A (Bytes.payload (.ref a)) Q E s := by
  unfold Bytes.payload Bytes.payload?
  exact wpAny_bind (wpAny_bind (wpAny_load ho (wpAny_pure (wpAny_pure h))))
theorem nLent {a : Addr} {b : Array UInt8} {Q : Bool → Shared → Prop} (hg : A.guards = some []) (ho : s.heap.get? a = some { cls := .type "bytearray", data := .bytearray b 0 }) (h : Q false s) :
    wN (model prog w) A (Bytes.exported (.ref a) <||> (do return (← Bytes.exportsOf (.ref a)) > 0)) Q E s := by
  show wN _ _ (Bytes.exported (.ref a) >>= fun b => _) _ _ s
  refine nBind (nExported ?_)
  show wN _ _ (Bytes.exportsOf (.ref a) >>= fun n => pure (decide (n > 0))) _ _ s
  refine nBind (.of ?_)
  unfold Bytes.exportsOf
  exact wpAny_bind (wpAny_load ho (wpAny_pure (nPure h)))
theorem nWrite {a : Addr} {b : Array UInt8} {f : Array UInt8 → Array UInt8} {Q : Unit → Shared → Prop} (ho : s.heap.get? a = some { cls := .type "bytearray", data := .bytearray b 0 }) (hz : (f b).size ≤ 1000001)
    (h : ∀ h', Heap.SameBut a s.heap h' → h'.get? a = some { cls := .type "bytearray", data := .bytearray (f b) 0 } → Q () { s with heap := h' }) : wpAny (model prog w) A (Bytes.write (.ref a) f) Q E s := by
  unfold Bytes.write updateBytearray
  refine wpAny_bind (wpAny_load ho ?_)
  dsimp only
  have ho' := Heap.get?_update_self (h := s.heap) (Obj.mapBytearray f) ho rfl
  refine wpAny_bind (wpAny_update ho ?_)
  refine wpAny_lookBehind ho' ?_ (h _ (Heap.SameBut.update ..) ho')
  show (if (f b).size > sizeLine then some "bytearray:memory" else none) = none
  rw [if_neg (by rw [sizeLine_eq]; lia)]
theorem ba_append {a : Addr} {b : Array UInt8} {i : Int} {u : Tok} {Q : Value → Shared → Prop} (hg : A.guards = some []) (ho : s.heap.get? a = some { cls := .type "bytearray", data := .bytearray b 0 }) (h0 : 0 ≤ i) (h1 : i < 256) (hz : b.size ≤ 1000000)
    (h : ∀ h', Heap.SameBut a s.heap h' → h'.get? a = some { cls := .type "bytearray", data := .bytearray (b.push i.toNat.toUInt8) 0 } → Q .none { s with heap := h' }) :
    wN (model prog w) A (call (.builtin "bytearray.append") [.ref a, .int i u]) Q E s := by
  have hT : s.TypeIs (.ref a) "bytearray" := ⟨_, ho, rfl⟩
  refine cSlot hT ba_slot_append ba_entry_append (ba_append_args _ _) (ok_id (by decide) (by kernel_rfl)) ?_
  unfold Builtin.«bytearray.append»
  refine nBind (nEq (a := (.ref a, .int i u)) rfl ?_)
  dsimp only
  refine nBind ?_
  unfold Bytes.byteValue
  refine nBind (nEq (a := i) rfl ?_)
  refine nElse (by simp only [Bool.or_eq_true, decide_eq_true_eq]; lia) (nPure ?_)
  refine nBind ?_
  unfold Bytes.checkResize
  refine nBind (nLent hg ho ?_)
  refine nElse (by decide) (nPure ?_)
  refine leaf (nWrite ho (by simpa using hz) fun h' hs ho' => nPure ⟨_, rfl, h h' hs ho'⟩)
theorem call_ba {Q : Value → Shared → Prop} (hg : A.guards = some []) (h : ∀ h', (∀ b o, s.heap.get? b = some o → h'.get? b = some o) → h'.get? s.heap.objs.size = some { cls := .type "bytearray", data := .bytearray #[] 0 } → Q (.ref s.heap.objs.size) { s with heap := h' }) :
    wN (model prog w) A (call (.type "bytearray") []) Q E s := by
  obtain ⟨c, tl, hmro⟩ := ba_called.mro
  refine nCall (cTree ok_call ?_)
  show wN _ _ (callAny (.type "bytearray") _) _ _ _
  refine nPure ⟨Code.quiet_builtin _ (by decide +kernel), cBuiltin F.entry_type_call (ok_id (by decide) (by kernel_rfl)) ?_⟩
  rw [Around.under_plain (weight_type_call_type "bytearray" [] []) rfl]
  unfold Builtin.«type.__call__»
  refine nElse (by decide) ?_
  refine nElse (by rw [ba_called.canCreate]; decide) ?_
  refine nBind (nEq ba_typeCall ?_)
  refine nBind (nEq hmro ?_)
  refine nElse (by simp) ?_
  refine nBind (nEq ba_called.made ?_)
  dsimp only
  refine nBind (nPure ?_)
  refine nBind (nHolding (nCall (.of (codeAny_mono (code_ba_new (Q₁ := fun v s' => v = .ref s.heap.objs.size ∧ s' = { s with heap := s.heap.push { cls := .type "bytearray", data := .bytearray #[] 0 } }) (E := fun _ _ => False) ⟨rfl, rfl⟩) fun r s' z => ?_))))
  rcases r with e | (v | _ | _ | _) <;> first | exact z.elim | skip
  obtain ⟨rfl, rfl⟩ := z
  have hS : (s.heap.push { cls := .type "bytearray", data := .bytearray #[] 0 }).get? s.heap.objs.size = some { cls := .type "bytearray", data := .bytearray #[] 0 } := Heap.get?_push_size _ rfl
  have hT : ({ s with heap := s.heap.push { cls := .type "bytearray", data := .bytearray #[] 0 } } : Shared).TypeIs (.ref s.heap.objs.size) "bytearray" := ⟨_, hS, rfl⟩
  refine leaf (wpAny_isInstance hT ba_sub ?_)
  refine nElse (by decide) ?_
  refine nBind (nHolding ?_)
  simp only [callSpecial?]
  refine leaf (wpAny_specialOf hT ba_slot_init.lookup ?_)
  simp only [ba_slot_init.bind]
  refine nHolding (nBind (nPure (nBind ?_)))
  refine cSlot hT ba_slot_init ba_entry_init (ba_init_args _) (ok_id (by decide) (by kernel_rfl)) ?_
  unfold Builtin.«bytearray.__init__»
  refine nBind ?_
  unfold Bytes.ownRelease
  refine nBind (.of (ba_own hS rfl ba_release (by decide +kernel) (by decide +kernel) (nPure ?_)))
  refine nElse (by decide) ?_
  refine nBind (nEq (a := [none, none, none]) (by kernel_rfl) ?_)
  dsimp only
  refine nBind (nEq (a := ()) rfl ?_)
  refine nBind (nEq (a := ()) rfl ?_)
  refine nBind (nLent hg hS ?_)
  refine nElse (by decide) ?_
  refine leaf (nWrite hS (by decide) fun h' hs ho' => ?_)
  dsimp only
  refine nBind (nEq (a := ()) (by kernel_rfl) ?_)
  refine nPure ⟨_, rfl, ?_⟩
  refine nPure (nElse (by decide) (nPure ?_))
  exact h h' (fun b o e => (hs.2 b (Nat.ne_of_lt (Heap.lt_size e))).trans (Heap.get?_push_of_some _ e)) ho'
end
section
variable {G : Glob} {l : List Env} {σ : St} {s : Shared} {A : Around} {E : Value → Shared → Prop}
theorem barr_at (R : Rel G l σ s) {a : Addr} {b : List UInt8} (h : σ a = some (.barr b)) : s.heap.get? a = some { cls := .type "bytearray", data := .bytearray b.toArray 0 } := by
  obtain ⟨_, ob, h1, rfl⟩ := R.objs a _ h
  exact h1
theorem typN {b : String} {vs : List Value} {Q : Kt} (O : G.Ok) (R : Rel G l σ s) (hA : A.handled = none) (hg : A.guards = some []) (h : typV b (vs.map av) σ Q) :
    wN (Md G) A (call (.type b) vs) (QS G l Q) E s := by
  by_cases hb : b = "bytearray" ∧ vs = []
  · obtain ⟨rfl, rfl⟩ := hb
    refine call_ba hg fun h' hk ho => ?_
    have hm : OM G { cls := .type "bytearray", data := .bytearray #[] 0 } (.barr []) := rfl
    have R' := R.new (t := s.toks) (o := .barr []) hk (by
      cases q : s.heap.get? s.heap.objs.size with
      | none => rfl
      | some x => exact absurd (Heap.lt_size q) (Nat.lt_irrefl _)) ho hm
    exact ⟨_, R', h _ R.fresh⟩
  · refine .of (typ_ok O R hA (fun own => ?_) h)
    rcases own with ⟨rfl, v, rfl, ⟨x, e, hl, q⟩ | ⟨a, x, rfl, hx, hl, q⟩⟩ | ⟨rfl, rfl, q⟩
    · obtain ⟨t, rfl⟩ := av_bytes e
      exact call_bytes_bytes (R.qs0 q)
    · exact call_bytes_ba (barr_at R hx) (by simp only [List.size_toArray, sizeLine_eq]; lia) fun t k => R.qs q
    · exact (hb ⟨rfl, rfl⟩).elim
theorem methN {id : String} {v : Value} {vs : List Value} {Q : Kt} (R : Rel G l σ s) (hg : A.guards = some []) (h : bmethV id (av v) (vs.map av) σ Q) : wN (Md G) A (call (.builtin id) (v :: vs)) (QS G l Q) E s := by
  refine ite_inv h (fun e h => ?_) fun h => ite_inv h (fun e h => ?_) fun h => ite_inv h (fun e h => ?_) fun h => ite_inv h (fun e h => ?_) fun h => ite_inv h (fun e h => ?_) fun h => False.elim h
  all_goals subst e
  · refine onR_ind v h fun a h => ?_
    refine on1_ind vs h fun w h => ?_
    obtain ⟨xs, hx, hl, q⟩ := h
    exact .of (append_ok R hx hl q)
  · refine onR_ind v h fun a h => ?_
    refine on1_ind vs h fun w h => ?_
    refine onI_ind w h fun i u h => ?_
    obtain ⟨b, hx, g1, g2, hl, q⟩ := h
    refine ba_append hg (barr_at R hx) g1 g2 (by simpa using hl) fun h' hs ho => ?_
    rw [show b.toArray.push i.toNat.toUInt8 = (b ++ [i.toNat.toUInt8]).toArray from by simp] at ho
    have hm : OM G { cls := .type "bytearray", data := .bytearray (b ++ [i.toNat.toUInt8]).toArray 0 } (.barr (b ++ [i.toNat.toUInt8])) := rfl
    exact ⟨_, R.put (t := s.toks) hx (fun b o hb e => (hs.2 b hb).trans e) ho hm (by intro m e; cases e), q⟩
  · refine onB_ind v h fun a t h => ?_
    refine on1_ind vs h fun w h => ?_
    refine onS_ind w h fun e u h => ?_
    obtain ⟨rfl, hl, hb, q⟩ := h
    exact .of (decode_ok (b := a.toList) R hl hb q)
  · refine onS_ind v h fun x t h => ?_
    cases vs with
    | nil => exact .of (lower_ok R h.1 h.2.1 h.2.2)
    | cons _ _ => exact False.elim h
  · refine onS_ind v h fun x t h => ?_
    refine on1_ind vs h fun w h => ?_
    refine onR_ind w h fun a h => ?_
    obtain ⟨xs, ss, rfl, hx, hs, hl, h1, q⟩ := h
    exact .of (join_ok R hx hs hl h1 q)
/-- the method itself -/
theorem getN {v : Value} {name : Str} {id : String} {pl : Sem Bool} {Q : Value × List Value → Shared → Prop} (R : Rel G l σ s) (h : methId σ (av v) name = some id) (q : Q (.builtin id, [v]) s) : wpAny (Md G) A (getMethod v name pl) Q E s := by
  unfold methId at h
  split at h
  case h_1 h1 =>
    obtain rfl := av_ref h1
    split at h
    · rename_i hn; subst hn
      split at h
      · rename_i xs hx
        cases h
        obtain ⟨vs, n, k1, k2⟩ := list_at R hx
        exact getMethod_list_append k1 rfl rfl q
      · rename_i xs hx
        cases h
        have k1 := barr_at R hx
        exact getMethod_builtin (T := "bytearray") ⟨_, k1, rfl⟩ ba_plainAttrs ba_slot_append ba_type_append (fun a e => by cases e; exact ⟨_, k1, rfl⟩) q
      · cases h
    · cases h
  case h_2 h1 =>
    obtain ⟨t, rfl⟩ := av_bytes h1
    split at h
    · rename_i hn; subst hn; cases h
      exact KBd.method q
    · cases h
  case h_3 h1 =>
    obtain ⟨t, rfl⟩ := av_str h1
    split at h
    · rename_i hn; subst hn; cases h
      exact GM.lower q
    · split at h
      · rename_i hn; subst hn; cases h
        exact GM.join q
      · cases h
  case h_4 => cases h
end
end Mine
end
section
open PySem PySem.W PySem.Calls PyProof.Rows
namespace Mine
open Sem (wp)
/-- what its own functions' names begin with -/
noncomputable def lawLoc : Str := "law.<locals>."
structure At (env : Env) (L : Addr) (cl : Option Addr) (sc : List (Str × NameKind)) : Prop where
  kind : env.scope.kind = .function
  locals : env.locals = L
  globals : env.globals = mainGlobals
  builtins : env.builtins = builtinsNs
  cells : ∀ c, cl = some c → env.cells.lookup N.nWire.str = some c
  names : env.scope.names = sc
  law : (sc.lookup N.nAsked.str).isSome = true → env.code = .ref lawCode ∧ env.qual = lawLoc
theorem At.kindOf {env : Env} {L : Addr} {cl : Option Addr} {sc : List (Str × NameKind)} (T : At env L cl sc) (x : Str) : env.kindOf x = sc.lookup x := by unfold Env.kindOf; rw [T.names]
noncomputable def SE (G : Glob) (C : Ct) (n : Nat) (sc : List (Str × NameKind)) (ie : IE) (e : Expr) : Prop :=
  ∀ {env : Env} {l : List Env} {L : Addr} {cl : Option Addr} {σ : St} {Q : Kt} {X : Xt} {A : Around} {s : Shared}, At env L cl sc → Rel G l σ s → AOk n l A → WE C cl ie L σ Q X →
    wN (Md G) A (eval e env) (QS G l Q) (EC G l X) s
/-- the truth of an expression -/
noncomputable def ST (G : Glob) (C : Ct) (n : Nat) (sc : List (Str × NameKind)) (ie : IE) (e : Expr) : Prop :=
  ∀ {env : Env} {l : List Env} {L : Addr} {cl : Option Addr} {σ : St} {Q : Kt} {K : Bool → St → Prop} {X : Xt} {A : Around} {s : Shared}, At env L cl sc → Rel G l σ s → AOk n l A →
    WE C cl ie L σ Q X → (∀ v τ, Q v τ → ∃ b, v = .bool b ∧ K b τ) → wN (Md G) A (isTrue e env (eval e env)) (fun b s' => ∃ τ, Rel G l τ s' ∧ K b τ) (EC G l X) s
theorem starEach_cons {e : Expr} {r : List Expr} {env : Env} (h : notStar e = true) : starEach (e :: r) env = (false, eval e env) :: starEach r env := by cases e <;> first | rfl | cases h
noncomputable def LS (G : Glob) (l : List Env) (Q : List V → St → Prop) : List Value → Shared → Prop := fun vs s' => ∃ τ, Rel G l τ s' ∧ Q (vs.map av) τ
noncomputable def SEs (G : Glob) (C : Ct) (n : Nat) (sc : List (Str × NameKind)) (ies : List IE) (es : List Expr) : Prop :=
  ∀ {env : Env} {l : List Env} {L : Addr} {cl : Option Addr} {σ : St} {Q : List V → St → Prop} {X : Xt} {A : Around} {s : Shared} (pos : Pos), At env L cl sc → Rel G l σ s → AOk n l A → WEs C cl ies L σ Q X →
    wN (Md G) A (spliced (backTo pos (starEach es env))) (fun vs s' => vs.length = es.length ∧ LS G l Q vs s') (EC G l X) s
section
variable {G : Glob} {C : Ct} {n : Nat} {sc : List (Str × NameKind)}
theorem se_none {k p} : SE G C n sc .kn (.Constant .none k p) := fun T R H w => by
  exact nPure ⟨_, R, w⟩
theorem se_bool {b k p} : SE G C n sc (.kb b) (.Constant (.bool b) k p) := fun T R H w => by
  exact nPure ⟨_, R, w⟩
theorem se_int {i k p} : SE G C n sc (.ki i) (.Constant (.int i) k p) := fun T R H w => by
  exact .of (wpAny_Constant_int ⟨_, R.tok, w⟩)
theorem se_str {x k p} : SE G C n sc (.ks x) (.Constant (.str x) k p) := fun T R H w => by
  exact .of (Calls.Constant_str ⟨_, R.tok, w⟩)
theorem se_bytes {x k p} : SE G C n sc (.kx x) (.Constant (.bytes x) k p) := fun T R H w => by
  exact .of (Constant_bytes ⟨_, R.tok, w⟩)
theorem not_debug (x : N) : (x.str == ("__debug__" : Str)) = false := by cases x <;> decide
theorem not_cd (x : N) : (x.str == ("__classdict__" : Str)) = false := by cases x <;> decide
theorem ns_at {l : List Env} {σ : St} {s : Shared} {L : Addr} {fr : Bool} {m : N → Option V} (R : Rel G l σ s) (h : σ L = some (.ns fr m)) : ∃ mm, s.heap.Ns L mm ∧ NsRel mm m := by
  obtain ⟨_, ob, h1, es, ep, mm, hd, h2, h3, h4, _⟩ := R.objs _ _ h
  exact ⟨mm, ⟨ob, es, ep, h1, hd, h2, h3⟩, h4⟩
theorem se_loc {x : N} {y : Str} {p : Pos} (hy : y = x.str) (hk : sc.lookup y = some .local) : SE G C n sc (.loc x) (.Name y p) := fun {env l L cl σ Q X A s} T R H w => by
  obtain ⟨v, h1, q⟩ := w
  unfold getLoc at h1
  split at h1
  · rename_i fr m hL
    obtain ⟨mm, h2, h3⟩ := ns_at R hL
    obtain ⟨z, h4, rfl⟩ := h3.1 _ _ h1
    subst hy
    exact .of (wpAny_Name (wpAny_loadName_local T.kind (by rw [T.kindOf]; exact hk) (by rw [T.locals]; exact h2) h4 ⟨_, R, q⟩) (not_debug x))
  · cases h1
theorem se_cv {x : N} {y : Str} {p : Pos} (hx : x = .nWire) (hy : y = x.str) (hk : sc.lookup y = some .cell ∨ sc.lookup y = some .free) : SE G C n sc (.cv x) (.Name y p) := fun {env l L cl σ Q X A s} T R H w => by
  obtain ⟨c, v, h1, h2, q⟩ := w
  obtain ⟨_, ob, h3, x', h5, h6⟩ := R.objs _ _ h2
  cases x' with
  | none => cases h6
  | some z =>
    simp only [Option.map_some, Option.some.injEq] at h6
    subst h6; subst hy
    subst hx
    rcases hk with hk | hk
    · exact .of (wpAny_Name (wpAny_loadName_cell T.kind (by rw [T.kindOf]; exact hk) (T.cells c h1) ⟨ob, h3, h5⟩ ⟨_, R, q⟩) (not_debug _))
    · exact .of (wpAny_Name (wpAny_loadName_free T.kind (by rw [T.kindOf]; exact hk) (T.cells c h1) ⟨ob, h3, h5⟩ ⟨_, R, q⟩ (not_cd _)) (not_debug _))
/-- what a global name gives -/
noncomputable def GlobLoad (G : Glob) (x : Str) (v : V) : Prop := ∃ y, av y = v ∧ (G.mg x = some y ∨ (G.mg x = none ∧ x ≠ "__name__" ∧ bootBuiltins x = some y))
theorem se_glob {x : Str} {v : V} {p : Pos} (O : G.Ok) (hv : GlobLoad G x v) (hk : sc.lookup x = some .globalImplicit) (hd : (x == ("__debug__" : Str)) = false) : SE G C n sc (.glob x v) (.Name x p) := fun {env l L cl σ Q X A s} T R H w => by
  obtain ⟨y, rfl, hy⟩ := hv
  have hg : s.heap.Ns env.globals G.mg := by rw [T.globals]; exact R.g O
  have hb : s.heap.Ns env.builtins G.mb := by rw [T.builtins]; exact R.b O
  rcases hy with hy | ⟨h1, h2, h3⟩
  · exact .of (Name_function_global T.kind (by rw [T.kindOf]; exact hk) (loadGlobal_global hg hy ⟨_, R, w⟩) hd)
  · exact .of (Name_function_global T.kind (by rw [T.kindOf]; exact hk) (loadGlobal_builtin hg h1 hb ((O.builtins x h2).trans h3) ⟨_, R, w⟩) hd)
theorem se_bin {op : Operator} {a b : IE} {ea eb : Expr} {p : Pos} (ha : SE G C n sc a ea) (hb : SE G C n sc b eb) : SE G C n sc (.bin op a b) (.BinOp ea op eb p) := fun T R H w => by
  rw [eval_BinOp]
  refine nBind (nMono (ha T R H w) (fun v s₁ h₁ => ?_) fun _ _ x => x)
  obtain ⟨τ, R₁, w₁⟩ := h₁
  refine nBind (nHolding (nMono (hb T R₁ H w₁) (fun u s₂ h₂ => ?_) fun _ _ x => x))
  obtain ⟨ρ, R₂, w₂⟩ := h₂
  exact nBind (nStand (nOperate (.of (bin_ok R₂ w₂))))
theorem AOk.room {l : List Env} {A : Around} (H : AOk n l A) : A.units + 220 < cLine := by have := H.units; unfold cLine; lia
theorem nCmp {l : List Env} {σ : St} {op : CmpOp} {v w : Value} {A : Around} {s : Shared} {k : Bool → Prop} {E : Value → Shared → Prop} (R : Rel G l σ s) (H : AOk n l A) (h : cmpV op (av v) (av w) σ k) :
    wN (Md G) A (compareOp op v w) (BS G l σ k) E s := .of (cmp_ok R H.room h)
theorem se_cmp {op : CmpOp} {a b : IE} {ea eb : Expr} {p : Pos} (ha : SE G C n sc a ea) (hb : SE G C n sc b eb) (hm : behindInMarks op eb = false) : SE G C n sc (.cmp op a b) (.Compare ea [op] [eb] p) := fun T R H w => by
  rw [eval_Compare1]
  refine nBind (nMono (ha T R H w) (fun v s₁ h₁ => ?_) fun _ _ x => x)
  obtain ⟨τ, R₁, w₁⟩ := h₁
  rw [markedBehindIn_of_false hm]
  refine nBind (nHolding (nMono (hb T R₁ H w₁) (fun u s₂ h₂ => ?_) fun _ _ x => x))
  obtain ⟨ρ, R₂, w₂⟩ := h₂
  refine nBind (nStand (nOperate (nMono (nCmp R₂ H w₂) (fun r s₃ h₃ => ?_) fun _ _ x => x)))
  obtain ⟨b, rfl, R₃, w₃⟩ := h₃
  exact ⟨_, R₃, w₃⟩
theorem st_cmp {op : CmpOp} {a b : IE} {ea eb : Expr} {p : Pos} (ha : SE G C n sc a ea) (hb : SE G C n sc b eb) (hm : behindInMarks op eb = false) : ST G C n sc (.cmp op a b) (.Compare ea [op] [eb] p) := fun T R H w hQ => by
  rw [isTrue_Compare1]
  refine nBind (nMono (ha T R H w) (fun v s₁ h₁ => ?_) fun _ _ x => x)
  obtain ⟨τ, R₁, w₁⟩ := h₁
  rw [markedBehindIn_of_false hm]
  refine nBind (nHolding (nMono (hb T R₁ H w₁) (fun u s₂ h₂ => ?_) fun _ _ x => x))
  obtain ⟨ρ, R₂, w₂⟩ := h₂
  refine nBind (nStand (nBind (nOperate (nMono (nCmp R₂ H w₂) (fun r s₃ h₃ => ?_) fun _ _ x => x))))
  obtain ⟨b, rfl, R₃, w₃⟩ := h₃
  obtain ⟨b', e, w₃⟩ := hQ _ _ w₃
  cases e
  exact nHolding (.of (wpAny_truthy_bool ⟨_, R₃, w₃⟩))
end
end Mine
end
section
open PySem PySem.W PySem.Calls PyProof.Rows
namespace Mine
open Sem (wp)
section
variable {G : Glob} {C : Ct} {n : Nat} {sc : List (Str × NameKind)}
theorem ses_nil : SEs G C n sc [] [] := fun pos T R H w => by
  exact nPure ⟨rfl, _, R, w⟩
theorem ses_cons {i : IE} {is : List IE} {e : Expr} {es : List Expr} (hs : notStar e = true) (h1 : SE G C n sc i e) (h2 : SEs G C n sc is es) : SEs G C n sc (i :: is) (e :: es) := fun {env l L cl σ Q X A s} pos T R H w => by
  rw [starEach_cons hs]
  show wN _ _ (do
    let v ← eval e env
    let here ← (pure [v] : Sem (List Value))
    return here ++ (← holding here (spliced (backTo pos (starEach es env))))) _ _ _
  refine nBind (nMono (h1 T R H w) (fun v s₁ h => ?_) fun _ _ x => x)
  obtain ⟨τ, R₁, w₁⟩ := h
  refine nBind (nPure (nBind (nHolding (nMono (h2 pos T R₁ H w₁) (fun vs s₂ h => ?_) fun _ _ x => x))))
  obtain ⟨hl, ρ, R₂, w₂⟩ := h
  exact nPure ⟨by simp [hl], ρ, R₂, w₂⟩
theorem se_tup {is : List IE} {es : List Expr} {k : Nat} {p : Pos} (O : G.Ok) (F : KFact G.K) (h : SEs G C n sc is es) (hz : es.length ≤ 1000) : SE G C n sc (.tup is) (.Tuple es k p) := fun T R H w => by
  rw [arm_eval_Tuple]
  refine nBind (nStand (nBind (nMono (h p T R H w) (fun vs s₁ h₁ => ?_) fun _ _ x => x)))
  obtain ⟨hl, τ, R₁, w₁⟩ := h₁
  exact .of (wpAny_newObj_type (R₁.newsT (t := s₁.toks) O F w₁ ⟨_, _, rfl, by simp⟩ rfl) (by show vs.toArray.size ≤ sizeLine; rw [List.size_toArray, sizeLine_eq]; lia))
theorem se_list {is : List IE} {es : List Expr} {p : Pos} (h : SEs G C n sc is es) (hz : es.length ≤ 1000) : SE G C n sc (.list is) (.List es p) := fun T R H w => by
  rw [arm_eval_List]
  refine nBind (nStand (nBind (nMono (h p T R H w) (fun vs s₁ h₁ => ?_) fun _ _ x => x)))
  obtain ⟨hl, τ, R₁, w₁⟩ := h₁
  exact .of (wpAny_newObj_type (R₁.news0 w₁ ⟨_, _, rfl, by simp⟩ rfl) (by show vs.toArray.size ≤ sizeLine; rw [List.size_toArray, sizeLine_eq]; lia))
theorem se_cmp2 {o₁ o₂ : CmpOp} {a b c : IE} {ea eb ec : Expr} {p : Pos} (ha : SE G C n sc a ea) (hb : SE G C n sc b eb) (hc : SE G C n sc c ec) (hm : behindInMarks o₂ ec = false) :
    SE G C n sc (.cmp2 o₁ o₂ a b c) (.Compare ea [o₁, o₂] [eb, ec] p) := fun {env l L cl σ Q X A s} T R H w => by
  show wN _ _ (eval ea env >>= fun v => compareChain p v [o₁, o₂] [eval eb env, markedBehindIn o₂ ec (eval ec env)]) _ _ _
  rw [markedBehindIn_of_false hm]
  refine nBind (nMono (ha T R H w) (fun v s₁ h₁ => ?_) fun _ _ x => x)
  obtain ⟨τ, R₁, w₁⟩ := h₁
  show wN _ _ (do
    let rv ← holding [v] (eval eb env)
    standAt p
    let c ← holding [v, rv] (compareOp o₁ v rv)
    release [v, rv] [c]
    if ← holding [c, rv] (truthy c) then compareChain p rv [o₂] [eval ec env] else pure c) _ _ _
  refine nBind (nHolding (nMono (hb T R₁ H w₁) (fun u s₂ h₂ => ?_) fun _ _ x => x))
  obtain ⟨ρ, R₂, w₂⟩ := h₂
  refine nBind (nStand (nBind (nHolding (nMono (nCmp R₂ H w₂) (fun r s₃ h₃ => ?_) fun _ _ x => x))))
  obtain ⟨b, rfl, R₃, w₃, w₄⟩ := h₃
  refine leaf (wpAny_release (nBind (nHolding (.of (wpAny_truthy_bool ?_)))))
  cases b with
  | false => exact nElse (by simp) (nPure ⟨_, R₃, w₄ rfl⟩)
  | true =>
    refine nIf rfl ?_
    show wN _ _ (do
      let rv ← holding [u] (eval ec env)
      standAt p
      operate [u, rv] (compareOp o₂ u rv)) _ _ _
    refine nBind (nHolding (nMono (hc T R₃ H (w₃ rfl)) (fun z s₄ h₄ => ?_) fun _ _ x => x))
    obtain ⟨ρ', R₄, w₅⟩ := h₄
    refine nBind (nStand (nOperate (nMono (nCmp R₄ H w₅) (fun r s₅ h₅ => ?_) fun _ _ x => x)))
    obtain ⟨b, rfl, R₅, w₆⟩ := h₅
    exact ⟨_, R₅, w₆⟩
theorem st_cmp2 {o₁ o₂ : CmpOp} {a b c : IE} {ea eb ec : Expr} {p : Pos} (ha : SE G C n sc a ea) (hb : SE G C n sc b eb) (hc : SE G C n sc c ec) (hm : behindInMarks o₂ ec = false) :
    ST G C n sc (.cmp2 o₁ o₂ a b c) (.Compare ea [o₁, o₂] [eb, ec] p) := fun {env l L cl σ Q K X A s} T R H w hQ => by
  show wN _ _ (eval ea env >>= fun v => testChain p v [o₁, o₂] [eval eb env, markedBehindIn o₂ ec (eval ec env)]) _ _ _
  rw [markedBehindIn_of_false hm]
  refine nBind (nMono (ha T R H w) (fun v s₁ h₁ => ?_) fun _ _ x => x)
  obtain ⟨τ, R₁, w₁⟩ := h₁
  show wN _ _ (do
    let rv ← holding [v] (eval eb env)
    standAt p
    let c ← holding [v, rv] (compareOp o₁ v rv)
    release [v, rv] [c]
    if ← holding [c, rv] (truthy c) then testChain p rv [o₂] [eval ec env] else pure false) _ _ _
  refine nBind (nHolding (nMono (hb T R₁ H w₁) (fun u s₂ h₂ => ?_) fun _ _ x => x))
  obtain ⟨ρ, R₂, w₂⟩ := h₂
  refine nBind (nStand (nBind (nHolding (nMono (nCmp R₂ H w₂) (fun r s₃ h₃ => ?_) fun _ _ x => x))))
  obtain ⟨b, rfl, R₃, w₃, w₄⟩ := h₃
  refine leaf (wpAny_release (nBind (nHolding (.of (wpAny_truthy_bool ?_)))))
  cases b with
  | false =>
    obtain ⟨b', e, k⟩ := hQ _ _ (w₄ rfl)
    cases e
    exact nElse (by simp) (nPure ⟨_, R₃, k⟩)
  | true =>
    refine nIf rfl ?_
    show wN _ _ (do
      let rv ← holding [u] (eval ec env)
      standAt p
      let c ← operate [u, rv] (compareOp o₂ u rv)
      holding [c] (truthy c)) _ _ _
    refine nBind (nHolding (nMono (hc T R₃ H (w₃ rfl)) (fun z s₄ h₄ => ?_) fun _ _ x => x))
    obtain ⟨ρ', R₄, w₅⟩ := h₄
    refine nBind (nStand (nBind (nOperate (nMono (nCmp R₄ H w₅) (fun r s₅ h₅ => ?_) fun _ _ x => x))))
    obtain ⟨b, rfl, R₅, w₆⟩ := h₅
    obtain ⟨b', e, w₆⟩ := hQ _ _ w₆
    cases e
    exact nHolding (.of (wpAny_truthy_bool ⟨_, R₅, w₆⟩))
theorem se_not {a : IE} {ea : Expr} {p : Pos} (ha : SE G C n sc a ea) : SE G C n sc (.not a) (.UnaryOp .Not ea p) := fun T R H w => by
  rw [arm_eval_UnaryOp]
  refine nBind (nMono (ha T R H w) (fun v s₁ h₁ => ?_) fun _ _ x => x)
  obtain ⟨τ, R₁, b, hv, w₁⟩ := h₁
  obtain rfl := av_bool hv
  refine nBind (nStand (nHolding (.of ?_)))
  unfold unaryOp
  refine wpAny_holding ?_
  show wpAny _ _ (truthy (.bool b) >>= fun r => pure (Value.bool (!r))) _ _ _
  exact wpAny_bind (wpAny_truthy_bool (wpAny_pure ⟨_, R₁, w₁⟩))
theorem se_neg {a : IE} {ea : Expr} {p : Pos} (ha : SE G C n sc a ea) : SE G C n sc (.neg a) (.UnaryOp .USub ea p) := fun T R H w => by
  rw [arm_eval_UnaryOp]
  refine nBind (nMono (ha T R H w) (fun v s₁ h₁ => ?_) fun _ _ x => x)
  obtain ⟨τ, R₁, i, hv, w₁⟩ := h₁
  obtain ⟨t, rfl⟩ := av_int hv
  exact nBind (nStand (nHolding (.of (PySem.P.neg_int (R₁.qs w₁)))))
theorem se_isNone {a : IE} {ea : Expr} {k : Nat} {p q : Pos} (ha : SE G C n sc a ea) : SE G C n sc (.isNone a) (.Compare ea [.Is] [.Constant .none k q] p) := fun T R H w => by
  rw [eval_Compare1]
  refine nBind (nMono (ha T R H w) (fun v s₁ h₁ => ?_) fun _ _ x => x)
  obtain ⟨τ, R₁, w₁⟩ := h₁
  rw [markedBehindIn_of_false rfl]
  refine nBind (nHolding (nPure (nBind (nStand (nOperate (.of (is_none ?_)))))))
  refine ⟨_, R₁, ?_⟩
  have : (v == Value.none) = isN (av v) := by cases v <;> rfl
  rw [this]; exact w₁
theorem se_ite {c a b : IE} {ec ea eb : Expr} {p : Pos} (hc : ST G C n sc c ec) (ha : SE G C n sc a ea) (hb : SE G C n sc b eb) : SE G C n sc (.ite c a b) (.IfExp ec ea eb p) := fun {env l L cl σ Q X A s} T R H w => by
  rw [arm_eval_IfExp]
  refine nBind (nMono (hc (K := fun r τ => (r = true → WE C cl a L τ Q X) ∧ (r = false → WE C cl b L τ Q X)) T R H w fun v τ h => h) (fun r s₁ h₁ => ?_) fun _ _ x => x)
  obtain ⟨τ, R₁, w₁, w₂⟩ := h₁
  cases r with
  | true => exact nIf rfl (ha T R₁ H (w₁ rfl))
  | false => exact nElse (by simp) (hb T R₁ H (w₂ rfl))
/-- the truth of any other expression -/
noncomputable def plainTest (e : Expr) : Bool := !(e.ctorIdx == 0 || e.ctorIdx == 5 || e.ctorIdx == 15) && if h : e.ctorIdx = 3 then Expr.UnaryOp.elim (motive_1 := fun _ => Bool) e h (fun op _ _ => !(op.ctorIdx == UnaryOp.Not.ctorIdx)) else true
theorem isTrue_of_plain {e : Expr} {env : Env} {whole : Sem Value} (h : plainTest e = true) : isTrue e env whole = (whole >>= fun v => standAt e.pos >>= fun _ => holding [v] (truthy v)) := by
  cases e <;> first | rfl | cases h | (rename_i op x p; cases op <;> first | rfl | cases h)
theorem st_of {a : IE} {e : Expr} (hp : plainTest e = true) (h : SE G C n sc a e) : ST G C n sc a e := fun T R H w hQ => by
  rw [isTrue_of_plain hp]
  refine nBind (nMono (h T R H w) (fun v s₁ h₁ => ?_) fun _ _ x => x)
  obtain ⟨τ, R₁, w₁⟩ := h₁
  obtain ⟨b, hv, kk⟩ := hQ _ _ w₁
  obtain rfl := av_bool hv
  exact nBind (nStand (nHolding (.of (wpAny_truthy_bool ⟨_, R₁, kk⟩))))
theorem st_not {a : IE} {ea : Expr} {p : Pos} (ha : ST G C n sc a ea) : ST G C n sc (.not a) (.UnaryOp .Not ea p) := fun {env l L cl σ Q K X A s} T R H w hQ => by
  rw [arm_isTrue_UnaryOp]
  refine nBind (nMono (ha (K := fun b τ => K (!b) τ) T R H w fun v τ h => ?_) (fun b s₁ h₁ => ?_) fun _ _ x => x)
  · obtain ⟨b, rfl, q⟩ := h
    obtain ⟨b', e, k⟩ := hQ _ _ q
    cases e
    exact ⟨b, rfl, k⟩
  · obtain ⟨τ, R₁, w₁⟩ := h₁
    exact nPure ⟨τ, R₁, w₁⟩
theorem st_ite {c a b : IE} {ec ea eb : Expr} {p : Pos} (hc : ST G C n sc c ec) (ha : ST G C n sc a ea) (hb : ST G C n sc b eb) : ST G C n sc (.ite c a b) (.IfExp ec ea eb p) := fun {env l L cl σ Q K X A s} T R H w hQ => by
  rw [arm_isTrue_IfExp]
  refine nBind (nMono (hc (K := fun r τ => (r = true → WE C cl a L τ Q X) ∧ (r = false → WE C cl b L τ Q X)) T R H w fun v τ h => h) (fun r s₁ h₁ => ?_) fun _ _ x => x)
  obtain ⟨τ, R₁, w₁, w₂⟩ := h₁
  cases r with
  | true => exact nIf rfl (ha T R₁ H (w₁ rfl) hQ)
  | false => exact nElse (by simp) (hb T R₁ H (w₂ rfl) hQ)
/-! and, or -/
inductive BAll (P : IE → Expr → Prop) : List IE → List Expr → Prop where
  | nil : BAll P [] []
  | cons {i : IE} {e : Expr} {is : List IE} {es : List Expr} : P i e → BAll P is es → BAll P (i :: is) (e :: es)
theorem se_bops {an : Bool} {p : Pos} {env : Env} {l : List Env} {L : Addr} {cl : Option Addr} {Q : Kt} {X : Xt} {A : Around} (T : At env L cl sc) (H : AOk n l A) :
    ∀ {is : List IE} {es : List Expr}, BAll (SE G C n sc) is es → es ≠ [] → ∀ {σ : St} {s : Shared}, Rel G l σ s → WB C cl an is L σ (fun b σ => Q (.bool b) σ) X → wN (Md G) A (boolOp p (bop an) (evalEach es env)) (QS G l Q) (EC G l X) s := by
  intro is es h
  induction h with
  | nil => intro h; exact (h rfl).elim
  | @cons i e is es h1 h2 ih =>
    intro _ σ s R w
    cases h2 with
    | nil =>
      show wN _ _ (eval e env) _ _ _
      refine nMono (h1 T R H w) (fun v s₁ h => ?_) fun _ _ x => x
      obtain ⟨τ, R₁, b, hv, w₁, w₂⟩ := h
      refine ⟨τ, R₁, ?_⟩
      rw [hv]
      by_cases hb : b = an
      · rw [hb]; exact w₁ hb
      · exact w₂ hb
    | @cons i' e' is' es' h3 h4 =>
      show wN _ _ (do
        let v ← eval e env
        standAt p
        let t ← holding [v] (truthy v)
        match bop an, t with
        | .And, false | .Or, true => pure v
        | _, _ => boolOp p (bop an) (evalEach (e' :: es') env)) _ _ _
      refine nBind (nMono (h1 T R H w) (fun v s₁ h => ?_) fun _ _ x => x)
      obtain ⟨τ, R₁, b, hv, w₁, w₂⟩ := h
      obtain rfl := av_bool hv
      refine nBind (nStand (nBind (nHolding (.of (wpAny_truthy_bool ?_)))))
      have go : b = an → wN (Md G) A (boolOp p (bop an) (evalEach (e' :: es') env)) (QS G l Q) (EC G l X) s₁ := fun hb => ih (by simp) R₁ (w₁ hb)
      have stop : b ≠ an → wN (Md G) A (pure (Value.bool b)) (QS G l Q) (EC G l X) s₁ := fun hb => nPure ⟨τ, R₁, w₂ hb⟩
      cases an <;> cases b
      · exact go rfl
      · exact stop (by simp)
      · exact stop (by simp)
      · exact go rfl
theorem se_bop {an : Bool} {op : BoolOp} {is : List IE} {es : List Expr} {p : Pos} (ho : op = bop an) (h : BAll (SE G C n sc) is es) (hn : es ≠ []) : SE G C n sc (.bop an is) (.BoolOp op es p) := fun T R H w => by
  rw [arm_eval_BoolOp]
  subst ho
  exact se_bops T H h hn R w
theorem st_bops {an : Bool} {env : Env} {l : List Env} {L : Addr} {cl : Option Addr} {Q : Bool → St → Prop} {X : Xt} {A : Around} (T : At env L cl sc) (H : AOk n l A) :
    ∀ {is : List IE} {es : List Expr}, BAll (ST G C n sc) is es → ∀ {σ : St} {s : Shared}, Rel G l σ s → WB C cl an is L σ Q X → wN (Md G) A (allTrue (bop an) es env) (fun b s' => ∃ τ, Rel G l τ s' ∧ Q b τ) (EC G l X) s := by
  intro is es h
  induction h with
  | nil =>
    intro σ s R w
    show wN _ _ (pure (bop an == BoolOp.And)) _ _ _
    refine nPure ⟨σ, R, ?_⟩
    cases an <;> exact w
  | @cons i e is es h1 h2 ih =>
    intro σ s R w
    show wN _ _ (do
      match bop an, ← isTrue e env (eval e env) with
      | .And, false => pure false
      | .Or, true => pure true
      | _, _ => allTrue (bop an) es env) _ _ _
    refine nBind (nMono (h1 (K := fun b τ => (b = an → WB C cl an is L τ Q X) ∧ (b ≠ an → Q b τ)) T R H w fun v τ h => h) (fun b s₁ h => ?_) fun _ _ x => x)
    obtain ⟨τ, R₁, w₁, w₂⟩ := h
    have go : b = an → wN (Md G) A (allTrue (bop an) es env) (fun b s' => ∃ τ, Rel G l τ s' ∧ Q b τ) (EC G l X) s₁ := fun hb => ih R₁ (w₁ hb)
    have stop : b ≠ an → wN (Md G) A (pure b) (fun b s' => ∃ τ, Rel G l τ s' ∧ Q b τ) (EC G l X) s₁ := fun hb => nPure ⟨τ, R₁, w₂ hb⟩
    cases an <;> cases b
    · exact go rfl
    · exact stop (by simp)
    · exact stop (by simp)
    · exact go rfl
theorem st_bop {an : Bool} {op : BoolOp} {is : List IE} {es : List Expr} {p : Pos} (ho : op = bop an) (h : BAll (ST G C n sc) is es) : ST G C n sc (.bop an is) (.BoolOp op es p) := fun {env l L cl σ Q K X A s} T R H w hQ => by
  rw [arm_isTrue_BoolOp]
  subst ho
  refine nMono (st_bops T H h R w) (fun b s' h => ?_) fun _ _ x => x
  obtain ⟨τ, R', q⟩ := h
  obtain ⟨b', e, k⟩ := hQ _ _ q
  cases e
  exact ⟨τ, R', k⟩
end
end Mine
end
section
open PySem PySem.W PySem.Calls PyProof.Rows
namespace Mine
open Sem (wp)
theorem NsRel.upd {mm : Str → Option Value} {m : N → Option V} (h : NsRel mm m) (k : N) (v : Value) : NsRel (fun y => if y = k.str then some v else mm y) (Mine.upd m k (av v)) := by
  refine ⟨fun j w e => ?_, fun y x e => ?_⟩
  · unfold Mine.upd at e
    by_cases hj : j.nat = k.nat
    · rw [if_pos hj] at e; cases e
      obtain rfl := nat_inj hj
      exact ⟨v, by simp, rfl⟩
    · rw [if_neg hj] at e
      obtain ⟨x, h1, h2⟩ := h.1 j w e
      exact ⟨x, by dsimp only; rw [if_neg fun q => hj (by rw [str_inj q])]; exact h1, h2⟩
  · by_cases hy : y = k.str
    · exact ⟨k, hy.symm, by simp [Mine.upd]⟩
    · have e' : mm y = some x := by simpa [hy] using e
      obtain ⟨j, rfl, h2⟩ := h.2 y x e'
      refine ⟨j, rfl, ?_⟩
      unfold Mine.upd
      split <;> first | rfl | exact h2
theorem look_of {es : Array DictEntry} {n : Nat} {name : Str} {v : Value} {mm : Str → Option Value} {o : Obj} (hd : o.data = .dict es n) (hf : ∀ x, nsFind es x = mm x) (hv : mm name = some v) : lookIn name o = some (some v) := by
  unfold lookIn
  rw [hd]
  dsimp only
  have := hf name
  rw [hv] at this
  unfold nsFind findBy at this
  rw [← Array.find?_toList] at this
  obtain ⟨e, h1, h2⟩ := Option.map_eq_some_iff.mp this
  rw [h1, ← h2]
/-- an attribute of an exception's own -/
theorem getB_value {prog : Program} {w : World} {A : Around} {E : Value → Shared → Prop} {s : Shared} {K : Frag} {x C : Addr} {ox : Obj} {od : Option Obj} {name : Str} {expr : Bool} {Q : Value → Shared → Prop} {v : Value} (X : K.In s.heap) (I : InstAt s.heap x ox C od)
    (hga : findIn K (.ref C) "__getattribute__" = some (some (.builtin "BaseException.__getattribute__"))) (hgk : findIn K (.ref C) "__getattr__" = some none) (hbe : mroIn K C (.type "BaseException") = some true)
    (hf : findObj K C od name = some (.value v)) (hh : handedIn v = true) (h : Q v { s with toks := s.toks + 1 }) : wpAny (model prog w) A (getAttr (.ref x) name expr) Q E s := by
  have FB := PySem.F.attr_Exception
  obtain ⟨hp, g, d, t, os⟩ := s
  have L0 := I.type (M := model prog w)
  have L1 := looks_findIn (M := model prog w) X hga
  have L2 := looks_findIn (M := model prog w) X hgk
  have L3 := looks_find (M := model prog w) X I hf
  have LB : Looks (model prog w) hp (isInstance (.ref x) (.type "BaseException")) true := L0.andThen (looks_mroIn X hbe)
  have hk : builtinKind "BaseException.__getattribute__" = some .slot := by decide +kernel
  have hsplit : splitId "BaseException.__getattribute__" = some ("BaseException", "__getattribute__") := by decide +kernel
  have hx0 : (expr && onTheHeap (Value.builtin "BaseException.__getattribute__")) = false := by cases expr <;> rfl
  have hx2 : (Value.builtin "BaseException.__getattribute__" == Value.builtin "object.__getattribute__") = false := by decide +kernel
  unfold getAttr getAttrBy
  refine wpAny_bind (wpAny_mkText (wpAny_holding (wpAny_bind (L0.at (wpAny_bind (L1.at ?_))))))
  dsimp only
  rw [hx2, Bool.and_false, if_neg (by decide)]
  unfold getAttrByItsOwn hookBefore callGetattribute boundAndCalled
  rw [show onTheHeap (Value.ref C) = true from rfl, if_pos rfl, hx0, if_neg (by decide), FB.ga.bind]
  refine wpAny_bind (L2.at (wpAny_bind (wpAny_attempt (wpAny_holding (wpAny_bind (wpAny_pure (wpAny_runValue ?_)))))))
  refine codeAny_call_builtin FB.ga.plain PySem.F.entry_bexc_ga (@check_slot (model prog w) _ _ _ "BaseException.__getattribute__" "BaseException" "__getattribute__" (.ref x) _ [] _ hk hsplit LB (PySem.F.args_bexc_ga _ _) ?_)
  refine wpAny_bind (wpAny_pure (wpAny_bind (wpAny_pure (wpAny_bind (L0.at (wpAny_bind (L3.at ?_)))))))
  refine wpAny_pure ?_
  show wpAny _ _ (handedOut v) _ _ _
  rw [handedOut_of hh]; exact wpAny_pure h
section
variable {G : Glob} {C : Ct} {n : Nat} {sc : List (Str × NameKind)}
theorem fns_at {l : List Env} {σ : St} {s : Shared} {L : Addr} {m : N → Option V} (R : Rel G l σ s) (h : σ L = some (.ns false m)) :
    ∃ es ep mm, s.heap.get? L = some { cls := .type "dict", data := .dict es ep } ∧ StrKeys es ∧ (∀ x, nsFind es x = mm x) ∧ NsRel mm m ∧ es.size ≤ 100 := by
  obtain ⟨_, ob, h1, es, ep, mm, hd, h2, h3, h4, h5⟩ := R.objs _ _ h
  obtain ⟨h6, h7⟩ := h5 rfl
  exact ⟨es, ep, mm, h6 ▸ h1, h2, h3, h4, h7⟩
theorem not_handled (v : Value) : (∃ i, v = .builtin i) ∨ handedIn v = true := by cases v <;> first | exact .inr rfl | exact .inl ⟨_, rfl⟩
theorem okAttr_cases {Cl : Addr} {x : N} (h : okAttr Cl x = true) : (Cl = clsWire ∧ (x = .nAt ∨ x = .nData)) ∨ (Cl = clsAtom ∧ x = .nText) := by
  unfold okAttr at h
  simp only [Bool.or_eq_true, Bool.and_eq_true, beq_iff_eq] at h
  rcases h with ⟨h1, h2 | h2⟩ | ⟨h1, h2⟩
  · exact .inl ⟨h1, .inl (nat_inj h2)⟩
  · exact .inl ⟨h1, .inr (nat_inj h2)⟩
  · exact .inr ⟨h1, nat_inj h2⟩
theorem get_ok {l : List Env} {σ : St} {s : Shared} {A : Around} {E : Value → Shared → Prop} {v : Value} {x : N} {r : V} {ex : Bool} (O : G.Ok) (F : KFact G.K) (R : Rel G l σ s) (h : attrOf σ (av v) x = some r) (hb : ∀ i, r ≠ .builtin i) :
    wpAny (Md G) A (getAttr v x.str ex) (fun y s' => av y = r ∧ s' = { s with toks := s.toks + 1 }) E s := by
  unfold attrOf at h
  split at h
  · rename_i a hv
    obtain rfl := av_ref hv
    have X := R.kin O
    have fin : ∀ {Cl d : Addr} {ox : Obj} {m : N → Option V}, s.heap.get? a = some ox → ox.cls = .ref Cl → notCls ox = true → ox.dict = some d → σ d = some (.ns false m) → m x = some r →
        findIn G.K (.ref Cl) "__getattribute__" = some (some (.builtin "object.__getattribute__")) → hasDictIn G.K Cl = true → findIn G.K (.ref Cl) x.str = some none → wpAny (Md G) A (getAttr (.ref a) x.str ex) (fun y s' => av y = r ∧ s' = { s with toks := s.toks + 1 }) E s := by
      intro Cl d ox m h1 h2 h3 h4 h5 h6 h7 h8 h9
      obtain ⟨es, ep, mm, k1, k2, k3, k4, k5⟩ := fns_at R h5
      obtain ⟨y, k6, rfl⟩ := k4.1 _ _ h6
      have I : InstAt s.heap a ox Cl (some { cls := .type "dict", data := .dict es ep }) := ⟨h1, h2, h3, by rw [h4]; exact k1⟩
      have hh : handedIn y = true := by
        rcases not_handled y with ⟨i, rfl⟩ | h
        · exact (hb i rfl).elim
        · exact h
      exact get_value X I h7 (findObj_own h8 h9 rfl (look_of rfl k3 k6)) hh ⟨rfl, rfl⟩
    split at h
    · rename_i Cl d ho
      split at h
      · rename_i m hd
        split at h
        · rename_i hok
          rcases okAttr_cases hok with ⟨rfl, rfl | rfl⟩ | ⟨rfl, rfl⟩
          · exact fin (inst_at R ho) rfl rfl rfl hd h F.wire.ga F.wire.hd F.wAt
          · exact fin (inst_at R ho) rfl rfl rfl hd h F.wire.ga F.wire.hd F.wData
          · exact fin (inst_at R ho) rfl rfl rfl hd h F.atom.ga F.atom.hd F.aText
        · cases h
      · cases h
    · rename_i Cl d ho
      split at h
      · rename_i m hd
        split at h
        · rename_i hok
          obtain ⟨rfl, hx⟩ := hok
          obtain rfl : x = .nAt := nat_inj hx
          obtain ⟨_, ob, g1, g2, g3, vs, g4, _⟩ := R.objs _ _ ho
          obtain ⟨es, ep, mm, k1, k2, k3, k4, k5⟩ := fns_at R hd
          obtain ⟨y, k6, rfl⟩ := k4.1 _ _ h
          have I : InstAt s.heap _ ob clsFault (some { cls := .type "dict", data := .dict es ep }) := ⟨g1, g2, by unfold notCls; rw [g4], by rw [g3]; exact k1⟩
          have hh : handedIn y = true := by
            rcases not_handled y with ⟨i, rfl⟩ | h
            · exact (hb i rfl).elim
            · exact h
          exact getB_value X I F.fga F.fgk F.fbe (findObj_own F.fhd F.fAt rfl (look_of rfl k3 k6)) hh ⟨rfl, rfl⟩
        · cases h
      · cases h
    · cases h
  · cases h
/-- a store at a name that is there -/
theorem nsSet_mod {M : Model} {A : Around} {E : Value → Shared → Prop} {s : Shared} {d : Addr} {es : Array DictEntry} {ep : Nat} {mm : Str → Option Value} {name : Str} {y v : Value} {Q : Unit → Shared → Prop} (hd : s.heap.get? d = some { cls := .type "dict", data := .dict es ep })
    (hk : StrKeys es) (hf : ∀ x, nsFind es x = mm x) (hy : mm name = some y)
    (h : ∀ h' es', Heap.SameBut d s.heap h' → h'.get? d = some { cls := .type "dict", data := .dict es' ep } → es'.size = es.size → StrKeys es' → (∀ x, nsFind es' x = if x = name then some v else mm x) → Q () { s with heap := h', toks := s.toks + 1 }) : wpAny M A (nsSet d name v) Q E s := by
  unfold nsSet
  refine wpAny_bind (wpAny_bind (wpAny_askSetting (wpAny_pure (wpAny_bind (wpAny_mkText (wpAny_bind (wpAny_loadPart hd ?_)))))))
  have hany : es.any (·.refKey) = false := by
    rw [Array.any_eq_false']; intro e he; obtain ⟨n, t, h⟩ := hk e he; simp [DictEntry.refKey, h]
  dsimp only
  rw [aRefKeyMayBeTheName_eq]
  unfold aRefKeyMayBeTheNameByArray
  simp only [hany, Bool.and_false, Bool.false_eq_true, if_false]
  obtain ⟨i, hi⟩ : ∃ i, es.findIdx? (·.key.isStr name) = some i := by
    have := hf name
    rw [hy] at this
    unfold nsFind at this
    rw [findBy_of_findIdx?] at this
    split at this
    · exact ⟨_, by assumption⟩
    · cases this
  refine wpAny_updatePart hd (h _ (es.modify i fun e => { e with val := v }) (Heap.SameBut.update ..) ?_ (by simp) (hk.modify _ _) fun x => ?_)
  · exact Heap.get?_update_self _ hd (by simp only [Obj.putName_eq, Obj.putNameByArray, hi]; rfl) |>.trans (by simp only [Obj.putName_eq, Obj.putNameByArray, hi])
  · rw [← hf]; exact findBy_modify (fun n v => v.isStr n) Value.isStr_inj es name x v i hi
theorem set_ok {l : List Env} {σ : St} {s : Shared} {A : Around} {E : Value → Shared → Prop} {a Cl d : Addr} {v : Value} {x : N} {m : N → Option V} (O : G.Ok) (F : KFact G.K) (R : Rel G l σ s) (ha : σ a = some (.inst Cl d)) (hd : σ d = some (.ns false m)) (hok : okAttr Cl x = true) (hm : (m x).isSome = true) :
    wpAny (Md G) A (setAttr (.ref a) x.str v) (fun _ s' => Rel G l (σ.set d (.ns false (upd m x (av v)))) s') E s := by
  have X := R.kin O
  obtain ⟨es, ep, mm, k1, k2, k3, k4, k5⟩ := fns_at R hd
  obtain ⟨r, hr⟩ := Option.isSome_iff_exists.mp hm
  obtain ⟨y, k6, hy⟩ := k4.1 _ _ hr
  have I : InstAt s.heap a (instObj Cl d) Cl (some { cls := .type "dict", data := .dict es ep }) := ⟨inst_at R ha, rfl, rfl, k1⟩
  have fin : ClsF G.K Cl → takerIn G.K Cl x.str = some none → wpAny (Md G) A (setAttr (.ref a) x.str v) (fun _ s' => Rel G l (σ.set d (.ns false (upd m x (av v)))) s') E s := by
    intro CF ht
    refine set_plain X I CF.sa (osa_open X I CF.po ht fun b => ?_)
    obtain ⟨cd, hc, hd'⟩ := any_some CF.hd
    have hx := inst_at R ha
    refine wpAny_bind (wpAny_pure (wpAny_bind (wpAny_bind (wpAny_loadPart hx (wpAny_bind ((looks_clsIn X hc).at ?_))))))
    rw [hd']
    refine wpAny_pure (a := some d) (wpAny_bind (wpAny_pure (wpAny_bind ?_)))
    refine nsSet_mod (s := { s with toks := s.toks + 1 }) k1 k2 k3 k6 fun h' es' e1 e2 e3 e4 e5 => ?_
    refine wpAny_bind (wpAny_lookBehind e2 (pastItsLine_dict (by rw [sizeLine_eq]; lia)) ?_)
    refine wpAny_pure ?_
    have hm : OM G { cls := .type "dict", data := .dict es' ep } (.ns false (upd m x (av v))) := ⟨es', ep, _, rfl, e4, e5, k4.upd x v, fun _ => ⟨rfl, by lia⟩⟩
    exact R.put (t := s.toks + 1 + 1) hd (fun b o hb e => (e1.2 b hb).trans e) e2 hm (by intro m e; cases e)
  rcases okAttr_cases hok with ⟨rfl, rfl | rfl⟩ | ⟨rfl, rfl⟩
  · exact fin F.wire (by unfold takerIn; rw [show (N.nAt.str : Str) = "at" from rfl, F.wAt]; rfl)
  · exact fin F.wire (by unfold takerIn; rw [show (N.nData.str : Str) = "data" from rfl, F.wData]; rfl)
  · exact fin F.atom (by unfold takerIn; rw [show (N.nText.str : Str) = "text" from rfl, F.aText]; rfl)
end
end Mine
end
section
open PySem PySem.W PySem.Calls PyProof.Rows
namespace Mine
open Sem (wp)
noncomputable def isName : Expr → Bool | .Name _ _ => true | _ => false
theorem base_plain {o : Expr} {a : Str} {env : Env} {w : Sem Value} (h : plainBase o = true) : attributeBase o a env w = w := by
  cases o with
  | Call f as ks p => cases f <;> first | rfl | cases h
  | _ => rfl
section
variable {G : Glob} {C : Ct} {n : Nat} {sc : List (Str × NameKind)}
theorem se_attr {a : IE} {ea : Expr} {x : N} {y : Str} {p : Pos} (O : G.Ok) (F : KFact G.K) (hy : y = x.str) (hb : plainBase ea = true) (ha : SE G C n sc a ea) : SE G C n sc (.attr a x) (.Attribute ea y p) := fun {env l L cl σ Q X A s} T R H w => by
  subst hy
  show wN _ _ (do
    let o ← attributeBase ea x.str env (eval ea env)
    standAt p.atName
    let r ← holding [o] (getAttr o x.str true)
    letTemporaryGo ea o r
    pure r) _ _ _
  rw [base_plain hb]
  refine nBind (nMono (ha T R H w) (fun v s₁ h₁ => ?_) fun _ _ x => x)
  obtain ⟨τ, R₁, r, h2, h3, q⟩ := h₁
  refine nBind (nStand (nBind (nHolding (.of (wpAny_mono (get_ok O F R₁ h2 fun i e => by subst e; cases h3) (fun r' s₂ h => ?_) fun _ _ x => x)))))
  obtain ⟨rfl, rfl⟩ := h
  exact leaf (wpAny_letTemporaryGo (nPure ⟨τ, R₁.tok, q⟩))
theorem lookIn_none {es : Array DictEntry} {k : Nat} {name : Str} {mm : Str → Option Value} {o : Obj} (hd : o.data = .dict es k) (hk : StrKeys es) (hf : ∀ x, nsFind es x = mm x) (hv : mm name = none) : lookIn name o = some none := by
  unfold lookIn
  rw [hd]
  dsimp only
  have := hf name
  rw [hv] at this
  unfold nsFind findBy at this
  rw [← Array.find?_toList] at this
  rw [Option.map_eq_none_iff.mp this]
  have hany : es.toList.any (·.refKey) = false := by
    rw [List.any_eq_false]; intro e he; obtain ⟨n, t, h⟩ := hk e (by simpa using he); simp [DictEntry.refKey, h]
  simp only [hany, Bool.false_eq_true, if_false]
theorem meth_names : (methF.all fun f => (N.nAt.str != mname f) && (N.nData.str != mname f) && (N.nText.str != mname f) && !copiedNames.contains (mname f)) = true := by decide +kernel
theorem meth_name {f : F} (hf : f ∈ methF) : (N.nAt.str ≠ mname f ∧ N.nData.str ≠ mname f ∧ N.nText.str ≠ mname f) ∧ copiedNames.contains (mname f) = false := by
  have := List.all_eq_true.mp meth_names f hf
  simp only [Bool.and_eq_true, bne_iff_ne, ne_eq, Bool.not_eq_true'] at this
  exact ⟨⟨this.1.1.1, this.1.1.2, this.1.2⟩, this.2⟩
theorem no_shadow {f : F} (hf : f ∈ methF) {mm : Str → Option Value} {m : N → Option V} (h : NsRel mm m) (hm : lean m) : mm (mname f) = none := by
  cases q : mm (mname f) with
  | none => rfl
  | some x =>
    obtain ⟨k, e, h2⟩ := h.2 _ _ q
    exfalso
    obtain ⟨⟨n1, n2, n3⟩, _⟩ := meth_name hf
    rcases hm k h2 with rfl | rfl | rfl
    · exact n1 e
    · exact n2 e
    · exact n3 e
theorem inst_dict {l : List Env} {σ : St} {s : Shared} {a Cl d : Addr} {m : N → Option V} (R : Rel G l σ s) (ha : σ a = some (.inst Cl d)) (hd : σ d = some (.ns false m)) (hm : lean m) {f : F} (hf : f ∈ methF) :
    ∃ od, InstAt s.heap a (instObj Cl d) Cl (some od) ∧ lookIn (mname f) od = some none := by
  obtain ⟨es, ep, mm, k1, k2, k3, k4, k5⟩ := fns_at R hd
  exact ⟨_, ⟨inst_at R ha, rfl, rfl, k1⟩, lookIn_none rfl k2 k3 (no_shadow hf k4 hm)⟩
theorem se_bm {a : IE} {ea : Expr} {f : F} {y : Str} {p : Pos} (O : G.Ok) (F : KFact G.K) (hf : f ∈ methF) (hw : mcls f = clsWire) (hy : y = mname f) (hb : plainBase ea = true) (ha : SE G C n sc a ea) : SE G C n sc (.bm a f) (.Attribute ea y p) := fun {env l L cl σ Q X A s} T R H w => by
  subst hy
  show wN _ _ (do
    let o ← attributeBase ea (mname f) env (eval ea env)
    standAt p.atName
    let r ← holding [o] (getAttr o (mname f) true)
    letTemporaryGo ea o r
    pure r) _ _ _
  rw [base_plain hb]
  refine nBind (nMono (ha T R H w) (fun v s₁ h₁ => ?_) fun _ _ x => x)
  obtain ⟨τ, R₁, w', d, m, hv, h1, h2, h3, q⟩ := h₁
  obtain rfl := av_ref hv
  obtain ⟨od, I, hl⟩ := inst_dict R₁ h1 h2 h3 hf
  have X := R₁.kin O
  obtain ⟨m1, m2, m3, m4⟩ := F.meth f hf
  rw [hw] at m1
  have hfo : findObj G.K clsWire (some od) (mname f) = some (.bind (.builtin "function.__get__") (.ref f.addr)) := by
    obtain ⟨cd, hc, hd'⟩ := any_some F.wire.hd
    unfold findObj
    have ho : W.ownOf cd (some od) (mname f) = some none := by unfold W.ownOf; rw [if_pos hd']; exact hl
    rw [hc, Option.bind_some, m1, Option.bind_some]
    have hcn : copiedNames.contains (mname f) = false := (meth_name hf).2
    simp only [m3, m4, Option.bind_some, ho, hcn, Bool.false_and, Bool.false_eq_true, if_false]
  refine nBind (nStand (nBind (nHolding (.of (get_bind X I F.wire.ga hfo F.wire.gk (wpAny_call (fn_get (s := { s₁ with toks := s₁.toks + 1 }) X m2 ?_)))))))
  show wpAny _ _ (handedOut (.ref s₁.heap.objs.size)) _ _ _
  rw [handedOut_of rfl]
  exact wpAny_pure (leaf (wpAny_letTemporaryGo (nPure (R₁.newsT (t := s₁.toks + 1) O F q rfl rfl))))
theorem se_sub {o i : IE} {eo ei : Expr} {p : Pos} (ho : SE G C n sc o eo) (hi : SE G C n sc i ei) : SE G C n sc (.sub o i) (.Subscript eo ei p) := fun {env l L cl σ Q X A s} T R H w => by
  show wN _ _ (do
    let o ← eval eo env
    let i ← holding [o] (eval ei env)
    standAt p
    subscriptTail eo ei o i) _ _ _
  refine nBind (nMono (ho T R H w) (fun v s₁ h₁ => ?_) fun _ _ x => x)
  obtain ⟨τ, R₁, w₁⟩ := h₁
  refine nBind (nHolding (nMono (hi T R₁ H w₁) (fun u s₂ h₂ => ?_) fun _ _ x => x))
  obtain ⟨ρ, R₂, w₂⟩ := h₂
  exact nBind (nStand (.of (sub_ok R₂ w₂)))
/-- one bound of a slice -/
noncomputable def SO (G : Glob) (C : Ct) (n : Nat) (sc : List (Str × NameKind)) (io : Option IE) (eo : Option Expr) : Prop :=
  ∀ {env : Env} {l : List Env} {L : Addr} {cl : Option Addr} {σ : St} {Q : Option V → St → Prop} {X : Xt} {A : Around} {s : Shared}, At env L cl sc → Rel G l σ s → AOk n l A → WO C cl io L σ Q X →
    wN (Md G) A (valueOrNone (evalOpt eo env)) (fun v s' => ∃ τ o, Rel G l τ s' ∧ Part o v ∧ Q o τ) (EC G l X) s
theorem so_none : SO G C n sc none none := fun T R H w => by
  exact nPure ⟨_, none, R, rfl, w⟩
theorem so_some {i : IE} {e : Expr} (h : SE G C n sc i e) : SO G C n sc (some i) (some e) := fun T R H w => by
  refine nMono (h T R H w) (fun v s₁ h₁ => ?_) fun _ _ x => x
  obtain ⟨τ, R₁, w₁⟩ := h₁
  exact ⟨τ, some (av v), R₁, rfl, w₁⟩
theorem se_slice {o : IE} {lo up : Option IE} {eo : Expr} {elo eup : Option Expr} {p q : Pos} (ho : SE G C n sc o eo) (hl : SO G C n sc lo elo) (hu : SO G C n sc up eup) : SE G C n sc (.slice o lo up) (.Subscript eo (.Slice elo eup none q) p) := fun {env l L cl σ Q X A s} T R H w => by
  show wN _ _ (do
    let o ← eval eo env
    let i ← holding [o] (do
      let l ← valueOrNone (evalOpt elo env)
      let u ← holding [l] (valueOrNone (evalOpt eup env))
      let s ← holding [l, u] (pure Value.none)
      newFields "slice" [l, u, s])
    standAt p
    subscriptTail eo (.Slice elo eup none q) o i) _ _ _
  refine nBind (nMono (ho T R H w) (fun v s₁ h₁ => ?_) fun _ _ x => x)
  obtain ⟨τ, R₁, w₁⟩ := h₁
  refine nBind (nHolding (nBind (nMono (hl T R₁ H w₁) (fun u s₂ h₂ => ?_) fun _ _ x => x)))
  obtain ⟨ρ, o1, R₂, p1, w₂⟩ := h₂
  refine nBind (nHolding (nMono (hu T R₂ H w₂) (fun u' s₃ h₃ => ?_) fun _ _ x => x))
  obtain ⟨ρ', o2, R₃, p2, w₃⟩ := h₃
  refine nBind (nHolding (nPure (.of ?_)))
  unfold newFields
  exact wpAny_newObj_type (nBind (nStand (.of (slice_ok R₃ p1 p2 w₃)))) (by show (3 : Nat) ≤ _; simp [sizeLine])
/-- among written constants -/
theorem eqAt_bytes2 {a b : Array UInt8} {t u : Tok} {A : Around} {s : Shared} : SeqAt.EqAt A s (.bytes a t) (.bytes b u) (a.toList == b.toList) := fun prog w E Q h => by
  by_cases hab : (Value.bytes a t == Value.bytes b u) = true
  · obtain ⟨rfl, rfl⟩ : a = b ∧ t = u := by simpa using hab
    rw [beq_self_eq_true] at h
    exact eqAt_bytes prog w E Q h
  · unfold eqBool
    refine wpAny_holding ?_
    rw [if_neg hab]
    refine wpAny_bind (m := richCompare .Eq (.bytes a t) (.bytes b u)) ?_
    exact eq_bytes (Q := fun v s' => wpAny (model prog w) A (truthOfDropped v) Q E s') (wpAny_truthy_bool h)
theorem any_av {vs : List Value} {v : V} : (vs.any fun y => eqb (av y) v) = ((vs.map av).any fun w => eqb w v) := by
  induction vs with
  | nil => rfl
  | cons x r ih => simp [ih]
theorem in_ok {l : List Env} {σ : St} {s : Shared} {A : Around} {E : Value → Shared → Prop} {neg lst : Bool} {v : Value} {vs : List Value} {Q : Kt} {a : Addr} (R : Rel G l σ s)
    (ha : s.heap.get? a = some { cls := .type (if lst then "list" else "tuple"), data := .seq vs.toArray }) (h : inV neg (av v) (vs.map av) σ Q) :
    wpAny (Md G) A (compareOp (if neg then .NotIn else .In) v (.ref a)) (QS G l Q) E s := by
  obtain ⟨hk, _, q⟩ := h
  have each : ∀ (A' : Around) y, y ∈ vs.toArray → SeqAt.EqAt A' s y v (eqb (av y) (av v)) := by
    intro A' y hy
    have hy' : av y ∈ vs.map av := List.mem_map_of_mem (by simpa using hy)
    rcases hk with ⟨⟨i, hv⟩, hw⟩ | ⟨⟨b, hv⟩, hw⟩
    · obtain ⟨j, hj⟩ := hw _ hy'
      obtain ⟨t, rfl⟩ := av_int hv; obtain ⟨u, rfl⟩ := av_int hj
      exact SeqAt.EqAt.int_int _ _ _ _
    · obtain ⟨j, hj⟩ := hw _ hy'
      obtain ⟨t, rfl⟩ := av_bytes hv; obtain ⟨u, rfl⟩ := av_bytes hj
      exact eqAt_bytes2
  have hany : (vs.toArray.any fun y => eqb (av y) (av v)) = ((vs.map av).any fun w => eqb w (av v)) := by rw [← any_av]; simp
  cases neg <;> cases lst
  · exact SeqAt.in_tupleAt (fun y => eqb (av y) (av v)) ⟨_, ha, rfl, _, rfl⟩ (each _) (by rw [hany]; exact R.qs0 (by simpa [av] using q))
  · exact SeqAt.in_listAt (fun y => eqb (av y) (av v)) ⟨_, ha, rfl, _, rfl⟩ (each _) (by rw [hany]; exact R.qs0 (by simpa [av] using q))
  · exact SeqAt.notIn_tupleAt (fun y => eqb (av y) (av v)) ⟨_, ha, rfl, _, rfl⟩ (each _) (by rw [hany]; exact R.qs0 (by simpa [av] using q))
  · exact SeqAt.notIn_listAt (fun y => eqb (av y) (av v)) ⟨_, ha, rfl, _, rfl⟩ (each _) (by rw [hany]; exact R.qs0 (by simpa [av] using q))
end
end Mine
end
section
open PySem PySem.W PySem.Calls PyProof.Rows
namespace Mine
open Sem (wp)
noncomputable def dispOf (lst : Bool) (es : List Expr) : Expr → Prop := fun e => (lst = true ∧ ∃ p, e = .List es p) ∨ (lst = false ∧ ∃ k p, e = .Tuple es k p)
section
variable {G : Glob} {C : Ct} {n : Nat} {sc : List (Str × NameKind)}
theorem nDisp {is : List IE} {es : List Expr} {lst : Bool} {e : Expr} (hd : dispOf lst es e) (h : SEs G C n sc is es) (hz : es.length ≤ 1000) {env : Env} {l : List Env} {L : Addr} {cl : Option Addr} {σ : St} {Q : List V → St → Prop} {X : Xt} {A : Around} {s : Shared}
    (T : At env L cl sc) (R : Rel G l σ s) (H : AOk n l A) (w : WEs C cl is L σ Q X) :
    wN (Md G) A (eval e env) (fun v s' => ∃ (a : Addr) (vs : List Value) (τ : St), v = .ref a ∧ s'.heap.get? a = some { cls := .type (if lst then "list" else "tuple"), data := .seq vs.toArray } ∧ Rel G l τ s' ∧ Q (vs.map av) τ) (EC G l X) s := by
  rcases hd with ⟨rfl, p, rfl⟩ | ⟨rfl, k, p, rfl⟩
  · rw [arm_eval_List]
    refine nBind (nStand (nBind (nMono (h p T R H w) (fun vs s₁ h₁ => ?_) fun _ _ x => x)))
    obtain ⟨hl, τ, R₁, w₁⟩ := h₁
    refine .of (wpAny_newObj_type ⟨_, vs, τ, rfl, Heap.get?_push_size _ rfl, R₁.keeps (t := s₁.toks) (fun _ _ e => Heap.get?_push_of_some _ e), w₁⟩ (by show vs.toArray.size ≤ sizeLine; rw [List.size_toArray, sizeLine_eq]; lia))
  · rw [arm_eval_Tuple]
    refine nBind (nStand (nBind (nMono (h p T R H w) (fun vs s₁ h₁ => ?_) fun _ _ x => x)))
    obtain ⟨hl, τ, R₁, w₁⟩ := h₁
    refine .of (wpAny_newObj_type ⟨_, vs, τ, rfl, Heap.get?_push_size _ rfl, R₁.keeps (t := s₁.toks) (fun _ _ e => Heap.get?_push_of_some _ e), w₁⟩ (by show vs.toArray.size ≤ sizeLine; rw [List.size_toArray, sizeLine_eq]; lia))
theorem disp_marks {lst : Bool} {es : List Expr} {e : Expr} {op : CmpOp} (hd : dispOf lst es e) : behindInMarks op e = false := by
  rcases hd with ⟨_, p, rfl⟩ | ⟨_, k, p, rfl⟩ <;> rfl
theorem se_inT {lst neg : Bool} {a : IE} {is : List IE} {ea e : Expr} {es : List Expr} {op : CmpOp} {p : Pos} (ho : op = if neg then .NotIn else .In) (hd : dispOf lst es e) (ha : SE G C n sc a ea) (h : SEs G C n sc is es) (hz : es.length ≤ 1000) :
    SE G C n sc (.inT lst neg a is) (.Compare ea [op] [e] p) := fun {env l L cl σ Q X A s} T R H w => by
  rw [eval_Compare1]
  refine nBind (nMono (ha T R H w) (fun v s₁ h₁ => ?_) fun _ _ x => x)
  obtain ⟨τ, R₁, w₁⟩ := h₁
  rw [markedBehindIn_of_false (disp_marks hd)]
  refine nBind (nHolding (nMono (nDisp hd h hz T R₁ H w₁) (fun u s₂ h₂ => ?_) fun _ _ x => x))
  obtain ⟨b, vs, ρ, rfl, h3, R₂, w₂⟩ := h₂
  subst ho
  exact nBind (nStand (nOperate (.of (in_ok R₂ h3 w₂))))
theorem st_inT {lst neg : Bool} {a : IE} {is : List IE} {ea e : Expr} {es : List Expr} {op : CmpOp} {p : Pos} (ho : op = if neg then .NotIn else .In) (hd : dispOf lst es e) (ha : SE G C n sc a ea) (h : SEs G C n sc is es) (hz : es.length ≤ 1000) :
    ST G C n sc (.inT lst neg a is) (.Compare ea [op] [e] p) := fun {env l L cl σ Q K X A s} T R H w hQ => by
  rw [isTrue_Compare1]
  refine nBind (nMono (ha T R H w) (fun v s₁ h₁ => ?_) fun _ _ x => x)
  obtain ⟨τ, R₁, w₁⟩ := h₁
  rw [markedBehindIn_of_false (disp_marks hd)]
  refine nBind (nHolding (nMono (nDisp hd h hz T R₁ H w₁) (fun u s₂ h₂ => ?_) fun _ _ x => x))
  obtain ⟨b, vs, ρ, rfl, h3, R₂, w₂⟩ := h₂
  subst ho
  refine nBind (nStand (nBind (nOperate (nMono (.of (in_ok (E := EC G l X) R₂ h3 w₂)) (fun r s₃ h₃ => ?_) fun _ _ x => x))))
  obtain ⟨ρ', R₃, q⟩ := h₃
  obtain ⟨b', hv, k⟩ := hQ _ _ q
  obtain rfl := av_bool hv
  exact nHolding (.of (wpAny_truthy_bool ⟨_, R₃, k⟩))
theorem st_isNone {a : IE} {ea : Expr} {k : Nat} {p q : Pos} (ha : SE G C n sc a ea) : ST G C n sc (.isNone a) (.Compare ea [.Is] [.Constant .none k q] p) := fun {env l L cl σ Q K X A s} T R H w hQ => by
  rw [isTrue_Compare1]
  refine nBind (nMono (ha T R H w) (fun v s₁ h₁ => ?_) fun _ _ x => x)
  obtain ⟨τ, R₁, w₁⟩ := h₁
  rw [markedBehindIn_of_false rfl]
  refine nBind (nHolding (nPure (nBind (nStand (nBind (nOperate (.of (is_none ?_))))))))
  have : (v == Value.none) = isN (av v) := by cases v <;> rfl
  rw [this]
  obtain ⟨b', hv, k⟩ := hQ _ _ w₁
  cases hv
  exact nHolding (.of (wpAny_truthy_bool ⟨_, R₁, k⟩))
/-! calls -/
noncomputable def KeepOk (M : Model) (h : Heap) (f : Value) : Prop := ∃ k, (k = Keeper.frame ∨ k = Keeper.machine ∨ k = Keeper.boundFrame) ∧ Looks M h (keeperOf f) k
theorem nSpliceArgs {M : Model} {A : Around} {E : Value → Shared → Prop} {s : Shared} {f : Value} {es : List Expr} {env : Env} {pos : Pos} {Q : Args → Shared → Prop} (hs : es.all notStar = true)
    (h : wN M A (spliced (backTo pos (starEach es env))) (fun vs s' => Q ⟨vs, []⟩ s') E s) : wN M A (evalArgs f true (backTo pos (starEach es env)) []) Q E s := by
  unfold evalArgs
  have go : wN M A (spliced (backTo pos (starEach es env)) >>= fun vs => holding (vs ++ ([] : List Value)) (evalAll [] >>= fun ks => pure (⟨vs, ([] : List Str).zip ks⟩ : Args))) Q E s :=
    nBind (nMono h (fun vs s' q => nHolding (nBind (nPure (nPure q)))) fun _ _ x => x)
  cases es with
  | nil => exact go
  | cons e r =>
    have : notStar e = true := (List.all_cons ▸ hs |> Bool.and_eq_true_iff.mp).1
    rw [starEach_cons this] at go ⊢
    exact go
theorem no_star {es : List Expr} {env : Env} {pos : Pos} (hs : es.all notStar = true) : (backTo pos (starEach es env)).any (·.1) = false := by
  induction es with
  | nil => rfl
  | cons e r ih =>
    obtain ⟨h1, h2⟩ := Bool.and_eq_true_iff.mp (List.all_cons ▸ hs)
    rw [starEach_cons h1]
    show (false || (backTo pos (starEach r env)).any (·.1)) = false
    rw [ih h2]; rfl
theorem nCallWith {A : Around} {E : Value → Shared → Prop} {s : Shared} {f : Value} {first : List Value} {es : List Expr} {env : Env} {pos p : Pos} {Q : Value → Shared → Prop} (hs : es.all notStar = true)
    (h : wN (Md G) A (spliced (backTo p (starEach es env))) (fun vs s' => KeepOk (Md G) s'.heap f ∧ wN (Md G) A (call f (first ++ vs)) Q E s') E s) : wN (Md G) A (callWith pos f first (backTo p (starEach es env)) []) Q E s := by
  unfold callWith
  refine nBind (nHolding (nSpliceArgs hs (nMono h (fun vs s₁ h₁ => nBind (nStand ?_)) fun _ _ x => x)))
  obtain ⟨⟨k, hk, L⟩, h₁⟩ := h₁
  simp only [no_star hs, List.any_nil, Bool.or_false]
  refine leaf (L _ _ _ _ (fun _ _ e => e) ?_)
  have tail : ∀ {t : Sem Value}, wN (Md G) A t Q E s₁ → wN (Md G) A (t >>= fun r => holding [r] point >>= fun _ => pure r) Q E s₁ :=
    fun ht => nBind (nMono ht (fun r s₂ hr => nBind (nHolding (nPoint (nPure hr)))) fun _ _ x => x)
  have marked (mk : Value) : wN (Md G) A (callMarked mk f (first ++ vs) []) Q E s₁ := by unfold callMarked; exact nKeep h₁
  rcases hk with rfl | rfl | rfl <;> dsimp only <;> first | exact tail h₁ | (split <;> first | exact tail h₁ | exact tail (marked _))
theorem eval_call {ef : Expr} {es : List Expr} {p : Pos} {env : Env} (h : notAttr ef = true) : eval (.Call ef es [] p) env = (eval ef env >>= fun f => callWith p f [] (backTo p (starEach es env)) []) := by
  cases ef <;> first | rfl | cases h
/-- methods of the built-in kinds -/
theorem se_bmeth {o : IE} {name : Str} {is : List IE} {eo : Expr} {es : List Expr} {ap p : Pos} (hp : (ap.endLine == p.line) = true) (hb : plainBase eo = true) (hs : es.all notStar = true) (hz : es.length ≤ 5) (ho : SE G C n sc o eo) (h : SEs G C n sc is es) :
    SE G C n sc (.bmeth o name is) (.Call (.Attribute eo name ap) es [] p) := fun {env l L cl σ Q X A s} T R H w => by
  show wN _ _ (do
    let ov ← attributeBase eo name env (eval eo env)
    standAt ap.atName
    methodCall eo name ap p env ov (es.length + 0) (backTo p (starEach es env)) []) _ _ _
  rw [base_plain hb]
  refine nBind (nMono (ho T R H w) (fun v s₁ h₁ => ?_) fun _ _ x => x)
  obtain ⟨τ, R₁, id, hid, w₁⟩ := h₁
  refine nBind (nStand ?_)
  unfold methodCall
  have hf : methodCallForm (es.length + 0) (backTo p (starEach es env)) [] = true := by
    unfold methodCallForm
    have h1 : (backTo p (starEach es env)).all (fun x => !x.1) = true := by
      have := no_star (pos := p) (env := env) hs
      rw [List.all_eq_true]; rw [List.any_eq_false] at this
      exact fun x hx => by simpa using this x hx
    simp only [h1, List.all_nil, List.isEmpty_nil, if_true, Bool.true_and, Nat.add_zero, decide_eq_true_eq]
    lia
  rw [hf]
  refine nBind (nHolding (.of ?_))
  unfold calleeOf
  refine getN R₁ hid ?_
  refine nBind ?_
  unfold methodCallPos
  rw [hp]
  refine nPure (nCallWith hs (nMono (h p T R₁ H w₁) (fun vs s₂ h₂ => ?_) fun _ _ x => x))
  obtain ⟨_, ρ, R₂, w₂⟩ := h₂
  exact ⟨⟨.machine, .inr (.inl rfl), .now⟩, methN R₂ H.guards w₂⟩
end
end Mine
end
section
open PySem PySem.W PySem.Calls PyProof.Rows
set_option genSizeOf false
set_option genInjectivity false
namespace Mine
open Sem (wp)
noncomputable def flowV : Flow → Option Fl | .next => some .next | .ret v => some (.ret (av v)) | _ => none
noncomputable def FS (G : Glob) (l : List Env) (Q : Ft) : Flow → Shared → Prop := fun f s' => ∃ τ fl, flowV f = some fl ∧ Rel G l τ s' ∧ Q fl τ
/-- statements -/
noncomputable def SS (G : Glob) (C : Ct) (n : Nat) (sc : List (Str × NameKind)) (is : List IS) (ss : List Stmt) : Prop :=
  ∀ {env : Env} {l : List Env} {L : Addr} {cl : Option Addr} {σ : St} {Q : Ft} {X : Xt} {A : Around} {s : Shared}, At env L cl sc → env.frame = some L → Rel G (env :: l) σ s → AOk n (env :: l) A → WS C cl is L σ Q X →
    wN (Md G) A (execs ss env) (FS G (env :: l) Q) (EX G (env :: l) (PL L) X) s
theorem nsrel_mk : ∀ l : List (N × Value), NsRel (fun x => (l.map fun p => (p.1.str, p.2)).lookup x) (mk (l.map fun p => (p.1, av p.2)))
  | [] => ⟨fun k v e => (by cases e), fun y x e => (by cases e)⟩
  | (k, v) :: r => by
    have h := (nsrel_mk r).upd k v
    have e : (fun y => if y = k.str then some v else (r.map fun p => (p.1.str, p.2)).lookup y) = fun x => (((k, v) :: r).map fun p => (p.1.str, p.2)).lookup x := by
      funext y
      show _ = List.lookup y ((k.str, v) :: _)
      rw [List.lookup_cons]
      by_cases hy : y = k.str
      · subst hy; simp
      · have : (y == k.str) = false := beq_eq_false_iff_ne.mpr hy
        simp [hy, this]
    rw [e] at h
    exact h
section
variable {G : Glob} {C : Ct} {n : Nat} {sc : List (Str × NameKind)} {l : List Env} {σ τ : St} {s : Shared}
theorem Rel.tail {env : Env} (R : Rel G (env :: l) σ s) : Rel G l σ s :=
  ⟨R.base, R.objs, fun e he => R.fr e (List.mem_cons_of_mem _ he), R.gens, R.os⟩
theorem Rel.enter {env : Env} {h₀ : Heap} {L : Addr} {t : Nat} {mm : Str → Option Value} {m : N → Option V} (R : Rel G l σ s) (hk : env.scope.kind = .function) (hf : env.frame = some L) (hL : s.heap.get? L = none) (hns : h₀.Ns L mm) (hm : NsRel mm m)
    (keep : ∀ b o, s.heap.get? b = some o → h₀.get? b = some o) : Rel G (env :: l) (σ.set L (.ns true m)) { s with heap := h₀, toks := t } := by
  obtain ⟨o, es, ep, h1, h2, h3, h4⟩ := hns
  have R' : Rel G l (σ.set L (.ns true m)) { s with heap := h₀, toks := t } := R.new (t := t) keep hL h1 ⟨es, ep, mm, h2, h3, h4, hm, fun e => by cases e⟩
  refine ⟨R'.base, R'.objs, fun e he => ?_, R'.gens, R'.os⟩
  rcases List.mem_cons.mp he with rfl | he
  · refine ⟨L, o, es, ep, hk, hf, ?_, h1, h2, fun o' e => by rw [St.set_same] at e; cases e; exact ⟨m, rfl⟩⟩
    cases q : G.base.get? L with
    | none => rfl
    | some x => have := R.base _ _ q; rw [hL] at this; cases this
  · exact R'.fr e he
theorem no_obj (s : Shared) : s.heap.get? s.heap.objs.size = none := by
  cases q : s.heap.get? s.heap.objs.size with
  | none => rfl
  | some x => exact absurd (Heap.lt_size q) (Nat.lt_irrefl _)
theorem AOk.deeper {A : Around} {env : Env} (H : AOk (n + 1) l A) : AOk n (env :: l) (A.deeper env) := by
  refine ⟨H.handled, by show A.frames.map _ = _; rw [H.frames]; rfl, H.guards, ?_, ?_⟩
  · show A.depth + 1 + 3 * n + 10 ≤ 990; have := H.depth; lia
  · show A.units + 3 + 20 * n + 300 ≤ 9900; have := H.units; lia
theorem AOk.in1 {A : Around} (H : AOk (n + 1) l A) : AOk n l A.in1 := by
  refine ⟨H.handled, H.frames, H.guards, ?_, ?_⟩
  · show A.depth + 3 * n + 10 ≤ 990; have := H.depth; lia
  · show A.units + 1 + 20 * n + 300 ≤ 9900; have := H.units; lia
/-- a function of the fragment -/
inductive FnD (G : Glob) (f : F) (body : List Stmt) (sc : List (Str × NameKind)) : Prop where
  | mk (o : Obj) (fd : FuncData) (df : List Value) : G.K.lookup f.addr = some o → o.data = .func fd → fd.body = .stmts body → fd.scope.names = sc → fd.scope.kind = .function → fd.scope.isCoroutine = false → fd.scope.isGenerator = false → fd.globals = mainGlobals → fd.builtins = builtinsNs →
    (∀ h : Heap, G.K.In h → h.CodeRec fd.code fd.qualname) → df.map av = dflt f → (∀ (vs : List Value) (s : Shared), G.K.In s.heap → (params f).length ≤ vs.length + df.length → vs.length ≤ (params f).length →
      BindsTo s fd ⟨vs, []⟩ (((params f).map N.str).zip (vs ++ df.drop (vs.length + df.length - (params f).length)))) → FnD G f body sc
structure FnF (G : Glob) (f : F) (body : List Stmt) (sc : List (Str × NameKind)) : Prop where
  fd : FnD G f body sc
  nocell : ∀ x ∈ sc, x.2 ≠ .cell
  noask : (sc.lookup N.nAsked.str).isSome = false
  locals : ∀ x ∈ params f, sc.lookup x.str = some .local
theorem zip_map_av (ps : List N) (vs : List Value) : (ps.map N.str).zip vs = (ps.zip vs).map fun p => (p.1.str, p.2) := by
  induction ps generalizing vs with
  | nil => rfl
  | cons p r ih => cases vs with
    | nil => rfl
    | cons v vs => simp [ih]
theorem zip_av (ps : List N) (us : List Value) : ps.zip (us.map av) = (ps.zip us).map fun p => (p.1, av p.2) := by
  induction ps generalizing us with
  | nil => rfl
  | cons p r ih => cases us with
    | nil => rfl
    | cons u us => simp [ih]
theorem cFunc {A : Around} {body : List Stmt} {env : Env} {R : Result → Shared → Prop}
    (h : wN (Md G) (A.deeper env) (execs body env) (fun f s' => R (.ok (.ret (match f with | .ret v => v | _ => .none))) s')
      (fun e s' => wN (Md G) (A.deeper env) (leaving env e) (fun _ s'' => R (.error e) s'') (fun e' s'' => R (.error e') s'') s') s) : cN (Md G) A (.func body env) R s := by
  refine cTree ok_func ?_
  show wN _ (A.deeper env) (do point; match ← (execs body env).onRaise (leaving env) with | .ret v => ret v | _ => ret .none) _ _ s
  refine nBind (nPoint (nBind (nOnRaise (nMono h (fun f s' h' => ?_) fun _ _ h' => h'))))
  cases f <;> exact nPure h'
/-- a call of a function of the program; the walk of its body is at hand -/
theorem call_gen {f : F} {body : List Stmt} {sc : List (Str × NameKind)} {A : Around} {vs : List Value} {Q : Kt} {X : Xt} (O : G.Ok) (FF : FnF G f body sc)
    (R : Rel G l σ s) (H : AOk (n + 1) l A) (h1 : (params f).length ≤ vs.length + (dflt f).length) (h2 : vs.length ≤ (params f).length)
    (w : ∀ (env : Env) L s', σ L = none → At env L none sc → env.frame = some L → Rel G (env :: l) (σ.set L (.ns true (mk (bindF f (vs.map av)).reverse))) s' → AOk n (env :: l) (A.deeper env) →
      wN (Md G) (A.deeper env) (execs body env) (FS G (env :: l) (fun fl τ => ∃ ρ, ρ.le (τ.del L) ∧ Q (retV fl) ρ)) (EX G (env :: l) (PL L) (fun e τ => ∃ ρ, ρ.le (τ.del L) ∧ X e ρ)) s') :
    cN (Md G) A (.call (.ref f.addr) ⟨vs, []⟩) (Ret (QS G l Q) (EC G l X)) s := by
  obtain ⟨o, fd, df, k1, k2, k3, k4, k5, k6, k7, k8, k9, k10, k11, k12⟩ := FF.fd
  have hdl : df.length = (dflt f).length := by rw [← k11]; simp
  have X0 := R.kin O
  have hcd := k10 s.heap X0
  obtain ⟨c, oc, ws, tq, hc, hoc, hdc, hq⟩ := hcd
  refine cTree ok_call ?_
  show wN _ A.in1 (callAny (.ref f.addr) ⟨vs, []⟩) _ _ s
  simp only [callAny]
  refine leaf (wpAny_load (X0 _ _ k1) ?_)
  simp only [k2, callFunction, k6, k7, k3, hc]
  refine nBind (m := field (.ref c) 1) (.of (wpAny_field hoc hdc hq ?_))
  refine nBind (nPure (leaf (k12 vs s X0 (by rw [hdl]; exact h1) h2 _ _ _ _ ?_)))
  rw [zip_map_av]
  refine leaf (wpAny_newFunctionEnv (by rw [k4]; exact FF.nocell) (fun x hx => ?_) (fun h₀ hns hsb => ?_) k5)
  · obtain ⟨p, hp, rfl⟩ := List.mem_map.mp hx
    rw [k4]
    exact FF.locals p.1 (List.of_mem_zip hp).1
  have keep : ∀ b o, s.heap.get? b = some o → h₀.get? b = some o := fun b o e => hsb.extBut b o (Nat.ne_of_lt (Heap.lt_size e)) (Heap.get?_push_of_some _ e)
  generalize henv : newEnv fd.scope s.heap.objs.size fd.globals fd.closure (fd.qualname ++ ".<locals>.") (some f.addr) (.ref c) none fd.builtins = env
  have e1 : env.scope = fd.scope := by subst henv; rfl
  have e2 : env.frame = some s.heap.objs.size := by subst henv; rfl
  have e3 : env.locals = s.heap.objs.size := by subst henv; rfl
  have e4 : env.globals = fd.globals := by subst henv; rfl
  have e5 : env.builtins = fd.builtins := by subst henv; rfl
  have T : At env s.heap.objs.size none sc := ⟨by rw [e1, k5], e3, by rw [e4, k8], by rw [e5, k9], fun c e => (by cases e), by rw [e1, k4], fun q => (by rw [FF.noask] at q; cases q)⟩
  have hbind : bindF f (vs.map av) = ((params f).zip (vs ++ df.drop (vs.length + df.length - (params f).length))).map fun p => (p.1, av p.2) := by
    unfold bindF
    rw [← k11, List.length_map, List.length_map, ← List.map_drop, ← List.map_append]
    exact zip_av _ _
  have hm : NsRel (fun x => (((params f).zip (vs ++ df.drop (vs.length + df.length - (params f).length))).map fun p => (p.1.str, p.2)).reverse.lookup x) (mk (bindF f (vs.map av)).reverse) := by
    rw [hbind, ← List.map_reverse, ← List.map_reverse]
    exact nsrel_mk _
  have RE : ∀ t, Rel G (env :: l) (σ.set s.heap.objs.size (.ns true (mk (bindF f (vs.map av)).reverse))) { s with heap := h₀, toks := t } := fun t => R.enter (by rw [e1, k5]) e2 (no_obj s) hns hm keep
  have hlim := (RE 0).nolimit O
  refine leaf (wpAny_enterFrame hlim (by show A.depth < recursionLimit; have := H.depth; unfold recursionLimit; lia) (nPure ⟨rfl, cFunc ?_⟩))
  refine nMono (w env _ _ R.fresh T e2 (RE _) H.deeper) (fun fl s' z => ?_) fun e s' z => ?_
  · obtain ⟨τ, fl', hfl, R', ρ, hle, q⟩ := z
    have R'' : Rel G l ρ s' := R'.tail.le (St.le_trans hle (St.del_le _ _))
    cases fl with
    | next => cases hfl; exact ⟨ρ, R'', q⟩
    | ret v => cases hfl; exact ⟨ρ, R'', q⟩
    | _ => cases hfl
  · obtain ⟨a, τ, rfl, R', Fl, ρ, hle, q⟩ := z
    have hle' := St.le_trans hle (St.del_le _ _)
    refine .of (leaves rfl (H.deeper (env := env)).frames R' e2 Fl fun h' R'' F'' => ?_)
    exact ⟨a, ρ, rfl, R''.tail.le hle', (F''.le hle').mono PO_PC, q⟩
theorem call_fn {f : F} {body : List Stmt} {sc : List (Str × NameKind)} {A : Around} {vs : List Value} {Q : Kt} {X : Xt} (O : G.Ok) (FF : FnF G f body sc) (hb : SS G (WC n) n sc (Mine.body f) body)
    (R : Rel G l σ s) (H : AOk (n + 1) l A) (h1 : (params f).length ≤ vs.length + (dflt f).length) (h2 : vs.length ≤ (params f).length)
    (w : ∀ L, σ L = none → WS (WC n) none (Mine.body f) L (σ.set L (.ns true (mk (bindF f (vs.map av)).reverse))) (fun fl τ => ∃ ρ, ρ.le (τ.del L) ∧ Q (retV fl) ρ) (fun e τ => ∃ ρ, ρ.le (τ.del L) ∧ X e ρ)) :
    cN (Md G) A (.call (.ref f.addr) ⟨vs, []⟩) (Ret (QS G l Q) (EC G l X)) s :=
  call_gen O FF R H h1 h2 fun env L s' hL T hf R' H' => hb T hf R' H' (w L hL)
end
end Mine
end
section
open PySem PySem.W PySem.Calls PyProof.Rows
namespace Mine
open Sem (wp)
/-- what the calls of one level give -/
structure Host (G : Glob) (C : Ct) (n : Nat) : Prop where
  ok : G.Ok
  kf : KFact G.K
  fn : ∀ f ∈ allF, ∀ {l : List Env} {σ : St} {s : Shared} {A : Around} {vs : List Value} {Q : Kt} {X : Xt}, Rel G l σ s → AOk n l A → C f (vs.map av) σ Q X → cN (Md G) A (.call (.ref f.addr) ⟨vs, []⟩) (Ret (QS G l Q) (EC G l X)) s
  ctor : ∀ a, (a = clsWire ∨ a = clsAtom ∨ a = clsFault) → ∀ {l : List Env} {σ : St} {s : Shared} {A : Around} {vs : List Value} {Q : Kt} {X : Xt}, Rel G l σ s → AOk n l A → callV C (.ref a) (vs.map av) σ Q X →
    wN (Md G) A (call (.ref a) vs) (QS G l Q) (EC G l X) s
  lam : ∀ {a : Addr} {k : Nat} {c cc : Addr} {l : List Env} {σ : St} {s : Shared} {A : Around} {Q : Kt} {X : Xt}, σ a = some (.lam k c cc) → (∃ j, σ cc = some (.code j)) → Rel G l σ s → AOk n l A → C (if k = 0 then .lam0 else .lam1) [.ref c] σ Q X →
    cN (Md G) A (.call (.ref a) ⟨[], []⟩) (Ret (QS G l Q) (EC G l X)) s
  lamK : ∀ k c cc ob, G.lamP k c cc ob → ∃ fd, ob.data = .func fd
theorem funOf_mem {a : Addr} {f : F} (h : funOf a = some f) : f ∈ allF ∧ f.addr = a := by
  unfold funOf at h
  exact ⟨List.mem_of_find?_eq_some h, by simpa using List.find?_some h⟩
section
variable {G : Glob} {C : Ct} {n : Nat} {sc : List (Str × NameKind)} {l : List Env} {σ : St} {s : Shared}
theorem cMeth {A : Around} {p : Addr} {f self : Value} {pos : List Value} {R : Result → Shared → Prop} (ho : s.heap.get? p = some (methodObj f self)) (h : cN (Md G) A (.call f ⟨self :: pos, []⟩) R s) : cN (Md G) A (.call (.ref p) ⟨pos, []⟩) R s := by
  refine cTree ok_call ?_
  show wN _ _ (callAny (.ref p) _) _ _ _
  simp only [callAny]
  refine leaf (wpAny_load ho ?_)
  cases f <;> exact nPure ⟨rfl, h⟩
theorem fn_keep {K : Frag} {f : Addr} (h : fnIn K f = true) : keepIn K (.ref f) = true := by
  unfold fnIn at h
  unfold keepIn
  split at h
  · rename_i q; simp only [q]
  · cases h
/-- a call of a value -/
theorem nCallV {A : Around} {v : Value} {vs : List Value} {Q : Kt} {X : Xt} (B : Host G C n) (R : Rel G l σ s) (H : AOk n l A) (h : callV C (av v) (vs.map av) σ Q X) :
    KeepOk (Md G) s.heap v ∧ wN (Md G) A (call v vs) (QS G l Q) (EC G l X) s := by
  have X0 := R.kin B.ok
  have h0 := h
  unfold callV at h
  split at h
  · rename_i a hv
    obtain rfl := av_ref hv
    split at h
    · rename_i f hf
      obtain ⟨hm, rfl⟩ := funOf_mem hf
      exact ⟨keeps_K (fn_keep (B.kf.fn f hm)) _ X0, nCall (B.fn f hm R H h)⟩
    · rename_i hf
      split at h
      · rename_i ha; subst ha
        exact ⟨keeps_K B.kf.kw _ X0, B.ctor _ (.inl rfl) R H h0⟩
      · split at h
        · rename_i ha; subst ha
          exact ⟨keeps_K B.kf.ka _ X0, B.ctor _ (.inr (.inl rfl)) R H h0⟩
        · split at h
          · rename_i ha; subst ha
            exact ⟨keeps_K B.kf.kf _ X0, B.ctor _ (.inr (.inr rfl)) R H h0⟩
          · split at h
            · rename_i f w hm
              obtain ⟨g, hg, h⟩ := h
              obtain ⟨hgm, rfl⟩ := funOf_mem hg
              obtain ⟨_, ob, h1, rfl⟩ := R.objs _ _ hm
              refine ⟨keeps_M (B.kf.fn g hgm) _ ⟨h1, X0⟩, nCall (cMeth h1 (B.fn g hgm (vs := .ref w :: vs) R H h))⟩
            · rename_i k c cc hm
              obtain ⟨he, hj, h⟩ := h
              obtain rfl := List.map_eq_nil_iff.mp he
              obtain ⟨_, ob, h1, h2⟩ := R.objs _ _ hm
              obtain ⟨fd, hd⟩ := B.lamK _ _ _ _ h2
              refine ⟨⟨.frame, .inl rfl, (Looks.ld (part := none) h1).andThen ?_⟩, nCall (B.lam hm hj R H h)⟩
              rw [hd]; exact .now
            · exact h.elim
  · rename_i b hv
    obtain rfl := av_builtin hv
    exact ⟨⟨.machine, .inr (.inl rfl), .now⟩, .of (blt_ok (n := n) B.ok B.kf R H.handled h)⟩
  · rename_i b hv
    obtain rfl := av_type hv
    exact ⟨⟨.machine, .inr (.inl rfl), .now⟩, typN B.ok R H.handled H.guards h⟩
  · exact h.elim
theorem se_call {f : IE} {is : List IE} {ef : Expr} {es : List Expr} {p : Pos} (B : Host G C n) (hn : notAttr ef = true) (hs : es.all notStar = true) (hf : SE G C n sc f ef) (h : SEs G C n sc is es) : SE G C n sc (.call f is) (.Call ef es [] p) := fun {env l L cl σ Q X A s} T R H w => by
  rw [eval_call hn]
  refine nBind (nMono (hf T R H w) (fun v s₁ h₁ => ?_) fun _ _ x => x)
  obtain ⟨τ, R₁, w₁⟩ := h₁
  refine nCallWith hs (nMono (h p T R₁ H w₁) (fun vs s₂ h₂ => ?_) fun _ _ x => x)
  obtain ⟨_, ρ, R₂, w₂⟩ := h₂
  exact nCallV B R₂ H w₂
theorem meth_all : (methF.all fun f => allF.any fun g => g.addr == f.addr) = true := by decide +kernel
theorem se_meth {o : IE} {f : F} {is : List IE} {eo : Expr} {name : Str} {es : List Expr} {ap p : Pos} (B : Host G C n) (hf : f ∈ methF) (hfa : f ∈ allF) (hy : name = mname f) (hp : (ap.endLine == p.line) = true) (hb : plainBase eo = true) (hs : es.all notStar = true) (hz : es.length ≤ 5)
    (ho : SE G C n sc o eo) (h : SEs G C n sc is es) : SE G C n sc (.meth o f is) (.Call (.Attribute eo name ap) es [] p) := fun {env l L cl σ Q X A s} T R H w => by
  subst hy
  show wN _ _ (do
    let ov ← attributeBase eo (mname f) env (eval eo env)
    standAt ap.atName
    methodCall eo (mname f) ap p env ov (es.length + 0) (backTo p (starEach es env)) []) _ _ _
  rw [base_plain hb]
  refine nBind (nMono (ho T R H w) (fun v s₁ h₁ => ?_) fun _ _ x => x)
  obtain ⟨τ, R₁, w', d, m, hv, h1, h2, h3, w₁⟩ := h₁
  obtain rfl := av_ref hv
  refine nBind (nStand ?_)
  unfold methodCall
  have hform : methodCallForm (es.length + 0) (backTo p (starEach es env)) [] = true := by
    unfold methodCallForm
    have h1 : (backTo p (starEach es env)).all (fun x => !x.1) = true := by
      have := no_star (pos := p) (env := env) hs
      rw [List.all_eq_true]; rw [List.any_eq_false] at this
      exact fun x hx => by simpa using this x hx
    simp only [h1, List.all_nil, List.isEmpty_nil, if_true, Bool.true_and, Nat.add_zero, decide_eq_true_eq]
    lia
  rw [hform]
  obtain ⟨od, I, hl⟩ := inst_dict R₁ h1 h2 h3 hf
  obtain ⟨m1, m2, m3, m4⟩ := B.kf.meth f hf
  have X0 := R₁.kin B.ok
  have CF : ClsF G.K (mcls f) := by
    unfold mcls; split
    · exact B.kf.atom
    · exact B.kf.wire
  refine nBind (nHolding (.of ?_))
  unfold calleeOf
  refine method_fn X0 I CF.ga CF.gk m1 m2 (by show (lookIn (mname f) od).map (·.isSome) = some false; rw [hl]; rfl) ?_
  refine nBind ?_
  unfold methodCallPos
  rw [hp]
  refine nPure (nCallWith hs (nMono (h p T R₁ H w₁) (fun vs s₂ h₂ => ?_) fun _ _ x => x))
  obtain ⟨_, ρ, R₂, w₂⟩ := h₂
  exact ⟨keeps_K (fn_keep (B.kf.fn f hfa)) _ (R₂.kin B.ok), nCall (B.fn f hfa (vs := .ref w' :: vs) R₂ H w₂)⟩
end
end Mine
end
section
open PySem PySem.W PySem.Calls PyProof.Rows
namespace Mine
open Sem (wp)
section
variable {G : Glob} {C : Ct} {n : Nat} {sc : List (Str × NameKind)} {l : List Env} {σ τ : St} {s : Shared} {A : Around} {E : Value → Shared → Prop}
/-- what is gone over -/
inductive SeqI (σ : St) : V → V → List V → Prop where
  | bytes (b : List UInt8) : b.length ≤ 1000000 → SeqI σ (.bytes b) (.bytes b) (bInt b)
  | list (a : Addr) (xs : List V) : σ a = some (.list xs) → xs.length ≤ 1000000 → SeqI σ (.ref a) (.ref a) xs
  | rng (a : Addr) (m : Nat) : σ a = some (.rng m) → m ≤ 1000000 → SeqI σ (.ref a) (.int m) ((List.range m).map fun (i : Nat) => V.int i)
theorem iteS {α : Type} {c : Prop} [Decidable c] {a b : α} {P : α → Prop} (h : (if c then some a else none) = some b) (k : c → P a) : P b := by
  by_cases hc : c
  · rw [if_pos hc] at h; cases h; exact k hc
  · rw [if_neg hc] at h; cases h
theorem seqI {v sv : V} {items : List V} (h : seqOf σ v = some (sv, items)) : SeqI σ v sv items := by
  cases v with
  | bytes b => exact iteS (P := fun r => SeqI σ (.bytes b) r.1 r.2) h fun hc => .bytes b hc
  | ref a =>
    unfold seqOf at h
    dsimp only at h
    cases hx : σ a with
    | none => rw [hx] at h; cases h
    | some o =>
      rw [hx] at h
      cases o with
      | list xs => exact iteS (P := fun r => SeqI σ (.ref a) r.1 r.2) h fun hc => .list a xs hx hc
      | rng m => exact iteS (P := fun r => SeqI σ (.ref a) r.1 r.2) h fun hc => .rng a m hx hc
      | _ => cases h
  | _ => cases h
theorem iter_ok {v : Value} {sv : V} {items : List V} (R : Rel G l σ s) (h : seqOf σ (av v) = some (sv, items)) :
    wpAny (Md G) A (pyIter v) (fun it s' => it = .ref s.heap.objs.size ∧ Rel G l (σ.set s.heap.objs.size (.iter sv 0)) s') E s := by
  have h := seqI h
  generalize hv : av v = v' at h
  cases h with
  | bytes b hb =>
    obtain ⟨t, rfl⟩ := av_bytes hv
    exact KBw.pyIter_bytes ⟨rfl, R.push (t := s.toks) ⟨rfl, t, rfl⟩ rfl⟩
  | list a xs hx =>
    obtain rfl := av_ref hv
    obtain ⟨vs, k, k1, k2⟩ := list_at R hx
    exact wpAny_pyIter_list (items := vs) ⟨_, k1, rfl, _, rfl⟩ ⟨rfl, R.push (t := s.toks) ⟨rfl, rfl⟩ rfl⟩
  | rng a m hx hm =>
    obtain rfl := av_ref hv
    obtain ⟨_, ob, h1, t, u, v, rfl⟩ := R.objs _ _ hx
    refine wpAny_pyIter_range h1 (small_one (by lia) (by lia) (by lia) (by lia)) ⟨rfl, R.push (t := s.toks) ?_ rfl⟩
    have : Builtin.Range.rangeSize 0 (m : Int) 1 = (m : Int) - ((0 : Nat) : Int) := by
      rw [rangeSize_one]; split <;> lia
    show _ = _
    rw [this]; rfl
/-- what seqOf gives -/
noncomputable def SeqRel (sv : V) (items : List V) : Prop := (∃ b, sv = .bytes b ∧ items = bInt b) ∨ (∃ l, sv = .ref l) ∨ ∃ m : Nat, sv = .int m ∧ items = (List.range m).map fun (i : Nat) => V.int i
theorem seqRel {v sv : V} {items : List V} (h : seqOf σ v = some (sv, items)) : SeqRel sv items ∧ ∀ l, sv = .ref l → σ l = some (.list items) := by
  cases seqI h with
  | bytes b _ => exact ⟨.inl ⟨_, rfl, rfl⟩, fun l e => by cases e⟩
  | list a xs hx _ => exact ⟨.inr (.inl ⟨_, rfl⟩), fun l e => by cases e; exact hx⟩
  | rng a m _ _ => exact ⟨.inr (.inr ⟨_, rfl, rfl⟩), fun l e => by cases e⟩
theorem next_ok {it : Addr} {sv v : V} {items : List V} {i : Nat} (R : Rel G l τ s) (hs : SeqRel sv items) (hl : ∀ a, sv = .ref a → τ a = some (.list items)) (hi : τ it = some (.iter sv i)) (hv : items[i]? = some v) :
    wpAny (Md G) A (pyNext (.ref it)) (fun r s' => ∃ y, r = some y ∧ av y = v ∧ Rel G l (τ.set it (.iter sv (i + 1))) s') E s := by
  obtain ⟨_, ob, h1, h2⟩ := R.objs _ _ hi
  rcases hs with ⟨b, rfl, rfl⟩ | ⟨a, rfl⟩ | ⟨m, rfl, rfl⟩
  · obtain ⟨h3, t, h4⟩ := h2
    unfold bInt at hv
    rw [List.getElem?_map] at hv
    obtain ⟨c, hc, rfl⟩ := Option.map_eq_some_iff.mp hv
    refine KBw.next_item (b := b.toArray) (t := t) (i := i) ⟨ob, h1, h3, h4⟩ (c := c) (by simpa using hc) fun h' hit hsb => ⟨_, rfl, rfl, ?_⟩
    obtain ⟨o', k1, k2, k3⟩ := hit
    exact R.put (t := s.toks + 1) hi (fun b o hb e => (hsb.2 b hb).trans e) k1 (o := .iter (.bytes b) (i + 1)) ⟨k2, t, k3⟩ (by intro m e; cases e)
  · obtain ⟨h3, h4⟩ := h2
    obtain ⟨vs, k, k1, k2⟩ := list_at R (hl a rfl)
    obtain ⟨x, e1, rfl⟩ := list_av k2 hv
    refine wpAny_pyNext_list_item (items := vs) (l := a) (i := i) ⟨ob, h1, h3, h4⟩ ⟨_, k1, rfl, _, rfl⟩ e1 fun h' hit hsb => ⟨_, rfl, rfl, ?_⟩
    obtain ⟨o', k1, k2, k3⟩ := hit
    exact R.put (t := s.toks) hi (fun b o hb e => (hsb.2 b hb).trans e) k1 (o := .iter (.ref a) (i + 1)) ⟨k2, k3⟩ (by intro m e; cases e)
  · subst h2
    rw [List.getElem?_map] at hv
    obtain ⟨c, hc, rfl⟩ := Option.map_eq_some_iff.mp hv
    have hlt : i < m := by
      have := (List.getElem?_eq_some_iff.mp hc).1; simpa using this
    obtain rfl : i = c := by
      have := (List.getElem?_eq_some_iff.mp hc).2; simpa using this
    refine wpAny_pyNext_range_item (x := i) (left := (m : Int) - i) (step := 1) h1 (by lia) fun h' hit hsb => ⟨_, rfl, rfl, ?_⟩
    refine R.put (t := s.toks + 1) hi (fun b o hb e => (hsb.2 b hb).trans e) hit (o := .iter (.int m) (i + 1)) ?_ (by intro m e; cases e)
    show _ = _
    have e1 : (i : Int) + 1 = ((i + 1 : Nat) : Int) := by lia
    have e2 : (m : Int) - i - 1 = (m : Int) - ((i + 1 : Nat) : Int) := by lia
    rw [e2, e1]
theorem next_end {it : Addr} {sv : V} {items : List V} (hA : A.handled = none) (R : Rel G l τ s) (hs : SeqRel sv items) (hl : ∀ a, sv = .ref a → τ a = some (.list items)) (hi : τ it = some (.iter sv items.length)) :
    wpAny (Md G) A (pyNext (.ref it)) (fun r s' => r = none ∧ Rel G l (τ.del it) s') E s := by
  obtain ⟨hb, ob, h1, h2⟩ := R.objs _ _ hi
  have fin : ∀ h', Heap.ExtBut it s.heap h' → Rel G l (τ.del it) { s with heap := h' } := fun h' he => by
    have R' := R.le (St.del_le τ it)
    refine ⟨fun b o e => he b o (fun q => by subst q; rw [hb] at e; cases e) (R.base b o e), fun b o e => ?_, fun env hv => ?_, R.gens, R.os⟩
    · obtain ⟨x, ob', k1, k2⟩ := R'.objs b o e
      exact ⟨x, ob', he b _ (fun q => by subst q; simp at e) k1, k2⟩
    · obtain ⟨f, o, es, ep, k, k1, k2, k3, k4, d⟩ := R'.fr env hv
      refine ⟨f, o, es, ep, k, k1, k2, he f _ (fun q => ?_) k3, k4, d⟩
      subst q
      obtain ⟨f', _, _, _, _, q1, _, _, _, q2⟩ := R.fr env hv
      rw [k1] at q1; cases q1
      obtain ⟨m, e⟩ := q2 _ hi
      cases e
  rcases hs with ⟨b, rfl, rfl⟩ | ⟨a, rfl⟩ | ⟨m, rfl, rfl⟩
  · obtain ⟨h3, t, h4⟩ := h2
    exact KBw.next_end hA (b := b.toArray) (t := t) ⟨ob, h1, h3, h4⟩ (by simp [bInt]) fun h' he => ⟨rfl, fin h' he⟩
  · obtain ⟨h3, h4⟩ := h2
    obtain ⟨vs, k, k1, k2⟩ := list_at R (hl a rfl)
    exact wpAny_pyNext_list_end hA (items := vs) ⟨ob, h1, h3, h4⟩ ⟨_, k1, rfl, _, rfl⟩ (by rw [← len_av k2]; simp) fun h' he => ⟨rfl, fin h' he⟩
  · subst h2
    exact wpAny_pyNext_range_end hA h1 (by simp) fun h' he => ⟨rfl, fin h' he⟩
end
end Mine
end
section
open PySem PySem.W PySem.Calls PyProof.Rows
namespace Mine
open Sem (wp)
section
variable {G : Glob} {C : Ct} {n : Nat} {sc : List (Str × NameKind)} {l : List Env} {σ τ : St} {s : Shared} {A : Around} {E : Value → Shared → Prop}
/-- a namespace let go -/
theorem Rel.nsdel {D : Addr} {m : N → Option V} {h' : Heap} {m' : Str → Option Value} (R : Rel G l τ s) (hD : τ D = some (.ns true m)) (hn : h'.Ns D m') (hs : Heap.SameBut D s.heap h') : Rel G l (τ.del D) { s with heap := h' } := by
  have hb := (R.objs _ _ hD).1
  have R' := R.le (St.del_le τ D)
  refine ⟨fun b o e => hs.extBut b o (fun q => by subst q; rw [hb] at e; cases e) (R.base b o e), fun b o e => ?_, fun env hv => ?_, R.gens, R.os⟩
  · obtain ⟨x, ob', k1, k2⟩ := R'.objs b o e
    exact ⟨x, ob', hs.extBut b _ (fun q => by subst q; simp at e) k1, k2⟩
  · obtain ⟨f, o, es, ep, k, k1, k2, k3, k4, d⟩ := R'.fr env hv
    by_cases q : f = D
    · subst q
      obtain ⟨o', es', ep', j1, j2, _⟩ := hn
      exact ⟨f, o', es', ep', k, k1, k2, j1, j2, d⟩
    · exact ⟨f, o, es, ep, k, k1, k2, hs.extBut f _ q k3, k4, d⟩
theorem store_ok {env : Env} {L : Addr} {cl : Option Addr} {x : N} {v : Value} {m : N → Option V} (T : At env L cl sc) (R : Rel G l τ s) (hL : τ L = some (.ns true m)) (hk : sc.lookup x.str = some .local) :
    wpAny (Md G) A (storeName env x.str v) (fun _ s' => Rel G l (setLoc τ L x (av v)) s') E s := by
  obtain ⟨mm, h1, h2⟩ := ns_at R hL
  refine wpAny_storeName_local (by rw [T.kindOf]; exact hk) (by rw [T.locals]; exact h1) (fun h' hn hs => ?_) (by rw [T.kind]; rfl)
  rw [T.locals] at hn hs
  obtain ⟨o, es, ep, k1, k2, k3, k4⟩ := hn
  have e : setLoc τ L x (av v) = τ.set L (.ns true (upd m x (av v))) := by unfold setLoc; rw [hL]
  rw [e]
  exact R.put (t := s.toks + 1) hL (fun b o hb e => (hs.2 b hb).trans e) k1 (o := .ns true (upd m x (av v))) ⟨es, ep, _, k2, k3, k4, h2.upd x v, fun e => by cases e⟩ (fun m _ => ⟨_, rfl⟩)
theorem iter_self {it : Addr} {sv : V} {items : List V} {i : Nat} (R : Rel G l τ s) (hs : SeqRel sv items) (hi : τ it = some (.iter sv i)) : wpAny (Md G) A (pyIter (.ref it)) (fun v s' => v = .ref it ∧ s' = s) E s := by
  obtain ⟨_, ob, h1, h2⟩ := R.objs _ _ hi
  rcases hs with ⟨b, rfl, rfl⟩ | ⟨a, rfl⟩ | ⟨m, rfl, rfl⟩
  · obtain ⟨h3, t, h4⟩ := h2
    exact KBw.pyIter_self (b := b.toArray) (t := t) ⟨ob, h1, h3, h4⟩ ⟨rfl, rfl⟩
  · obtain ⟨h3, h4⟩ := h2
    exact wpAny_pyIter_listiter ⟨ob, h1, h3, h4⟩ ⟨rfl, rfl⟩
  · subst h2
    exact wpAny_pyIter_rangeiter h1 ⟨rfl, rfl⟩
theorem ok_comp {e : Expr} {d : Nat} {i a : Value} {env : Env} : okC (.compLoop e d i a env) := fun _ _ _ _ => rfl
theorem ok_compStart {e : Expr} {d : Nat} {i a : Value} {env : Env} : okC (.compStart e d i a env) := fun _ _ _ _ => rfl
theorem nNoted {α : Type} {env : Env} {m : Sem α} {Q : α → Shared → Prop} (h : wN (Md G) A m Q (fun x s' => wpAny (Md G) A (noteFrame x env) (fun _ s'' => E x s'') E s') s) : wN (Md G) A (m.onRaise fun x => do noteFrame x env; theTreesLotGoes x) Q E s :=
  nOnRaise (nMono h (fun _ _ q => q) fun _ _ hx => .of (wpAny_bind (wpAny_mono hx (fun _ _ e => wpAny_theTreesLotGoes e) fun _ _ e => e)))
theorem nNotedAt {α : Type} {env : Env} {m : Sem α} {pos : Pos} {Q : α → Shared → Prop} (h : wN (Md G) A m Q (fun x s' => wpAny (Md G) A (noteFrame x env) (fun _ s'' => E x s'') E s') s) : wN (Md G) A (m.onRaise fun x => do noteFrame x env; standAt pos) Q E s :=
  nOnRaise (nMono h (fun _ _ q => q) fun _ _ hx => .of (wpAny_bind (wpAny_mono hx (fun _ _ e => wpAny_standAt e) fun _ _ e => e)))
/-- the loop of a comprehension -/
theorem cComp {elt iter : Expr} {ielt : IE} {x : N} {px : Pos} {scope : Scope} {pos : Pos} {env : Env} {it Ad D : Addr} {sv : V} {items : List V} {cl : Option Addr} {I : Nat → List V → St → Prop} {Q : Kt} {R : Result → Shared → Prop}
    (T : At env D cl sc) (hk : sc.lookup x.str = some .local) (helt : SE G C n sc ielt elt) (H : AOk n l A) (hs : SeqRel sv items) (d1 : it ≠ Ad) (d2 : it ≠ D) (d3 : Ad ≠ D) (hz : items.length ≤ 1000000)
    (step : ∀ i acc τ, I i acc τ → i ≤ items.length → (∀ l, sv = .ref l → τ l = some (.list items)) ∧ τ it = some (.iter sv i) ∧ τ Ad = some (.list acc) ∧ (∃ m, τ D = some (.ns true m)) ∧ acc.length = i ∧
        (∀ v, items[i]? = some v → WE C cl ielt D (setLoc (τ.set it (.iter sv (i + 1))) D x v) (fun r ρ => ρ Ad = some (.list acc) ∧ ∃ ρ', ρ'.le (ρ.set Ad (.list (acc ++ [r]))) ∧ I (i + 1) (acc ++ [r]) ρ') (fun _ _ => False)) ∧
        (i = items.length → Q (.ref Ad) ((τ.del it).del D)))
    (hR : ∀ s' τ m, Rel G l τ s' → τ D = some (.ns true m) → Q (.ref Ad) (τ.del D) → R (.ok .next) s') {acc₀ : List V} (hI : I 0 acc₀ τ) (R0 : Rel G l τ s) :
    cN (Md G) A (.compLoop (.ListComp elt [⟨.Name x.str px, iter, [], 0⟩] scope pos) 0 (.ref it) (.ref Ad) env) R s := by
  refine cLoop ok_comp rfl (fun k s' => ∃ i acc ρ, I i acc ρ ∧ Rel G l ρ s' ∧ i ≤ items.length ∧ k = items.length - i) (fun k s' ⟨i, acc, ρ, hI, R1, hi, hk'⟩ => ?_) items.length ⟨0, _, τ, hI, R0, Nat.zero_le _, by lia⟩
  obtain ⟨g1, g2, g3, ⟨m, g4⟩, g5, g6, g7⟩ := step i acc ρ hI hi
  show wN _ A ((compTurn (.ListComp elt [⟨.Name x.str px, iter, [], 0⟩] scope pos) 0 (.ref it) (.ref Ad) env).onRaise (fun x => do noteFrame x env; theTreesLotGoes x)) _ _ s'
  refine nNoted ?_
  rw [compTurn_list1]
  refine nBind (nStand ?_)
  rcases Nat.lt_or_eq_of_le hi with hlt | heq
  · obtain ⟨v, hv⟩ : ∃ v, items[i]? = some v := ⟨_, List.getElem?_eq_getElem hlt⟩
    refine leaf (wpAny_mono (next_ok R1 hs g1 g2 hv (E := fun _ _ => False)) (fun r s₁ h => ?_) fun _ _ x => x.elim)
    obtain ⟨y, rfl, rfl, R2⟩ := h
    have gD : (ρ.set it (.iter sv (i + 1))) D = some (.ns true m) := by rw [St.set_ne _ _ (Ne.symm d2)]; exact g4
    refine nBind (nEq (a := ()) rfl (leaf (wpAny_assign_Name (wpAny_mono (store_ok T R2 gD hk (E := fun _ _ => False)) (fun _ s₂ R3 => ?_) fun _ _ x => x.elim))))
    refine nBind (nBind (nMono (helt T R3 H (g6 _ hv)) (fun r s₃ h => ?_) fun e s₃ h => ?_))
    · obtain ⟨κ, R4, k1, ρ', k2, k3⟩ := h
      refine leaf (wpAny_mono (append_ok R4 k1 (by lia) (Q := fun _ κ' => κ' = κ.set Ad (.list (acc ++ [av r]))) rfl (E := fun _ _ => False)) (fun _ s₄ h => ?_) fun _ _ x => x.elim)
      obtain ⟨κ', R5, rfl⟩ := h
      exact nPure (nPure (.inl ⟨rfl, items.length - (i + 1), by lia, i + 1, _, ρ', k3, R5.le k2, hlt, rfl⟩))
    · obtain ⟨_, _, _, _, _, f⟩ := h; exact f.elim
  · subst heq
    refine leaf (wpAny_mono (next_end H.handled R1 hs g1 g2 (E := fun _ _ => False)) (fun r s₁ h => ?_) fun _ _ x => x.elim)
    obtain ⟨rfl, R2⟩ := h
    exact nPure (hR _ _ m R2 (by rw [St.del_ne _ (Ne.symm d2)]; exact g4) (g7 rfl))
end
end Mine
end
section
open PySem PySem.W PySem.Calls PyProof.Rows
namespace Mine
open Sem (wp)
section
variable {G : Glob} {C : Ct} {n : Nat} {sc : List (Str × NameKind)} {l : List Env} {σ τ : St} {s : Shared} {A : Around}
theorem seqLen {v sv : V} {items : List V} (h : seqOf σ v = some (sv, items)) : items.length ≤ 1000000 := by
  cases seqI h with
  | bytes b hb => rw [bInt, List.length_map]; exact hb
  | list a xs _ hb => exact hb
  | rng a m _ hb => rw [List.length_map, List.length_range]; exact hb
theorem se_comp {elt iter : Expr} {ielt src : IE} {x : N} {y : Str} {px : Pos} {scope : Scope} {pos : Pos} (hy : y = x.str) (hsc : compSc scope = true) (hk : scope.names.lookup x.str = some .local)
    (hset : ∀ env x, foldedSetIterable iter env x = pure x) (hsrc : SE G C n sc src iter) (helt : SE G C n scope.names ielt elt) : SE G C n sc (.comp ielt x src) (.ListComp elt [⟨.Name y px, iter, [], 0⟩] scope pos) := fun {env l L cl σ Q X A s} T R H w => by
  subst hy
  obtain ⟨hask, hsc⟩ := Bool.and_eq_true_iff.mp hsc
  obtain ⟨hkind, hall⟩ := Bool.and_eq_true_iff.mp hsc
  have hkind : scope.kind = .function := beq_iff_eq.mp hkind
  have hall : ∀ p ∈ scope.names, p.2 ≠ .free ∧ p.2 ≠ .cell ∧ (p.2 = .local → scope.names.lookup p.1 = some .local) := fun p hp => by
    have := List.all_eq_true.mp hall p hp
    simp only [Bool.and_eq_true, bne_iff_ne, ne_eq, Bool.or_eq_true, beq_iff_eq] at this
    exact ⟨this.1.1, this.1.2, fun e => this.2.resolve_left fun q => q e⟩
  rw [eval_ListComp]
  unfold comprehension
  rw [closureFor_none fun p hp => (hall p hp).1]
  show wN _ _ (eval iter env >>= _) _ _ _
  refine nBind (nMono (hsrc T R H w) (fun v s₁ h₁ => ?_) fun _ _ x => x)
  obtain ⟨τ, R₁, hcl, sv, items, hseq, w₁⟩ := h₁
  subst hcl
  obtain ⟨hrel, hlist⟩ := seqRel hseq
  refine nBind (nStand (nBind ?_))
  show wN _ _ (foldedSetIterable iter env v) _ _ _
  refine nEq (hset env v) (nBind (nHolding (.of (wpAny_mono (iter_ok R₁ hseq (E := fun _ _ => False)) (fun it s₂ h₂ => ?_) fun _ _ x => x.elim))))
  obtain ⟨rfl, R₂⟩ := h₂
  have n1 : τ s₁.heap.objs.size = none := R₁.fresh
  generalize hit : s₁.heap.objs.size = it at R₂ n1
  refine nBind (.of (wpAny_newObj_type ?_ (by show (0 : Nat) ≤ _; lia)))
  have hm : OM G { cls := .type "list", data := .seq #[] } (.list []) := ⟨_, _, rfl, rfl⟩
  have R₃ := R₂.push (t := s₂.toks) hm rfl
  have n2 : (τ.set it (.iter sv 0)) s₂.heap.objs.size = none := R₂.fresh
  generalize hA : s₂.heap.objs.size = Ad at R₃ n2
  generalize s₂.heap.push { cls := .type "list", data := .seq #[] } = H₃ at R₃ ⊢
  have d1 : it ≠ Ad := fun q => by rw [← q, St.set_same] at n2; cases n2
  have n2' : τ Ad = none := by rwa [St.set_ne _ _ (Ne.symm d1)] at n2
  refine nBind (nPure (leaf (wpAny_newFunctionEnv (s := { s₂ with heap := H₃ }) (fun p hp => (hall p hp).2.1) (fun p hp => by cases hp) (fun h₀ hns hsb => ?_) hkind)))
  have keep : ∀ b o, H₃.get? b = some o → h₀.get? b = some o := fun b o e => hsb.extBut b o (Nat.ne_of_lt (Heap.lt_size e)) (Heap.get?_push_of_some _ e)
  have n3 : ((τ.set it (.iter sv 0)).set Ad (.list [])) H₃.objs.size = none := R₃.fresh
  have nD : H₃.get? H₃.objs.size = none := no_obj { s₂ with heap := H₃ }
  generalize hD : H₃.objs.size = D at n3 hns nD
  have d3 : Ad ≠ D := fun q => by rw [← q, St.set_same] at n3; cases n3
  have n3' : (τ.set it (.iter sv 0)) D = none := by rwa [St.set_ne _ _ (Ne.symm d3)] at n3
  have d2 : it ≠ D := fun q => by rw [← q, St.set_same] at n3'; cases n3'
  have n3'' : τ D = none := by rwa [St.set_ne _ _ (Ne.symm d2)] at n3'
  generalize hce : newEnv scope D env.globals [] env.qual none .none (some env) builtinsNs = cenv
  have c1 : cenv.locals = D := by subst hce; rfl
  have c2 : cenv.globals = env.globals := by subst hce; rfl
  have c3 : cenv.builtins = env.builtins := by subst hce; rfl
  dsimp only
  rw [map_eq_self (l := scope.names) (fun p hp => by
    obtain ⟨n, k⟩ := p
    have : (k == NameKind.free) = false := by simpa using (hall _ hp).1
    simp [this])]
  obtain ⟨I, hI0, hstep⟩ := w₁ it Ad D n1 n2' n3'' d1 d2 d3
  have T' : At { cenv with scope := scope } D none scope.names := ⟨hkind, c1, by rw [← T.globals]; exact c2, by rw [← T.builtins]; exact c3, fun c e => (by cases e), rfl, fun q => (by rw [q] at hask; cases hask)⟩
  have hns' : h₀.Ns D (fun _ => none) := hns
  have R₄ : Rel G l (((τ.set it (.iter sv 0)).set Ad (.list [])).set D (.ns true fun _ => none)) { s₂ with heap := h₀ } := by
    obtain ⟨o, es, ep, k1, k2, k3, k4⟩ := hns'
    exact R₃.new (t := s₂.toks) keep nD k1 (o := .ns true fun _ => none) ⟨es, ep, _, k2, k3, k4, ⟨fun k v e => (by cases e), fun y z e => (by cases e)⟩, fun e => (by cases e)⟩
  have hv : ∀ p ∈ (scope.names.filter fun p => (p.2 == .local || p.2 == .cell) && p.1 != (".0" : Str)).reverse, p.2 = .local → Env.kindOf { cenv with scope := scope } p.1 = some .local := fun p hp hloc => (hall p (List.mem_filter.mp (List.mem_reverse.mp hp)).1).2.2 hloc
  refine nHolding (nBind (nAttempt (nHolding (nRun (h := none) ?_))))
  rw [Around.mark_none]
  have inner : cN (Md G) A (.compLoop (.ListComp elt [⟨.Name x.str px, iter, [], 0⟩] scope pos) 0 (.ref it) (.ref Ad) { cenv with scope := scope }) (fun r s' => match r with
      | .ok _ => ∃ τ m, Rel G l τ s' ∧ τ D = some (.ns true m) ∧ Q (.ref Ad) (τ.del D)
      | .error _ => False) { s₂ with heap := h₀ } :=
    cComp T' hk helt H hrel d1 d2 d3 (seqLen hseq) hstep (fun s' τ m h1 h2 h3 => ⟨τ, m, h1, h2, h3⟩) hI0 R₄
  have conv : cN (Md G) A (.compStart (.ListComp elt [⟨.Name x.str px, iter, [], 0⟩] scope pos) 0 (.ref it) (.ref Ad) { cenv with scope := scope }) (fun r s' => match r with
      | .ok _ => ∃ τ m, Rel G l τ s' ∧ τ D = some (.ns true m) ∧ Q (.ref Ad) (τ.del D)
      | .error _ => False) { s₂ with heap := h₀ } := by
    refine cTree ok_compStart ?_
    show wN _ _ ((compStart (.ListComp elt [⟨.Name x.str px, iter, [], 0⟩] scope pos) 0 (.ref it) (.ref Ad) { cenv with scope := scope }).onRaise (fun x => do noteFrame x { cenv with scope := scope }; standAt theWindowsPlace)) _ _ _
    refine nNotedAt ?_
    unfold compStart
    show wN _ _ (ask >>= _) _ _ _
    refine leaf (wpAny_askSetting ?_)
    split
    · exact nPure ⟨rfl, inner⟩
    · refine nBind (nRule (nBind (nStand (leaf (wpAny_mono (iter_self R₄ hrel (i := 0) (by rw [St.set_ne _ _ d2, St.set_ne _ _ d1, St.set_same]) (E := fun _ _ => False)) (fun v s' h => ?_) fun _ _ x => x.elim)))))
      obtain ⟨rfl, rfl⟩ := h
      exact nPure ⟨rfl, inner⟩
  refine cMono conv fun r s' hr => ?_
  cases r with
  | error e => exact hr.elim
  | ok f =>
    obtain ⟨τ', m, R₅, hD5, q⟩ := hr
    obtain ⟨mm, k1, k2⟩ := ns_at R₅ hD5
    refine leaf (wpAny_holding (wpAny_comp_letGo (cenv := { cenv with scope := scope }) hkind _ s' mm hv (by show s'.heap.Ns cenv.locals mm; rw [c1]; exact k1) fun h' m' hn' hs' => ?_))
    have hn2 : h'.Ns cenv.locals m' := hn'
    have hs2 : Heap.SameBut cenv.locals s'.heap h' := hs'
    rw [c1] at hn2 hs2
    exact nPure ⟨_, R₅.nsdel hD5 hn2 hs2, q⟩
end
end Mine
end
section
open PySem PySem.W PySem.Calls PyProof.Rows
namespace Mine
open Sem (wp)
/-- one statement -/
noncomputable def S1 (G : Glob) (C : Ct) (n : Nat) (sc : List (Str × NameKind)) (i : IS) (st : Stmt) : Prop :=
  ∀ {env : Env} {l : List Env} {L : Addr} {cl : Option Addr} {σ : St} {Q : Ft} {X : Xt} {A : Around} {s : Shared}, At env L cl sc → env.frame = some L → Rel G (env :: l) σ s → AOk n (env :: l) A → WS1 C cl i L σ Q X →
    wN (Md G) A (exec st env) (FS G (env :: l) Q) (EX G (env :: l) (PL L) X) s
theorem swaps_no {e : Expr} {t : Option Expr} {k : Nat} {env : Env} (h : notComp e = true) : swapsWith e t k env = pure false := by cases e <;> first | rfl | cases h
theorem inter_no {env : Env} (h : env.scope.kind = .function) : interactive env = false := by unfold interactive; rw [h]; rfl
section
variable {G : Glob} {C : Ct} {n : Nat} {sc : List (Str × NameKind)}
theorem EC_EX {l : List Env} {L : Addr} {X : Xt} (e : Value) (s : Shared) (h : EC G l X e s) : EX G l (PL L) X e s := h.mono PC_PL fun _ _ q => q
theorem ss_nil : SS G C n sc [] [] := fun T hf R H w => by
  exact nPure ⟨_, .next, rfl, R, w⟩
theorem ss_cons {i : IS} {is : List IS} {st : Stmt} {ss : List Stmt} (h1 : S1 G C n sc i st) (h2 : SS G C n sc is ss) : SS G C n sc (i :: is) (st :: ss) := fun {env l L cl σ Q X A s} T hf R H w => by
  rw [execs_cons]
  refine nBind (nMono (h1 T hf R H w) (fun f s₁ h => ?_) fun _ _ x => x)
  obtain ⟨τ, fl, e, R₁, q⟩ := h
  cases f with
  | next => cases e; exact h2 T hf R₁ H q
  | ret v => cases e; exact nPure ⟨τ, _, rfl, R₁, q⟩
  | _ => cases e
theorem s1_expr {a : IE} {ea : Expr} {p : Pos} (hc : notComp ea = true) (ha : SE G C n sc a ea) : S1 G C n sc (.expr a) (.Expr ea p) := fun {env l L cl σ Q X A s} T hf R H w => by
  rw [exec_Expr env ea p (inter_no T.kind) (swaps_no hc)]
  refine nBind (nStand (nBind (nMono (ha T R H w) (fun v s₁ h => ?_) EC_EX)))
  obtain ⟨τ, R₁, hv, q⟩ := h
  rw [dropValue_plain (fun a e => by subst e; cases hv)]
  exact nPure ⟨τ, .next, rfl, R₁, q⟩
theorem s1_asg {x : N} {y : Str} {a : IE} {ea : Expr} {p q : Pos} (hy : y = x.str) (hk : sc.lookup x.str = some .local) (hc : notComp ea = true) (ha : SE G C n sc a ea) : S1 G C n sc (.asg x a) (.Assign [.Name y q] ea p) := fun {env l L cl σ Q X A s} T hf R H w => by
  subst hy
  rw [exec_Assign_Name env x.str q ea p (swaps_no hc)]
  refine nBind (nStand (nBind (nMono (ha T R H w) (fun v s₁ h => ?_) EC_EX)))
  obtain ⟨τ, R₁, ⟨m, hm⟩, q'⟩ := h
  refine nBind (nStand (nBind (.of (wpAny_bindName (wpAny_mono (store_ok T R₁ hm hk (E := fun _ _ => False)) (fun _ s₂ R₂ => ?_) fun _ _ x => x.elim)))))
  exact nPure ⟨_, .next, rfl, R₂, q'⟩
theorem s1_ret {a : IE} {ea : Expr} {p : Pos} (ha : SE G C n sc a ea) : S1 G C n sc (.ret a) (.Return (some ea) p) := fun {env l L cl σ Q X A s} T hf R H w => by
  rw [exec_Return_some]
  refine nBind (nStand (nBind (nMono (ha T R H w) (fun v s₁ h => ?_) EC_EX)))
  obtain ⟨τ, R₁, q⟩ := h
  exact nPure ⟨τ, .ret _, rfl, R₁, q⟩
theorem s1_iff {c : IE} {a b : List IS} {ec : Expr} {sa sb : List Stmt} {p : Pos} (hc : ST G C n sc c ec) (ha : SS G C n sc a sa) (hb : SS G C n sc b sb) : S1 G C n sc (.iff c a b) (.If ec sa sb p) := fun {env l L cl σ Q X A s} T hf R H w => by
  rw [exec_If]
  refine nBind (nStand (nBind (nMono (hc (K := fun r τ => (r = true → WS C cl a L τ Q X) ∧ (r = false → WS C cl b L τ Q X)) T R H w fun v τ h => h) (fun r s₁ h => ?_) EC_EX)))
  obtain ⟨τ, R₁, w₁, w₂⟩ := h
  cases r with
  | true => exact nIf rfl (ha T hf R₁ H (w₁ rfl))
  | false => exact nElse (by simp) (hb T hf R₁ H (w₂ rfl))
theorem s1_asgA {o : IE} {x : N} {y : Str} {a : IE} {eo ea : Expr} {p q : Pos} (O : G.Ok) (F : KFact G.K) (hy : y = x.str) (hc : notComp ea = true) (ho : SE G C n sc o eo) (ha : SE G C n sc a ea) : S1 G C n sc (.asgA o x a) (.Assign [.Attribute eo y q] ea p) := fun {env l L cl σ Q X A s} T hf R H w => by
  subst hy
  rw [plainObj_exec_Assign_Attribute eo x.str q ea p (swaps_no hc)]
  refine nBind (nStand (nBind (nMono (ha T R H w) (fun v s₁ h => ?_) EC_EX)))
  obtain ⟨τ, R₁, w₁⟩ := h
  refine nBind ?_
  show wN _ _ (do
    let ov ← holding [v] (eval eo env)
    standAt q.atName
    holding [v, ov] (setAttr ov x.str v)
    release [v, ov] []) _ _ _
  refine nBind (nHolding (nMono (ho T R₁ H w₁) (fun ov s₂ h => ?_) EC_EX))
  obtain ⟨ρ, R₂, b, cls, d, m, hv, h1, h2, h3, h4, q'⟩ := h
  obtain rfl := av_ref hv
  refine nBind (nStand (nBind (nHolding (.of (wpAny_mono (set_ok O F R₂ h1 h2 h3 h4 (E := fun _ _ => False)) (fun _ s₃ R₃ => ?_) fun _ _ x => x.elim)))))
  exact .of (wpAny_release (nPure ⟨_, .next, rfl, R₃, q'⟩))
theorem s1_asgI {o i : IE} {a : IE} {eo ei ea : Expr} {p q : Pos} (hc : notComp ea = true) (ho : SE G C n sc o eo) (hi : SE G C n sc i ei) (ha : SE G C n sc a ea) : S1 G C n sc (.asgI o i a) (.Assign [.Subscript eo ei q] ea p) := fun {env l L cl σ Q X A s} T hf R H w => by
  rw [exec_Assign_Subscript eo ei q ea p (swaps_no hc)]
  refine nBind (nStand (nBind (nMono (ha T R H w) (fun v s₁ h => ?_) EC_EX)))
  obtain ⟨τ, R₁, w₁⟩ := h
  refine nBind ?_
  rw [assign_Subscript]
  refine nBind (nHolding (nMono (ho T R₁ H w₁) (fun ov s₂ h => ?_) EC_EX))
  obtain ⟨ρ, R₂, w₂⟩ := h
  refine nBind (nHolding (nMono (hi T R₂ H w₂) (fun iv s₃ h => ?_) EC_EX))
  obtain ⟨κ, R₃, b, k, xs, hv, hu, h1, h2, h3, h4, q'⟩ := h
  obtain rfl := av_ref hv
  obtain ⟨t, rfl⟩ := av_int hu
  obtain ⟨vs, nn, k1, k2⟩ := list_at R₃ h1
  have hsz := len_av k2
  refine nBind (nStand (nBind (nHolding (.of (ki_setAt k1 h2 (by lia) (by lia) ?_)))))
  refine .of (wpAny_release (nPure ⟨_, .next, rfl, ?_, q'⟩))
  have ho' := Heap.get?_update_self (h := s₃.heap) (a := b) (Obj.mapSeq fun xs => xs.setIfInBounds k.toNat v) k1 rfl
  refine R₃.put (t := s₃.toks) h1 (fun c o hb e => (Heap.get?_update_other _ _ (Ne.symm hb)).trans e) ho' (o := .list (xs.set k.toNat (av v))) ⟨vs.setIfInBounds k.toNat v, _, rfl, ?_⟩ (by intro m e; cases e)
  rw [← k2]; simp [List.map_set]
theorem s1_raise {a : IE} {ea : Expr} {p : Pos} (O : G.Ok) (F : KFact G.K) (ha : SE G C n sc a ea) : S1 G C n sc (.raise a) (.Raise (some ea) none p) := fun {env l L cl σ Q X A s} T hf R H w => by
  show wN _ _ (standAt p >>= fun _ => raiseStmt env (some (do let v ← eval ea env; standAt p; pure v)) none) _ _ _
  refine nBind (nStand ?_)
  unfold raiseStmt
  refine nBind (nBind (nMono (ha T R H w) (fun v s₁ h => ?_) EC_EX))
  obtain ⟨τ, R₁, b, d, hv, h1, q⟩ := h
  obtain rfl := av_ref hv
  refine nBind (nStand (nPure (nBind (nPure ?_))))
  obtain ⟨hb, ob, g1, g2, g3, vs, g4, g5, g6⟩ := R₁.objs _ _ h1
  have X0 := R₁.kin O
  have ty : Looks (Md G) s₁.heap (typeOf (.ref b)) (.ref clsFault) := g2 ▸ (Looks.ld g1).andThen .now
  have nt : Looks (Md G) s₁.heap (isType (.ref b)) false := by
    intro A' Q' E' s' k q'
    unfold isType loadHead
    refine wpAny_bind (wpAny_loadPart (k _ _ g1) ?_)
    rw [g4]
    exact wpAny_pure q'
  have be : Looks (Md G) s₁.heap (isInstance (.ref b) (.type "BaseException")) true := ty.andThen (looks_mroIn X0 F.fbe)
  refine nBind (nHolding ?_)
  unfold excFromValue isExcClass
  refine nBind (nBind (.of (nt.here (nElse (by decide) (nPure ?_)))))
  refine nElse (by decide) (nBind (.of (be.here (nIf rfl (nPure ?_)))))
  refine nBind (.of (nt.here ?_))
  dsimp only
  refine nElse (by decide) (nBind ?_)
  unfold raisedInstance
  refine nBind (.of (ty.here (nBind (.of ((looks_typeIn X0 F.fty).here (nIf (by decide) (nPure ?_)))))))
  refine nBind (.of ?_)
  unfold setFlight
  refine wpAny_bind (wpAny_field g1 g4 g6 ?_)
  rw [if_neg (by decide)]
  refine wpAny_pure (.of (wpAny_raiseNew_none H.handled ?_))
  have hm : OM G ob (.exc clsFault d) := ⟨g2, g3, vs, g4, g5⟩
  have R₂ : Rel G (env :: l) (τ.set b (.exc clsFault d)) s₁ := R₁.put (t := s₁.toks) h1 (fun _ _ _ e => e) g1 hm (by intro m e; cases e)
  exact ⟨b, _, rfl, R₂, ⟨hb, fun o e => by rw [St.set_same] at e; cases e; exact ⟨_, _, rfl⟩, ob, vs, g1, g4, g2, g5, .inl ⟨g6, .inl rfl⟩⟩, q⟩
end
end Mine
end
section
open PySem PySem.W PySem.Calls PyProof.Rows
namespace Mine
open Sem (wp)
section
variable {G : Glob} {C : Ct} {n : Nat} {sc : List (Str × NameKind)}
theorem nRunOwn {c : Code} {env : Env} {A : Around} {s : Shared} {Q : Flow → Shared → Prop} {E : Value → Shared → Prop}
    (hc : cN (Md G) A c (fun r s' => match r with | .ok f => Q f s' | .error e => cameBackBy (Md G) A env E e s') s) : wN (Md G) A (runOwn c env none) Q E s := by
  unfold runOwn
  refine nOnRaise (nMono (nRun (h := none) (by rw [Around.mark_none]; exact hc)) (fun _ _ q => q) fun e s' x => ?_)
  exact .of x
theorem s1_wh {c : IE} {b : List IS} {ec : Expr} {sb : List Stmt} {p : Pos} (hc : ST G C n sc c ec) (hb : SS G C n sc b sb) : S1 G C n sc (.wh c b) (.While ec sb [] p) := fun {env l L cl σ Q X A s} T hf R H w => by
  obtain ⟨I, ⟨k, hk⟩, step⟩ := w
  rw [exec_While]
  refine nBind (nStand (nRunOwn ?_))
  refine cLoop ok_while rfl (fun k s' => ∃ τ, I k τ ∧ Rel G (env :: l) τ s') (fun k s' ⟨τ, hI, R₁⟩ => ?_) k ⟨σ, hk, R⟩
  show wN _ A ((whileTurn ec sb [] env).onRaise (fun x => do noteFrame x env; theTreesLotGoes x)) _ _ s'
  refine nNoted ?_
  have out : ∀ e s'', EX G (env :: l) (PL L) X e s'' → wpAny (Md G) A (noteFrame e env) (fun _ s₃ => cameBackBy (Md G) A env (EX G (env :: l) (PL L) X) e s₃) (fun e s₃ => cameBackBy (Md G) A env (EX G (env :: l) (PL L) X) e s₃) s'' := fun e s'' x => back rfl H.frames hf x
  unfold whileTurn
  refine nBind (nMono (hc (K := fun r τ => (r = true → WS C cl b L τ (fun fl ρ => match fl with | .next => ∃ j ρ', j < k ∧ ρ'.le ρ ∧ I j ρ' | .ret v => Q (.ret v) ρ) X) ∧ (r = false → Q .next τ)) T R₁ H (step k τ hI) fun v τ h => h) (fun r s₁ h => ?_) fun e s'' x => out e s'' (EC_EX _ _ x))
  obtain ⟨ρ, R₂, w₁, w₂⟩ := h
  cases r with
  | false =>
    refine nElse (by simp) ?_
    rw [execs_nil]
    exact nPure ⟨ρ, .next, rfl, R₂, w₂ rfl⟩
  | true =>
    refine nIf rfl (nBind (nMono (hb T hf R₂ H (w₁ rfl)) (fun f s₂ h => ?_) out))
    obtain ⟨κ, fl, e, R₃, q⟩ := h
    cases f with
    | next =>
      cases e
      obtain ⟨j, ρ', hj, hle, hI'⟩ := q
      exact nPure (.inl ⟨rfl, j, hj, ρ', hI', R₃.le hle⟩)
    | ret v => cases e; exact nPure ⟨κ, _, rfl, R₃, q⟩
    | _ => cases e
theorem s1_for {x : N} {y : Str} {src : IE} {b : List IS} {esrc : Expr} {sb : List Stmt} {px p : Pos} (hy : y = x.str) (hk : sc.lookup x.str = some .local) (hset : ∀ env x, foldedSetIterable esrc env x = pure x) (hs : SE G C n sc src esrc) (hb : SS G C n sc b sb) :
    S1 G C n sc (.for_ x src b) (.For (.Name y px) esrc sb [] p) := fun {env l L cl σ Q X A s} T hf R H w => by
  subst hy
  rw [exec_For]
  refine nBind (nStand (nBind (nMono (hs T R H w) (fun v s₁ h₁ => ?_) EC_EX)))
  obtain ⟨τ, R₁, sv, items, hseq, w₁⟩ := h₁
  obtain ⟨hrel, _⟩ := seqRel hseq
  refine nBind (nEq (hset env v) (nBind (nStand (nBind (nHolding (.of (wpAny_mono (iter_ok R₁ hseq (E := fun _ _ => False)) (fun it s₂ h₂ => ?_) fun _ _ x => x.elim)))))))
  obtain ⟨rfl, R₂⟩ := h₂
  obtain ⟨I, hI0, step⟩ := w₁ _ R₁.fresh
  generalize s₁.heap.objs.size = it at R₂ hI0 step
  refine nRunOwn ?_
  have out : ∀ e s'', EX G (env :: l) (PL L) X e s'' → wpAny (Md G) A (noteFrame e env) (fun _ s₃ => cameBackBy (Md G) A env (EX G (env :: l) (PL L) X) e s₃) (fun e s₃ => cameBackBy (Md G) A env (EX G (env :: l) (PL L) X) e s₃) s'' := fun e s'' x => back rfl H.frames hf x
  refine cLoop ok_for rfl (fun k s' => ∃ i ρ, I i ρ ∧ Rel G (env :: l) ρ s' ∧ i ≤ items.length ∧ k = items.length - i) (fun k s' ⟨i, ρ, hI, R₃, hi, hk'⟩ => ?_) items.length ⟨0, _, hI0, R₂, Nat.zero_le _, by lia⟩
  obtain ⟨g1, g2, g3, g4⟩ := step i ρ hI hi
  show wN _ A ((forTurn (.Name x.str px) (.ref it) sb [] env).onRaise (fun x => do noteFrame x env; theTreesLotGoes x)) _ _ s'
  refine nNoted ?_
  unfold forTurn
  refine nBind (nStand (nBind (nOnRaise ?_)))
  rcases Nat.lt_or_eq_of_le hi with hlt | heq
  · obtain ⟨v', hv⟩ : ∃ v, items[i]? = some v := ⟨_, List.getElem?_eq_getElem hlt⟩
    refine .of (wpAny_mono (next_ok R₃ hrel g1 g2 hv (E := fun _ _ => False)) (fun r s₃ h => ?_) fun _ _ x => x.elim)
    obtain ⟨z, rfl, rfl, R₄⟩ := h
    obtain ⟨⟨m, hm⟩, w₂⟩ := g3 _ hv
    have hne : L ≠ it := fun q => by rw [q, g2] at hm; cases hm
    have hm' : (ρ.set it (.iter sv (i + 1))) L = some (.ns true m) := by rw [St.set_ne _ _ hne]; exact hm
    refine nBind (nEq (a := ()) rfl (leaf (wpAny_assign_Name (wpAny_mono (store_ok T R₄ hm' hk (E := fun _ _ => False)) (fun _ s₄ R₅ => ?_) fun _ _ x => x.elim))))
    refine nBind (nMono (hb T hf R₅ H w₂) (fun f s₅ h => ?_) out)
    obtain ⟨κ, fl, e, R₆, q⟩ := h
    cases f with
    | next =>
      cases e
      obtain ⟨ρ', hle, hI'⟩ := q
      exact nPure (.inl ⟨rfl, items.length - (i + 1), by lia, i + 1, ρ', hI', R₆.le hle, hlt, rfl⟩)
    | ret v => cases e; exact nPure ⟨κ, _, rfl, R₆, q⟩
    | _ => cases e
  · subst heq
    refine .of (wpAny_mono (next_end H.handled R₃ hrel g1 g2 (E := fun _ _ => False)) (fun r s₃ h => ?_) fun _ _ x => x.elim)
    obtain ⟨rfl, R₄⟩ := h
    refine nPure (.inr ⟨rfl, cN.of (codeAny_block ?_)⟩)
    rw [execs_nil]
    exact wpAny_pure ⟨_, .next, rfl, R₄, g4 rfl⟩
/-- a captured variable -/
theorem s1_asgC {x : N} {y : Str} {a : IE} {ea : Expr} {p q : Pos} (hx : x = .nWire) (hy : y = x.str) (hk : sc.lookup x.str = some .cell) (hc : notComp ea = true) (ha : SE G C n sc a ea) : S1 G C n sc (.asgC x a) (.Assign [.Name y q] ea p) := fun {env l L cl σ Q X A s} T hf R H w => by
  subst hy
  rw [exec_Assign_Name env x.str q ea p (swaps_no hc)]
  refine nBind (nStand (nBind (nMono (ha T R H w) (fun v s₁ h => ?_) EC_EX)))
  obtain ⟨τ, R₁, c, o, h1, h2, q'⟩ := h
  obtain ⟨_, ob, h3, x', h5, h6⟩ := R₁.objs _ _ h2
  subst hx
  refine nBind (nStand (nBind (.of (wpAny_bindName (wpAny_storeName_cell T.kind (by rw [T.kindOf]; exact hk) (T.cells c h1) ⟨ob, h3, h5⟩ fun h' hv hs => ?_)))))
  obtain ⟨ob', g1, g2⟩ := hv
  refine nPure ⟨_, .next, rfl, ?_, q'⟩
  exact R₁.put (t := s₁.toks) (l := env :: l) h2 (fun b o hb e => by rw [hs.2 b hb]; exact e) g1 ⟨some v, g2, rfl⟩ (fun m e => by cases e)
end
end Mine
end
section
open PySem PySem.W PySem.Calls PyProof.Rows
set_option genSizeOf false
set_option genInjectivity false
namespace Mine
open Sem (wp)
noncomputable def tabOf (D : Nat → LamD) : List (Nat × Addr) → List Value
  | [] => []
  | (k, c) :: r => rawInt (D k).pos.line :: rawInt (D k).pos.col :: .ref c :: tabOf D r
noncomputable def lamQ : Str := lawLoc ++ "<lambda>"
noncomputable def lamPD (D : Nat → LamD) (k : Nat) (c cc : Addr) (ob : Obj) : Prop := ∃ pm ctv, ob = kla_obj "<lambda>" lamQ (D k).params (D k).body (D k).scope [(N.nWire.str, c)] pm cc ctv
noncomputable def codePD (k : Nat) (ob : Obj) : Prop := ∃ vs t, ob.data = .fields vs ∧ vs[1]? = some (.str lamQ t)
noncomputable def tabPD (D : Nat → LamD) (cs : List (Nat × Addr)) (ob : Obj) : Prop := (∀ p ∈ cs, p.1 < 2) ∧ ob = tabObj (tabOf D cs).toArray
/-- what the law's lambdas have to be -/
structure LamF (G : Glob) (D : Nat → LamD) : Prop where
  lamP : G.lamP = lamPD D
  codeP : G.codeP = codePD
  tabP : G.tabP = tabPD D
  code : ∀ h : Heap, G.K.In h → CodeHd h lawCode tabAddr
  bmod : G.base.BuiltinsAt G.mg tabAddr
  pos : ∀ j k, j < 2 → k < 2 → ((D j).pos.line == (D k).pos.line && (D j).pos.col == (D k).pos.col) = (j == k)
  dflt : ∀ k env, defaultsOf (D k).params env = ([], [])
  kind : ∀ k, (D k).scope.kind = .function
  co : ∀ k, (D k).scope.isCoroutine = false
  gen : ∀ k, (D k).scope.isGenerator = false
  nocell : ∀ k, ∀ x ∈ (D k).scope.names, x.2 ≠ .cell
  noask : ∀ k, ((D k).scope.names.lookup N.nAsked.str).isSome = false
  bind : ∀ k c pm cd ctv s, BindsTo s (kla_fn "<lambda>" lamQ (D k).params (D k).body (D k).scope [(N.nWire.str, c)] pm cd ctv) ⟨[], []⟩ []
  clo : ∀ k (env : Env) c, env.cells.lookup N.nWire.str = some c → closureFor (D k).scope env = pure [(N.nWire.str, c)]
section
variable {G : Glob} {C : Ct} {n : Nat} {sc : List (Str × NameKind)} {D : Nat → LamD}
theorem tab_ok : ∀ cs : List (Nat × Addr), TriplesOk (tabOf D cs)
  | [] => trivial
  | (k, c) :: r => tab_ok r
theorem tab_among (hp : ∀ j k, j < 2 → k < 2 → ((D j).pos.line == (D k).pos.line && (D j).pos.col == (D k).pos.col) = (j == k)) {k : Nat} (hk : k < 2) :
    ∀ cs : List (Nat × Addr), (∀ p ∈ cs, p.1 < 2) → codeAmong (D k).pos (tabOf D cs) = (cs.lookup k).map fun c => Value.ref c
  | [], _ => rfl
  | (j, c) :: r, h => by
    have hj := h (j, c) List.mem_cons_self
    show (if ((D j).pos.line : Int) == ((D k).pos.line : Int) && ((D j).pos.col : Int) == ((D k).pos.col : Int) then some (Value.ref c) else codeAmong (D k).pos (tabOf D r)) = _
    have e : (((D j).pos.line : Int) == ((D k).pos.line : Int) && ((D j).pos.col : Int) == ((D k).pos.col : Int)) = (j == k) := by
      rw [← hp j k hj hk]
      congr 1 <;> exact Bool.eq_iff_iff.mpr (by simp only [beq_iff_eq]; lia)
    rw [e, tab_among hp hk r fun p hp => h p (List.mem_cons_of_mem _ hp), List.lookup_cons]
    by_cases hjk : j = k
    · subst hjk; simp
    · have h1 : (j == k) = false := beq_eq_false_iff_ne.mpr hjk
      have h2 : (k == j) = false := beq_eq_false_iff_ne.mpr fun q => hjk q.symm
      simp [h1, h2]
theorem tab_snoc {k : Nat} {c : Addr} : ∀ cs : List (Nat × Addr), tabOf D (cs ++ [(k, c)]) = tabOf D cs ++ [rawInt (D k).pos.line, rawInt (D k).pos.col, .ref c]
  | [] => rfl
  | (j, d) :: r => by simp [tabOf, tab_snoc r]
theorem Rel.track {l : List Env} {σ : St} {s : Shared} {a : Addr} {ob : Obj} {o : AO} (R : Rel G l σ s) (hb : G.base.get? a = none) (ho : s.heap.get? a = some ob) (hm : OM G ob o) (hf : ∀ env ∈ l, env.frame ≠ some a) : Rel G l (σ.set a o) s := by
  refine ⟨R.base, fun b x e => ?_, fun env he => ?_, R.gens, R.os⟩
  · by_cases hba : b = a
    · subst hba; rw [St.set_same] at e; cases e; exact ⟨hb, ob, ho, hm⟩
    · rw [St.set_ne _ _ hba] at e; exact R.objs _ _ e
  · obtain ⟨f, o1, es, ep, k, x1, x2, x3, x4, d⟩ := R.fr env he
    refine ⟨f, o1, es, ep, k, x1, x2, x3, x4, fun o' e => ?_⟩
    rw [St.set_ne _ _ (fun q => hf env he (by rw [x1, q]))] at e
    exact d _ e
theorem BuiltinsAt_keeps {h h' : Heap} {mg : Str → Option Value} {P : Addr} (x : h.BuiltinsAt mg P) (hk : ∀ b o, h.get? b = some o → h'.get? b = some o) : h'.BuiltinsAt mg P :=
  let ⟨bm, o, a, b, c, d, e, r⟩ := x; ⟨bm, o, a, b, c, d, hk _ _ e, r⟩
theorem se_lam {f : F} {k : Nat} {params : Arguments} {body : Expr} {scope : Scope} {pos : Pos} (O : G.Ok) (KF : KFact G.K) (LF : LamF G D) (hk : k < 2) (hfk : lamNo f = k) (hask : (sc.lookup N.nAsked.str).isSome = true)
    (hD : D k = ⟨params, body, scope, pos⟩) : SE G C n sc (.lam f) (.Lambda params body scope pos) := fun {env l L cl σ Q X A s} T R H w => by
  obtain ⟨c, k', cs, h1, h2, h3, w⟩ := w
  obtain rfl : k' = k := by rw [h2]; exact hfk
  have e1 : params = (D k').params := by rw [hD]
  have e2 : body = (D k').body := by rw [hD]
  have e3 : scope = (D k').scope := by rw [hD]
  have e4 : pos = (D k').pos := by rw [hD]
  obtain ⟨q1, q2⟩ := T.law hask
  have X0 := R.kin O
  obtain ⟨hb, ob, h4, h5⟩ := R.objs _ _ h3
  have h5 : G.tabP cs ob := h5
  rw [LF.tabP] at h5
  obtain ⟨h6, rfl⟩ := h5
  have am : codeAmong pos (tabOf D cs).toArray.toList = (cs.lookup k').map fun c => Value.ref c := by rw [e4]; exact tab_among LF.pos hk cs h6
  refine .of (kla_eval (by rw [e1]; exact LF.dflt _ _) ?_)
  have hq : env.qual ++ "<lambda>" = lamQ := by rw [q2]; rfl
  rw [hq]
  have hcl : closureFor scope env = pure [(N.nWire.str, c)] := by rw [e3]; exact LF.clo _ _ _ (T.cells c h1)
  rcases w with ⟨cc, g1, g2⟩ | ⟨g1, g2⟩
  · rw [g1] at am
    refine kla_makeFunctionHit hcl T.globals (R.g O) q1 (LF.code _ X0) h4 (tab_ok cs) am (BuiltinsAt_keeps LF.bmod R.base) fun ctv h' tk keep hz => ?_
    have R' := R.keeps (t := tk) keep
    refine ⟨_, R'.push (o := .lam k' c cc) ?_ rfl, g2 _ R'.fresh (R'.big O KF)⟩
    show G.lamP _ _ _ _
    rw [LF.lamP, e1, e2, e3]
    exact ⟨_, _, rfl⟩
  · rw [g1] at am
    refine kla_makeFunction hcl T.globals (R.g O) q1 (LF.code _ X0) h4 (tab_ok cs) am (by decide) (BuiltinsAt_keeps LF.bmod R.base) fun c' ctv h' tk hx hge hlt hrec htb => ?_
    have R₁ : Rel G l (σ.set tabAddr (.tab (cs ++ [(k', c')]))) { s with heap := h', toks := tk } := R.put h3 (fun b o hb e => hx b o hb e) htb (by
      show G.tabP _ _
      rw [LF.tabP]
      refine ⟨fun p hp => ?_, ?_⟩
      · rcases List.mem_append.mp hp with hp | hp
        · exact h6 p hp
        · obtain rfl := List.mem_singleton.mp hp; exact hk
      · rw [tab_snoc, e4]; simp) fun m e => by cases e
    have fresh : ∀ b, s.heap.objs.size ≤ b → σ b = none ∧ G.base.get? b = none := fun b hb => by
      constructor
      · cases q : σ b with
        | none => rfl
        | some o => exact absurd (R.lt q) (Nat.not_lt.mpr hb)
      · cases q : G.base.get? b with
        | none => rfl
        | some o => exact absurd (Heap.lt_size (R.base _ _ q)) (Nat.not_lt.mpr hb)
    obtain ⟨c₀, o₀, vs, t, hc, ho, hd, hv⟩ := hrec
    cases hc
    have R₂ : Rel G l ((σ.set tabAddr (.tab (cs ++ [(k', c')]))).set c' (.code k')) { s with heap := h', toks := tk } := R₁.track (fresh _ hge).2 ho (by
      show G.codeP _ _
      rw [LF.codeP]
      exact ⟨vs, t, hd, hv⟩) fun env he q => by
        obtain ⟨f', o1, _, _, _, x1, _, x3, _, _⟩ := R.fr env he
        rw [x1] at q; cases q
        exact absurd (Heap.lt_size x3) (Nat.not_lt.mpr hge)
    have hsz : s.heap.objs.size ≤ h'.objs.size := Nat.le_of_lt (Nat.lt_of_le_of_lt hge hlt)
    refine ⟨_, R₂.push (o := .lam k' c c') ?_ rfl, g2 _ _ (fresh _ hge).1 (fresh _ hsz).1 (Nat.ne_of_lt hlt) (Nat.le_trans (R.big O KF) hsz)⟩
    show G.lamP _ _ _ _
    rw [LF.lamP, e1, e2, e3]
    exact ⟨_, _, rfl⟩
end
end Mine
end
section
open PySem PySem.W PySem.Calls PyProof.Rows
namespace Mine
open Sem (wp)
theorem ok_expr {e : Expr} {env : Env} : okC (.expr e env) := fun _ _ _ _ => rfl
section
variable {G : Glob} {C : Ct} {n : Nat} {sc : List (Str × NameKind)} {D : Nat → LamD} {l : List Env} {σ : St} {s : Shared}
theorem cExpr {A : Around} {e : Expr} {env : Env} {R : Result → Shared → Prop}
    (h : wN (Md G) (A.deeper env) (eval e env) (fun v s' => R (.ok (.ret v)) s')
      (fun e' s' => wN (Md G) (A.deeper env) (leaving env e') (fun _ s'' => R (.error e') s'') (fun e'' s'' => R (.error e'') s'') s') s) : cN (Md G) A (.expr e env) R s := by
  refine cTree ok_expr ?_
  show wN _ (A.deeper env) (do point; ret (← (eval e env).onRaise (leaving env))) _ _ s
  refine nBind (nPoint (nBind (nOnRaise (nMono h (fun f s' h' => ?_) fun _ _ h' => h'))))
  exact nPure h'
theorem call_lam {A : Around} {a : Addr} {k : Nat} {c cc : Addr} {Q : Kt} {X : Xt} (O : G.Ok) (LF : LamF G D) (hb : SE G (WC n) n (D k).scope.names (lamBody k) (D k).body) (ha : σ a = some (.lam k c cc)) (hcc : ∃ j, σ cc = some (.code j))
    (R : Rel G l σ s) (H : AOk (n + 1) l A)
    (w : ∀ L, σ L = none → WE (WC n) (some c) (lamBody k) L (σ.set L (.ns true fun _ => none)) (fun v τ => ∃ ρ, ρ.le (τ.del L) ∧ Q v ρ) (fun e τ => ∃ ρ, ρ.le (τ.del L) ∧ X e ρ)) :
    cN (Md G) A (.call (.ref a) ⟨[], []⟩) (Ret (QS G l Q) (EC G l X)) s := by
  obtain ⟨_, ob, h1, h2⟩ := R.objs _ _ ha
  have h2 : G.lamP k c cc ob := h2
  rw [LF.lamP] at h2
  obtain ⟨pm, ctv, rfl⟩ := h2
  obtain ⟨j, hcc⟩ := hcc
  obtain ⟨_, oc, hoc, h3⟩ := R.objs _ _ hcc
  have h3 : G.codeP j oc := h3
  rw [LF.codeP] at h3
  obtain ⟨ws, tq, hdc, hq⟩ := h3
  refine cTree ok_call ?_
  show wN _ A.in1 (callAny (.ref a) ⟨[], []⟩) _ _ s
  simp only [callAny]
  refine leaf (wpAny_load h1 ?_)
  simp only [callFunction, LF.co, LF.gen]
  refine nBind (m := field (.ref cc) 1) (.of (wpAny_field hoc hdc hq ?_))
  refine nBind (nPure (leaf (LF.bind k c pm (.ref cc) ctv s _ _ _ _ ?_)))
  refine leaf (wpAny_newFunctionEnv (LF.nocell k) (fun x hx => by cases hx) (fun h₀ hns hsb => ?_) (LF.kind k))
  have keep : ∀ b o, s.heap.get? b = some o → h₀.get? b = some o := fun b o e => hsb.extBut b o (Nat.ne_of_lt (Heap.lt_size e)) (Heap.get?_push_of_some _ e)
  generalize henv : newEnv (D k).scope s.heap.objs.size mainGlobals [(N.nWire.str, c)] (lamQ ++ ".<locals>.") (some a) (.ref cc) none builtinsNs = env
  have e1 : env.scope = (D k).scope := by subst henv; rfl
  have e2 : env.frame = some s.heap.objs.size := by subst henv; rfl
  have e3 : env.locals = s.heap.objs.size := by subst henv; rfl
  have e4 : env.globals = mainGlobals := by subst henv; rfl
  have e5 : env.builtins = builtinsNs := by subst henv; rfl
  have e6 : env.cells = [(N.nWire.str, c)] := by subst henv; rfl
  have T : At env s.heap.objs.size (some c) (D k).scope.names := ⟨by rw [e1, LF.kind], e3, e4, e5, fun c' e => (by cases e; rw [e6]; simp), by rw [e1], fun q => (by rw [LF.noask] at q; cases q)⟩
  have hm : NsRel (fun x => ([] : List (Str × Value)).reverse.lookup x) (fun _ => none) := ⟨fun k v e => (by cases e), fun y x e => (by cases e)⟩
  have RE : ∀ t, Rel G (env :: l) (σ.set s.heap.objs.size (.ns true fun _ => none)) { s with heap := h₀, toks := t } := fun t => R.enter (by rw [e1, LF.kind]) e2 (no_obj s) hns hm keep
  have hlim := (RE 0).nolimit O
  refine leaf (wpAny_enterFrame hlim (by show A.depth < recursionLimit; have := H.depth; unfold recursionLimit; lia) (nPure ⟨rfl, cExpr ?_⟩))
  refine nMono (hb T (RE _) H.deeper (w _ R.fresh)) (fun v s' z => ?_) fun e s' z => ?_
  · obtain ⟨τ, R', ρ, hle, q⟩ := z
    exact ⟨ρ, R'.tail.le (St.le_trans hle (St.del_le _ _)), q⟩
  · obtain ⟨a', τ, rfl, R', Fl, ρ, hle, q⟩ := z
    have hle' := St.le_trans hle (St.del_le _ _)
    refine .of (leaves rfl (H.deeper (env := env)).frames R' e2 (Fl.mono PC_PL) fun h' R'' F'' => ?_)
    exact ⟨a', ρ, rfl, R''.tail.le hle', (F''.le hle').mono PO_PC, q⟩
end
end Mine
end
section
open PySem PySem.W PySem.Calls PyProof.Rows
namespace Mine
open Sem (wp)
/-- a store, the name there or not -/
theorem nsSet_put {M : Model} {A : Around} {E : Value → Shared → Prop} {s : Shared} {d : Addr} {es : Array DictEntry} {ep : Nat} {mm : Str → Option Value} {name : Str} {v : Value} {Q : Unit → Shared → Prop} (hd : s.heap.get? d = some { cls := .type "dict", data := .dict es ep })
    (hk : StrKeys es) (hf : ∀ x, nsFind es x = mm x)
    (h : ∀ h' es' ep', Heap.SameBut d s.heap h' → h'.get? d = some { cls := .type "dict", data := .dict es' ep' } → es'.size ≤ es.size + 1 → StrKeys es' → (∀ x, nsFind es' x = if x = name then some v else mm x) → Q () { s with heap := h', toks := s.toks + 1 }) : wpAny M A (nsSet d name v) Q E s := by
  have key : ∀ (hh : Int) (tk : Tok), Q () { s with heap := s.heap.update d (Obj.putName name hh (.str name tk) v), toks := s.toks + 1 } := by
    intro hh tk
    cases hi : es.findIdx? (·.key.isStr name) with
    | some i =>
      refine h _ (es.modify i fun e => { e with val := v }) ep (Heap.SameBut.update ..) ?_ (by simp) (hk.modify _ _) fun x => ?_
      · exact Heap.get?_update_self _ hd (by simp only [Obj.putName_eq, Obj.putNameByArray, hi]; rfl) |>.trans (by simp only [Obj.putName_eq, Obj.putNameByArray, hi])
      · rw [← hf]; exact findBy_modify (fun n v => v.isStr n) Value.isStr_inj es name x v i hi
    | none =>
      refine h _ (es.push ⟨hh, .str name tk, v⟩) (ep + 1) (Heap.SameBut.update ..) ?_ (by simp) (hk.push _ _ _ _) fun x => ?_
      · exact Heap.get?_update_self _ hd (by simp only [Obj.putName_eq, Obj.putNameByArray, hi]; rfl) |>.trans (by simp only [Obj.putName_eq, Obj.putNameByArray, hi])
      · rw [← hf]
        exact findBy_push (fun n v => v.isStr n) es name x _ _ v (fun y => by
          show (name == y) = decide (y = name)
          by_cases h : y = name
          · subst h; simp
          · have : ¬ name = y := fun e => h e.symm
            simp [h, this]) hi
  unfold nsSet
  refine wpAny_bind (wpAny_bind (wpAny_askSetting (wpAny_pure (wpAny_bind (wpAny_mkText (wpAny_bind (wpAny_loadPart hd ?_)))))))
  have hany : es.any (·.refKey) = false := by
    rw [Array.any_eq_false']; intro e he; obtain ⟨n, t, h⟩ := hk e he; simp [DictEntry.refKey, h]
  dsimp only
  rw [aRefKeyMayBeTheName_eq]
  unfold aRefKeyMayBeTheNameByArray
  simp only [hany, Bool.and_false, Bool.false_eq_true, if_false]
  exact wpAny_updatePart hd (key _ _)
section
variable {G : Glob} {C : Ct} {n : Nat} {sc : List (Str × NameKind)} {l : List Env} {σ : St} {s : Shared}
/-- a store at a new object of the program -/
theorem set_new {A : Around} {E : Value → Shared → Prop} {a Cl d : Addr} {es : Array DictEntry} {ep : Nat} {mm : Str → Option Value} {name : Str} {v : Value} {Q : Unit → Shared → Prop} (X : G.K.In s.heap) (CF : ClsF G.K Cl) (ht : takerIn G.K Cl name = some none)
    (ha : s.heap.get? a = some (instObj Cl d)) (hd : s.heap.get? d = some { cls := .type "dict", data := .dict es ep }) (hk : StrKeys es) (hf : ∀ x, nsFind es x = mm x) (hz : es.size ≤ 90)
    (h : ∀ h' t' es' ep', Heap.SameBut d s.heap h' → h'.get? d = some { cls := .type "dict", data := .dict es' ep' } → es'.size ≤ es.size + 1 → StrKeys es' → (∀ x, nsFind es' x = if x = name then some v else mm x) → Q () { s with heap := h', toks := t' }) :
    wpAny (Md G) A (setAttr (.ref a) name v) Q E s := by
  have I : InstAt s.heap a (instObj Cl d) Cl (some { cls := .type "dict", data := .dict es ep }) := ⟨ha, rfl, rfl, hd⟩
  refine set_plain X I CF.sa (osa_open X I CF.po ht fun b => ?_)
  obtain ⟨cd, hc, hd'⟩ := any_some CF.hd
  refine wpAny_bind (wpAny_pure (wpAny_bind (wpAny_bind (wpAny_loadPart ha (wpAny_bind ((looks_clsIn X hc).at ?_))))))
  rw [hd']
  refine wpAny_pure (a := some d) (wpAny_bind (wpAny_pure (wpAny_bind ?_)))
  refine nsSet_put (s := { s with toks := s.toks + 1 }) hd hk hf fun h' es' ep' e1 e2 e3 e4 e5 => ?_
  refine wpAny_bind (wpAny_lookBehind e2 (pastItsLine_dict (by rw [sizeLine_eq]; lia)) ?_)
  exact wpAny_pure (h _ _ es' ep' e1 e2 e3 e4 e5)
/-- one line of an initializer -/
theorem init_line {A : Around} {E : Value → Shared → Prop} {env : Env} {L a Cl d : Addr} {es : Array DictEntry} {ep : Nat} {mf mm : Str → Option Value} {x y : N} {v : Value} {p1 p2 p3 p4 : Pos} {Q : Flow → Shared → Prop} (T : At env L none sc) (X : G.K.In s.heap) (CF : ClsF G.K Cl) (ht : takerIn G.K Cl x.str = some none)
    (k1 : sc.lookup N.nSelf.str = some .local) (k2 : sc.lookup y.str = some .local) (hL : s.heap.Ns L mf) (f1 : mf N.nSelf.str = some (.ref a)) (f2 : mf y.str = some v)
    (ha : s.heap.get? a = some (instObj Cl d)) (hd : s.heap.get? d = some { cls := .type "dict", data := .dict es ep }) (hk : StrKeys es) (hf : ∀ x, nsFind es x = mm x) (hz : es.size ≤ 90)
    (h : ∀ h' t' es' ep', Heap.SameBut d s.heap h' → h'.get? d = some { cls := .type "dict", data := .dict es' ep' } → es'.size ≤ es.size + 1 → StrKeys es' → (∀ z, nsFind es' z = if z = x.str then some v else mm z) → Q .next { s with heap := h', toks := t' }) :
    wpAny (Md G) A (exec (.Assign [.Attribute (.Name N.nSelf.str p1) x.str p2] (.Name y.str p3) p4) env) Q E s := by
  rw [plainObj_exec_Assign_Attribute (.Name N.nSelf.str p1) x.str p2 (.Name y.str p3) p4 rfl]
  refine wpAny_bind (wpAny_standAt (wpAny_bind ?_))
  refine wpAny_Name (wpAny_loadName_local T.kind (by rw [T.kindOf]; exact k2) (by rw [T.locals]; exact hL) f2 ?_) (not_debug y)
  rw [assign_Attribute]
  refine wpAny_bind (wpAny_bind (wpAny_holding ?_))
  refine wpAny_Name (wpAny_loadName_local T.kind (by rw [T.kindOf]; exact k1) (by rw [T.locals]; exact hL) f1 ?_) (not_debug .nSelf)
  refine wpAny_bind (wpAny_standAt (wpAny_bind (wpAny_holding (set_new X CF ht ha hd hk hf hz fun h' t' es' ep' e1 e2 e3 e4 e5 => ?_))))
  exact wpAny_release (wpAny_pure (h h' t' es' ep' e1 e2 e3 e4 e5))
/-- a call of a function of the fragment whose body asks nothing of the stack -/
theorem call_fnA {f : F} {body : List Stmt} {A : Around} {vs : List Value} {R : Result → Shared → Prop} (FF : FnF G f body sc) (X0 : G.K.In s.heap) (hlim : s.heap.NoLimit) (hroom : A.depth < recursionLimit)
    (h1 : (params f).length ≤ vs.length + (dflt f).length) (h2 : vs.length ≤ (params f).length)
    (h : ∀ env h₀ t binds, At env s.heap.objs.size none sc → env.frame = some s.heap.objs.size → h₀.Ns s.heap.objs.size (fun x => (binds.map fun (p : N × Value) => (p.1.str, p.2)).reverse.lookup x) → (∀ b o, s.heap.get? b = some o → h₀.get? b = some o) → h₀.objs.size = s.heap.objs.size + 1 →
      (∃ df : List Value, df.map av = dflt f ∧ binds = (params f).zip (vs ++ df.drop (vs.length + df.length - (params f).length))) →
      wpAny (Md G) (A.deeper env) (execs body env) (fun f s' => R (.ok (.ret (match f with | .ret v => v | _ => .none))) s') (fun _ _ => False) { s with heap := h₀, toks := t }) :
    codeAny (Md G) A (.call (.ref f.addr) ⟨vs, []⟩) R s := by
  obtain ⟨o, fd, df, k1, k2, k3, k4, k5, k6, k7, k8, k9, k10, k11, k12⟩ := FF.fd
  have hdl : df.length = (dflt f).length := by rw [← k11]; simp
  have hcd := k10 s.heap X0
  obtain ⟨c, oc, ws, tq, hc, hoc, hdc, hq⟩ := hcd
  refine codeAny_of_tree ?_
  show wpAny _ A.in1 (callAny (.ref f.addr) ⟨vs, []⟩) _ _ s
  simp only [callAny]
  refine wpAny_bind (wpAny_load (X0 _ _ k1) ?_)
  simp only [k2, callFunction, k6, k7, k3, hc]
  refine wpAny_bind (m := field (.ref c) 1) (wpAny_field hoc hdc hq ?_)
  refine wpAny_bind (wpAny_pure (wpAny_bind (k12 vs s X0 (by rw [hdl]; exact h1) h2 _ _ _ _ ?_)))
  rw [zip_map_av]
  refine wpAny_bind (wpAny_newFunctionEnv (by rw [k4]; exact FF.nocell) (fun x hx => ?_) (fun h₀ hns hsb => ?_) k5)
  · obtain ⟨p, hp, rfl⟩ := List.mem_map.mp hx
    rw [k4]
    exact FF.locals p.1 (List.of_mem_zip hp).1
  have keep : ∀ b o, s.heap.get? b = some o → h₀.get? b = some o := fun b o e => hsb.extBut b o (Nat.ne_of_lt (Heap.lt_size e)) (Heap.get?_push_of_some _ e)
  generalize henv : newEnv fd.scope s.heap.objs.size fd.globals fd.closure (fd.qualname ++ ".<locals>.") (some f.addr) (.ref c) none fd.builtins = env
  have e1 : env.scope = fd.scope := by subst henv; rfl
  have e2 : env.frame = some s.heap.objs.size := by subst henv; rfl
  have e3 : env.locals = s.heap.objs.size := by subst henv; rfl
  have e4 : env.globals = fd.globals := by subst henv; rfl
  have e5 : env.builtins = fd.builtins := by subst henv; rfl
  have T : At env s.heap.objs.size none sc := ⟨by rw [e1, k5], e3, by rw [e4, k8], by rw [e5, k9], fun c e => (by cases e), by rw [e1, k4], fun q => (by rw [FF.noask] at q; cases q)⟩
  refine wpAny_bind (wpAny_enterFrame (hlim.keeps keep) hroom (wpAny_pure (And.intro rfl (codeAny_func (wpAny_mono (h env h₀ _ _ T e2 hns keep (by rw [hsb.1, Heap.size_push]) ⟨df, k11, rfl⟩) (fun _ _ z => z) fun _ _ z => z.elim)))))
end
end Mine
end
section
open PySem PySem.W PySem.Calls PyProof.Rows
namespace Mine
open Sem (wp)
theorem under_tc {A : Around} {a : Addr} {args : List Value} {n : Nat} {l : List Env} (H : AOk n l A) : (A.under (.builtin "type.__call__" ⟨.ref a :: args, []⟩)).depth < recursionLimit := by
  have h : (Code.builtin "type.__call__" ⟨.ref a :: args, []⟩).weight ≤ 1 := by
    first | exact Nat.le_of_eq_of_le (b := 0) rfl (by decide) | exact Nat.le_of_eq (rfl : _ = 1)
  show A.depth + Code.weight _ < 1000
  have := H.depth
  lia
section
variable {G : Glob} {C : Ct} {n : Nat} {sc : List (Str × NameKind)} {l : List Env} {σ : St} {s : Shared}
/-- the new object and its dict in the abstract state -/
theorem Rel.inst (R : Rel G l σ s) {h : Heap} {t : Nat} {Cl : Addr} {es : Array DictEntry} {ep : Nat} {mm : Str → Option Value} {m : N → Option V} (hk : ∀ b o, s.heap.get? b = some o → h.get? b = some o)
    (hd : h.get? s.heap.objs.size = some { cls := .type "dict", data := .dict es ep }) (ho : h.get? (s.heap.objs.size + 1) = some (instObj Cl s.heap.objs.size)) (h1 : StrKeys es) (h2 : ∀ x, nsFind es x = mm x) (h3 : NsRel mm m) (h4 : es.size ≤ 100) :
    Rel G l ((σ.set s.heap.objs.size (.ns false m)).set (s.heap.objs.size + 1) (.inst Cl s.heap.objs.size)) { s with heap := h, toks := t } := by
  have big : ∀ b o, s.heap.get? b = some o → b ≠ s.heap.objs.size + 1 := fun b o e => Nat.ne_of_lt (Nat.lt_succ_of_lt (Heap.lt_size e))
  have R₁ : Rel G l (σ.set s.heap.objs.size (.ns false m)) { s with heap := h, toks := t } := R.new hk (no_obj s) hd ⟨es, ep, mm, rfl, h1, h2, h3, fun _ => ⟨rfl, h4⟩⟩
  refine R₁.track ?_ ho rfl fun env he q => ?_
  · cases q : G.base.get? (s.heap.objs.size + 1) with
    | none => rfl
    | some o => exact absurd rfl (big _ _ (R.base _ _ q))
  · obtain ⟨f', o1, _, _, _, x1, _, x3, _, _⟩ := R.fr env he
    rw [x1] at q; cases q
    exact absurd rfl (big _ _ x3)
theorem Rel.fresh1 (R : Rel G l σ s) : σ (s.heap.objs.size + 1) = none := by
  cases q : σ (s.heap.objs.size + 1) with
  | none => rfl
  | some o => exact absurd (R.lt q) (Nat.not_lt.mpr (Nat.le_succ _))
theorem bindsW {self vx vy : Value} {df : List Value} (h : df.map av = dflt .wInit) : (params .wInit).zip ([self, vx, vy] ++ df.drop ([self, vx, vy].length + df.length - (params .wInit).length)) = [(.nSelf, self), (.nData, vx), (.nAt, vy)] := by
  cases df with
  | nil => cases h
  | cons z r => cases r with
    | nil => rfl
    | cons _ _ => exact Nat.noConfusion (Nat.succ.inj (congrArg List.length h))
theorem bindsA {self vx : Value} {df : List Value} (h : df.map av = dflt .atomInit) : (params .atomInit).zip ([self, vx] ++ df.drop ([self, vx].length + df.length - (params .atomInit).length)) = [(.nSelf, self), (.nText, vx)] := by
  cases df with
  | nil => rfl
  | cons z r => exact Nat.noConfusion (congrArg List.length h)
theorem ns_empty : NsRel (fun _ => none) (fun _ => none) := ⟨fun k v e => (by cases e), fun y x e => (by cases e)⟩
theorem find_empty (x : Str) : nsFind #[] x = none := rfl
noncomputable def wireBody (p1 p2 p3 p4 q1 q2 q3 q4 : Pos) : List Stmt := [.Assign [.Attribute (.Name N.nSelf.str p1) N.nData.str p2] (.Name N.nData.str p3) p4, .Assign [.Attribute (.Name N.nSelf.str q1) N.nAt.str q2] (.Name N.nAt.str q3) q4]
noncomputable def atomBody (p1 p2 p3 p4 : Pos) : List Stmt := [.Assign [.Attribute (.Name N.nSelf.str p1) N.nText.str p2] (.Name N.nText.str p3) p4]
theorem ctor_wire {A : Around} {vs : List Value} {Q : Kt} {X : Xt} {p1 p2 p3 p4 q1 q2 q3 q4 : Pos} (O : G.Ok) (KF : KFact G.K) (FF : FnF G .wInit (wireBody p1 p2 p3 p4 q1 q2 q3 q4) sc) (ki : findIn G.K (.ref clsWire) "__init__" = some (some (.ref F.wInit.addr)))
    (ty : typeIn G.K (.ref F.wInit.addr) = some (.type "function")) (R : Rel G l σ s) (H : AOk n l A)
    (h : ∃ x y, vs.map av = [x, y] ∧ ∀ d w, σ d = none → σ w = none → d ≠ w → Q (.ref w) ((σ.set d (.ns false (mk [(.nAt, y), (.nData, x)]))).set w (.inst clsWire d))) :
    wN (Md G) A (call (.ref clsWire) vs) (QS G l Q) (EC G l X) s := by
  obtain ⟨x, y, hvs, hq⟩ := h
  obtain ⟨vx, vy, rfl, rfl, rfl⟩ := map2 hvs
  have X0 := R.kin O
  have lim := R.nolimit O
  have fin := fun (h : Heap) (t : Nat) (es : Array DictEntry) (ep : Nat) (mm : Str → Option Value) hk hd ho h1 h2 h3 h4 => R.inst (h := h) (t := t) (Cl := clsWire) (es := es) (ep := ep) (mm := mm) (m := mk [(.nAt, av vy), (.nData, av vx)]) hk hd ho h1 h2 h3 h4
  have fr1 := R.fresh
  have fr2 := R.fresh1
  have hq := hq _ _ fr1 fr2 (Nat.ne_of_lt (Nat.lt_succ_self _))
  obtain ⟨hh, g, d, t, os⟩ := s
  dsimp only at fin fr1 fr2 hq X0 lim
  refine .of (wpAny_call (make_core (makes_of X0 KF.wire.mks) (looks_findIn X0 ki) (fun self => bind_fn X0 self ty) (.inl rfl) ?_))
  have k : ∀ b o, hh.get? b = some o → ((hh.push emptyDict).push (instObj clsWire hh.objs.size)).get? b = some o := fun b o e => Heap.get?_push_of_some _ (Heap.get?_push_of_some _ e)
  have X1 : G.K.In ((hh.push emptyDict).push (instObj clsWire hh.objs.size)) := fun b o e => k _ _ (X0 b o e)
  have sz : ((hh.push emptyDict).push (instObj clsWire hh.objs.size)).objs.size = hh.objs.size + 2 := by rw [Heap.size_push, Heap.size_push]
  have gd : ((hh.push emptyDict).push (instObj clsWire hh.objs.size)).get? hh.objs.size = some emptyDict := Heap.get?_push_of_some _ (Heap.get?_push_size _ rfl)
  have gi : ((hh.push emptyDict).push (instObj clsWire hh.objs.size)).get? (hh.objs.size + 1) = some (instObj clsWire hh.objs.size) := by
    have := Heap.get?_push_size (hh.push emptyDict) (o := instObj clsWire hh.objs.size) rfl
    rwa [Heap.size_push] at this
  refine call_fnA (s := ⟨_, g, d, t, os⟩) (vs := [.ref (hh.objs.size + 1), vx, vy]) FF X1 (lim.keeps k) (under_tc H) (Nat.le_add_right 3 1) (Nat.le_refl 3) fun env h₀ t₀ binds T hf hns keep hsz hb => ?_
  obtain ⟨df, hdf, rfl⟩ := hb
  rw [bindsW hdf] at hns
  dsimp only at hns keep hsz T hf
  have lk1 : sc.lookup N.nSelf.str = some .local := FF.locals .nSelf (.head _)
  have lk2 : sc.lookup N.nData.str = some .local := FF.locals .nData (.tail _ (.head _))
  have lk3 : sc.lookup N.nAt.str = some .local := FF.locals .nAt (.tail _ (.tail _ (.head _)))
  have ne1 : hh.objs.size ≠ hh.objs.size + 1 := Nat.ne_of_lt (Nat.lt_succ_self _)
  have ne2 : hh.objs.size ≠ ((hh.push emptyDict).push (instObj clsWire hh.objs.size)).objs.size := by rw [sz]; lia
  have off : ∀ h₁ : Heap, Heap.SameBut hh.objs.size h₀ h₁ → (∀ b o, hh.get? b = some o → h₁.get? b = some o) := fun h₁ hs b o e => by
    rw [hs.2 b (Nat.ne_of_lt (Heap.lt_size e))]; exact keep _ _ (k _ _ e)
  have KS : ∀ h₁ : Heap, (∀ b o, hh.get? b = some o → h₁.get? b = some o) → G.K.In h₁ := fun h₁ hs b o e => hs _ _ (X0 b o e)
  show wpAny _ _ (execs [_, _] env) _ _ _
  rw [execs_cons]
  refine wpAny_bind (init_line (x := .nData) (y := .nData) (mm := fun _ => none) T (KS _ (off _ (Heap.SameBut.refl _ _))) KF.wire (by unfold takerIn; rw [show (N.nData.str : Str) = "data" from rfl, KF.wData]; rfl) lk1 lk2 hns rfl rfl (keep _ _ gi) (keep _ _ gd) (fun e he => by simp at he) find_empty (by simp) fun h₁ t₁ es₁ ep₁ a1 a2 a3 a4 a5 => ?_)
  have hns₁ := hns.sameBut a1 ne2.symm
  show wpAny _ _ (execs [_] env) _ _ _
  rw [execs_cons]
  refine wpAny_bind (init_line (x := .nAt) (y := .nAt) T (KS _ (off _ a1)) KF.wire (by unfold takerIn; rw [show (N.nAt.str : Str) = "at" from rfl, KF.wAt]; rfl) lk1 lk3 hns₁ rfl rfl (by rw [a1.2 _ ne1.symm]; exact keep _ _ gi) a2 a4 a5 (by simp at a3; lia) fun h₂ t₂ es₂ ep₂ b1 b2 b3 b4 b5 => ?_)
  show wpAny _ _ (execs [] env) _ _ _
  rw [execs_nil]
  refine wpAny_pure ⟨rfl, _, fin h₂ t₂ es₂ ep₂ _ (fun b o e => ?_) b2 ?_ b4 b5 ((ns_empty.upd .nData vx).upd .nAt vy) (by simp at a3; lia), hq⟩
  · rw [b1.2 b (Nat.ne_of_lt (Heap.lt_size e))]; exact off _ a1 _ _ e
  · rw [b1.2 _ ne1.symm, a1.2 _ ne1.symm]; exact keep _ _ gi
theorem ctor_atom {A : Around} {vs : List Value} {Q : Kt} {X : Xt} {p1 p2 p3 p4 : Pos} (O : G.Ok) (KF : KFact G.K) (FF : FnF G .atomInit (atomBody p1 p2 p3 p4) sc) (ki : findIn G.K (.ref clsAtom) "__init__" = some (some (.ref F.atomInit.addr)))
    (ty : typeIn G.K (.ref F.atomInit.addr) = some (.type "function")) (R : Rel G l σ s) (H : AOk n l A)
    (h : ∃ x, vs.map av = [x] ∧ ∀ d w, σ d = none → σ w = none → d ≠ w → Q (.ref w) ((σ.set d (.ns false (mk [(.nText, x)]))).set w (.inst clsAtom d))) :
    wN (Md G) A (call (.ref clsAtom) vs) (QS G l Q) (EC G l X) s := by
  obtain ⟨x, hvs, hq⟩ := h
  obtain ⟨vx, rfl, rfl⟩ := map1 hvs
  have X0 := R.kin O
  have lim := R.nolimit O
  have fin := fun (h : Heap) (t : Nat) (es : Array DictEntry) (ep : Nat) (mm : Str → Option Value) hk hd ho h1 h2 h3 h4 => R.inst (h := h) (t := t) (Cl := clsAtom) (es := es) (ep := ep) (mm := mm) (m := mk [(.nText, av vx)]) hk hd ho h1 h2 h3 h4
  have fr1 := R.fresh
  have fr2 := R.fresh1
  have hq := hq _ _ fr1 fr2 (Nat.ne_of_lt (Nat.lt_succ_self _))
  obtain ⟨hh, g, d, t, os⟩ := s
  dsimp only at fin fr1 fr2 hq X0 lim
  refine .of (wpAny_call (make_core (makes_of X0 KF.atom.mks) (looks_findIn X0 ki) (fun self => bind_fn X0 self ty) (.inl rfl) ?_))
  have k : ∀ b o, hh.get? b = some o → ((hh.push emptyDict).push (instObj clsAtom hh.objs.size)).get? b = some o := fun b o e => Heap.get?_push_of_some _ (Heap.get?_push_of_some _ e)
  have X1 : G.K.In ((hh.push emptyDict).push (instObj clsAtom hh.objs.size)) := fun b o e => k _ _ (X0 b o e)
  have sz : ((hh.push emptyDict).push (instObj clsAtom hh.objs.size)).objs.size = hh.objs.size + 2 := by rw [Heap.size_push, Heap.size_push]
  have gd : ((hh.push emptyDict).push (instObj clsAtom hh.objs.size)).get? hh.objs.size = some emptyDict := Heap.get?_push_of_some _ (Heap.get?_push_size _ rfl)
  have gi : ((hh.push emptyDict).push (instObj clsAtom hh.objs.size)).get? (hh.objs.size + 1) = some (instObj clsAtom hh.objs.size) := by
    have := Heap.get?_push_size (hh.push emptyDict) (o := instObj clsAtom hh.objs.size) rfl
    rwa [Heap.size_push] at this
  refine call_fnA (s := ⟨_, g, d, t, os⟩) (vs := [.ref (hh.objs.size + 1), vx]) FF X1 (lim.keeps k) (under_tc H) (Nat.le_refl 2) (Nat.le_refl 2) fun env h₀ t₀ binds T hf hns keep hsz hb => ?_
  obtain ⟨df, hdf, rfl⟩ := hb
  rw [bindsA hdf] at hns
  dsimp only at hns keep hsz T hf
  have lk1 : sc.lookup N.nSelf.str = some .local := FF.locals .nSelf (.head _)
  have lk2 : sc.lookup N.nText.str = some .local := FF.locals .nText (.tail _ (.head _))
  have ne1 : hh.objs.size ≠ hh.objs.size + 1 := Nat.ne_of_lt (Nat.lt_succ_self _)
  have ne2 : hh.objs.size ≠ ((hh.push emptyDict).push (instObj clsAtom hh.objs.size)).objs.size := by rw [sz]; lia
  have off : ∀ h₁ : Heap, Heap.SameBut hh.objs.size h₀ h₁ → (∀ b o, hh.get? b = some o → h₁.get? b = some o) := fun h₁ hs b o e => by
    rw [hs.2 b (Nat.ne_of_lt (Heap.lt_size e))]; exact keep _ _ (k _ _ e)
  have KS : ∀ h₁ : Heap, (∀ b o, hh.get? b = some o → h₁.get? b = some o) → G.K.In h₁ := fun h₁ hs b o e => hs _ _ (X0 b o e)
  show wpAny _ _ (execs [_] env) _ _ _
  rw [execs_cons]
  refine wpAny_bind (init_line (x := .nText) (y := .nText) (mm := fun _ => none) T (KS _ (off _ (Heap.SameBut.refl _ _))) KF.atom (by unfold takerIn; rw [show (N.nText.str : Str) = "text" from rfl, KF.aText]; rfl) lk1 lk2 hns rfl rfl (keep _ _ gi) (keep _ _ gd) (fun e he => by simp at he) find_empty (by simp) fun h₁ t₁ es₁ ep₁ a1 a2 a3 a4 a5 => ?_)
  show wpAny _ _ (execs [] env) _ _ _
  rw [execs_nil]
  refine wpAny_pure ⟨rfl, _, fin h₁ t₁ es₁ ep₁ _ (off _ a1) a2 ?_ a4 a5 (ns_empty.upd .nText vx) (by simp at a3; lia), hq⟩
  rw [a1.2 _ ne1.symm]; exact keep _ _ gi
end
end Mine
end
section
open PySem PySem.W PySem.Calls
namespace Mine
open Sem (wp)
section
variable {prog : Program} {w : World} {A : Around} {E : Value → Shared → Prop} {R : Result → Shared → Prop} {h : Heap} {g : Array GenState} {d : Drawn} {t : Nat} {os : OsState}
variable {nm q : Str} {C N : Addr} {bs bm : List Value} {hdct : Bool} {sn : List Str} {sub : List Value} {ab : Bool} {col : Option Bool} {dd : Option Addr} {k0 k1 k2 k3 k5 : Option Value}
noncomputable abbrev excF := PySem.F.excBase_Exception
/-- a new exception object whose class stands over classes of the program -/
theorem exc_new (hcB : (Value.ref C :: bm).contains (.type "Exception") = true) (hcA : (Value.ref C :: bm).contains (.type "AttributeError") = false) (hcN : (Value.ref C :: bm).contains (.type "NameError") = false)
    {rest : List Value} (hC : h.get? C = some (excClassObj nm q C N bs bm hdct sn sub ab col dd k0 k1 k2 k3 k5 excN))
    (hq : R (.ok (.ret (.ref (h.objs.size + 1)))) ⟨(h.push { cls := .type "tuple", data := .seq rest.toArray }).push
      { cls := .ref C, data := .fields #[.ref h.objs.size, .none, .none, .none, .bool false, .none] }, g, d, t, os⟩) (hrest : rest.length ≤ sizeLine) :
    codeAny (model prog w) A (.builtin excN ⟨.ref C :: rest, []⟩) R ⟨h, g, d, t, os⟩ := by
  have hends := excF.ends
  refine codeAny_builtinAt excF.entry ?_
  unfold Builtin.«BaseException.__new__»
  refine wpAt_bind ?_
  show wpAt _ _ _ (stack >>= _) _ _ _
  refine wpAt_bind (wpAt_stack fun p below => wpAt_of_wpAny ?_)
  wp_walk
  refine wpAt_of_wpAny ?_
  rw [excF.owner]
  repeat (first | with_reducible refine wpAny_madeHere_exc excF.canon hC ?_ | with_reducible refine wpAny_loadPart_at hC ?_ | (with_reducible refine wpAny_isSubtype_exc hC ?_; first | rw [hcB] | rw [hcA] | rw [hcN]) | wp_step)
  show R _ _
  rw [Heap.size_push]
  exact hq
theorem exc_new_check (hcB : (Value.ref C :: bm).contains (.type "Exception") = true) {M : Model} {rest : List Value} {Q : Unit → Shared → Prop} (hC : h.get? C = some (excClassObj nm q C N bs bm hdct sn sub ab col dd k0 k1 k2 k3 k5 excN))
    (hq : Q () ⟨h, g, d, t, os⟩) : wpAny M A (checkBuiltinCall excN ⟨.ref C :: rest, []⟩) Q E ⟨h, g, d, t, os⟩ := by
  have hstar := excF.noStar
  unfold checkBuiltinCall
  rw [excF.newKind, excF.newSplit, excF.newRow]
  dsimp only
  repeat (first | refine wpAny_loadPart_at hC ?_ | (refine wpAny_isSubtype_exc hC ?_; rw [hcB]) | refine wpAny_staticBase_exc hC ?_ | refine wpAny_madeBy_exc hC ?_ | simp only [bne_self_eq_false, Bool.false_eq_true, if_false] | wp_step)
  exact hq
theorem exc_init_check (hcB : (Value.ref C :: bm).contains (.type "Exception") = true) {M : Model} {e : Addr} {oe : Obj} {rest : List Value} {Q : Unit → Shared → Prop}
    (hC : h.get? C = some (excClassObj nm q C N bs bm hdct sn sub ab col dd k0 k1 k2 k3 k5 excN)) (he : h.get? e = some oe) (hcls : oe.cls = .ref C) (hq : Q () ⟨h, g, d, t, os⟩) :
    wpAny M A (checkBuiltinCall "Exception.__init__" ⟨.ref e :: rest, []⟩) Q E ⟨h, g, d, t, os⟩ := by
  have hshort := excF.noStar
  unfold checkBuiltinCall
  rw [excF.initKind, excF.initSplit, excF.initRow]
  dsimp only
  repeat (first | (with_reducible refine wpAny_loadPart_at he ?_; rw [hcls]) | with_reducible refine wpAny_loadPart_at hC ?_ | (with_reducible refine wpAny_isSubtype_exc hC ?_; rw [hcB]) | wp_step)
  refine wpAny_onRaise ?_
  rw [show ∀ (a b : String) (n : Nat), Bind.check ⟨.positional, "*", "Exception", .self, [⟨"args", .varPos, false⟩]⟩ a b n (List.map (fun x => x.fst) ({ pos := Value.ref e :: rest } : Args).kw) = pure () from
    fun a b n => check_star_args _ _ _ _ _ _]
  exact wpAny_pure hq
/-- the call of such a class whose initializer is the program's -/
theorem exc_call (hcB : (Value.ref C :: bm).contains (.type "Exception") = true) (hcA : (Value.ref C :: bm).contains (.type "AttributeError") = false) (hcN : (Value.ref C :: bm).contains (.type "NameError") = false)
    {rest : List Value} {fI : Addr} {oI : Obj} {Q : Value → Shared → Prop}
    (hC : h.get? C = some (excClassObj nm q C N bs bm hdct sn sub ab col dd k0 k1 k2 k3 k5 excN)) (hi : Looks (model prog w) h (typeLookup (.ref C) "__init__") (some (.ref fI)))
    (hfI : h.get? fI = some oI) (hfc : oI.cls = .type "function")
    (hq : wpAny (model prog w) (A.under (.builtin "type.__call__" ⟨.ref C :: rest, []⟩)) (call (.ref fI) (.ref (h.objs.size + 1) :: rest)) (fun r s' => r = .none ∧ Q (.ref (h.objs.size + 1)) s') E
      ⟨(h.push { cls := .type "tuple", data := .seq rest.toArray }).push { cls := .ref C, data := .fields #[.ref h.objs.size, .none, .none, .none, .bool false, .none] }, g, d, t, os⟩) (hrest : rest.length ≤ sizeLine) :
    wpAny (model prog w) A (call (.ref C) rest) Q E ⟨h, g, d, t, os⟩ := by
  have f1 := tc_lookup
  have f2 := tc_bind (.ref C)
  have hT : (⟨h, g, d, t, os⟩ : Shared).TypeIs (.ref C) "type" := ⟨_, hC, rfl⟩
  refine wpAny_call (codeAny_of_tree ?_)
  show wpAny _ _ (callAny (.ref C) _) _ _ _
  repeat (any_goals (first | assumption | with_reducible refine wpAny_loadPart_at hC ?_ | wp_step))
  refine ⟨rfl, ?_⟩
  refine codeAny_call_builtin_at (Code.quiet_builtin _ (by decide +kernel)) entry_typeCall (wpAny_check_type_call_sub hC ?_)
  show wpAny _ _ (Builtin.«type.__call__» ⟨.ref C :: rest, []⟩) _ _ _
  repeat (first | with_reducible refine wpAny_loadPart_at hC ?_ | with_reducible refine wpAny_madeBy_exc hC ?_ | wp_step)
  refine codeAny_call_builtin_code (Code.quiet_builtin _ excF.quiet) (exc_new_check hcB hC ?_)
  refine exc_new hcB hcA hcN hC ?_ hrest
  show wpAny _ _ _ _ _ _
  have k : ∀ b o, h.get? b = some o → ((h.push { cls := .type "tuple", data := .seq rest.toArray }).push { cls := .ref C, data := .fields #[.ref h.objs.size, .none, .none, .none, .bool false, .none] }).get? b = some o :=
    fun b o e => Heap.get?_push_of_some _ (Heap.get?_push_of_some _ e)
  have hC₁ := k _ _ hC
  have hfI₁ := k _ _ hfI
  have hget : ((h.push { cls := .type "tuple", data := .seq rest.toArray }).push
      { cls := .ref C, data := .fields #[.ref h.objs.size, .none, .none, .none, .bool false, .none] }).get? (h.objs.size + 1) = some
      { cls := .ref C, data := .fields #[.ref h.objs.size, .none, .none, .none, .bool false, .none] } := by heap_get
  have hcC : (Value.ref C :: bm).contains (.ref C) = true := by simp
  unfold isInstance
  repeat (first | with_reducible refine wpAny_loadPart_at hget ?_ | (with_reducible refine wpAny_isSubtype_exc hC₁ ?_; rw [hcC]) | wp_step)
  show wpAny _ _ (typeLookup (.ref C) _) _ _ _
  refine (hi.keeps k).at ?_
  refine wpAny_holding (wpAny_bind ?_)
  unfold bindSpecial
  refine wpAny_bind (wpAny_typeOf (T := "function") ⟨_, hfI₁, hfc⟩ ?_)
  rw [if_pos (by decide)]
  refine wpAny_pure (wpAny_bind (wpAny_mono hq (fun r s' hr => ?_) fun _ _ x => x))
  obtain ⟨rfl, hQ⟩ := hr
  wp_walk
  exact hQ
end
end Mine
end
section
open PySem PySem.W PySem.Calls PyProof.Rows
namespace Mine
open Sem (wp)
section
variable {prog : Program} {w : World} {A : Around} {E : Value → Shared → Prop} {s : Shared} {K : Frag}
/-- a name looked up at a class of the table -/
theorem method_cls {T : String} {name : Str} {v : Value} {pl : Sem Bool} {Q : Value × List Value → Shared → Prop} (X : K.In s.heap) (ht : typeOf (.type T) = pure (.type "type")) (hs : Manifest.isStub T = false)
    (e : findCls K (.type T) (.type "type") name = some (.val v)) (hh : handedIn v = true) (h : Q (v, []) { s with toks := s.toks + 1 }) : wpAny (model prog w) A (getMethod (.type T) name pl) Q E s := by
  have hstub : opaqueClassAbove (.type T) = pure none := by unfold opaqueClassAbove; dsimp only; rw [hs]; rfl
  have L0 : Looks (model prog w) s.heap (typeOf (.type T)) (.type "type") := Looks.of_pure ht
  have hg : findIn K (.type "type") "__getattribute__" = some (some (.builtin "type.__getattribute__")) := type_tga
  unfold getMethod specialOf
  refine wpAny_bind (wpAny_bind (L0.here ((looks_findIn X hg).here ?_)))
  dsimp only
  rw [if_pos canon_tga]
  refine wpAny_bind (wpAny_mono (Q := fun v => Q (v, [])) (E := E) ?_ (fun _ _ z => wpAny_pure z) fun _ _ z => z)
  have LO : Looks (model prog w) s.heap (opaqueClassAbove (.type T)) none := Looks.of_pure hstub
  refine cls_open X LO L0 hg (looks_hook X (r := none) (by rfl)) (by show subIn K _ _ = _; rfl) e
    (wpAny_pure (by show wpAny _ _ (handedOut v) _ _ _; rw [handedOut_of hh]; exact wpAny_pure h))
variable {nm q : Str} {C N : Addr} {bs bm : List Value} {hdct : Bool} {sn : List Str} {sub : List Value} {ab : Bool} {col : Option Bool} {dd : Option Addr} {k0 k1 k2 k3 k5 : Option Value}
/-- the builtin initializer -/
theorem exc_init (hcB : (Value.ref C :: bm).contains (.type "Exception") = true) {e t0 : Addr} {ob : Obj} {vs : Array Value} {rest : List Value} {Q : Value → Shared → Prop}
    (hC : s.heap.get? C = some (excClassObj nm q C N bs bm hdct sn sub ab col dd k0 k1 k2 k3 k5 excN)) (he : s.heap.get? e = some ob) (hcls : ob.cls = .ref C) (hd : ob.data = .fields vs) (h0 : vs[0]? = some (.ref t0))
    (h : Q .none { s with heap := (s.heap.push { cls := .type "tuple", data := .seq rest.toArray }).update e (Obj.mapFields (·.setIfInBounds 0 (.ref s.heap.objs.size))) }) (hrest : rest.length ≤ sizeLine) :
    wpAny (model prog w) A (call (.builtin "Exception.__init__") (.ref e :: rest)) Q E s := by
  obtain ⟨hp, g, d, tk, os⟩ := s
  refine wpAny_call (codeAny_call_builtin excF.init.plain excF.initEntry (exc_init_check hcB hC he hcls ?_))
  unfold Builtin.«BaseException.__init__»
  dsimp only
  rw [if_neg (by simp)]
  unfold newTuple Builtin.BaseException.bexcPut
  have hsz : 0 < vs.size := (Array.getElem?_eq_some_iff.mp h0).1
  have he₁ := Heap.get?_push_of_some (h := hp) { cls := .type "tuple", data := .seq rest.toArray } he
  refine wpAny_bind (wpAny_newObj_type (wpAny_bind (wpAny_bind (wpAny_field he₁ hd h0 (wpAny_bind (wpAny_setField he₁ hd hsz ?_))))) (by show rest.toArray.size ≤ sizeLine; rw [List.size_toArray]; exact hrest))
  exact wpAny_letGo (wpAny_pure h)
end
section
variable {G : Glob} {l : List Env} {σ : St} {s : Shared} {A : Around} {E : Value → Shared → Prop}
theorem isRf_ok {v : Value} (h : isRf v = true) : ∃ a, v = .ref a := Value.ref.elim (motive := fun v => ∃ a, v = .ref a) v (beq_iff_eq.mp h) fun a => ⟨a, rfl⟩
theorem pass_ind {P : List Value → Prop} (h0 : P topMro) (h1 : ∀ a r, P r → P (.ref a :: r)) : ∀ {l : List Value}, mroPass l = true → P l := by
  intro l
  induction l with
  | nil => exact fun h => (Bool.false_ne_true h).elim
  | cons v r ih =>
    intro h
    rcases Bool.or_eq_true_iff.mp h with h | h
    · rw [of_decide_eq_true h]; exact h0
    · have h := Bool.and_eq_true_iff.mp h
      obtain ⟨a, rfl⟩ := isRf_ok h.1
      exact h1 a r (ih h.2)
theorem pass_refuse (self : Value) {l : List Value} (e : mroPass l = true) : refuseLoop self "__setattr__" l = pure () :=
  pass_ind (P := fun l => refuseLoop self "__setattr__" l = pure ()) (PySem.F.store_Exception.passes self) (fun a r h => by rw [refuseLoop_ref]; exact h) e
theorem pass_has {l : List Value} (e : mroPass l = true) : l.contains (.type "object") = true :=
  pass_ind (P := fun l => l.contains (.type "object") = true) (by decide) (fun a r h => h) e
theorem osaB_open {prog : Program} {w : World} {A : Around} {s : Shared} {K : Frag} {x C : Addr} {R : Result → Shared → Prop} {ox : Obj} {od : Option Obj} {name : Str} {tk : Tok} {v : Value} {r : Option Value} (X : K.In s.heap) (I : InstAt s.heap x ox C od) (hp : excOver K C = true) (ht : takerIn K C name = some r)
    (h : ∀ b, wpAny (model prog w) A.in1 (match r with | some a => Builtin.ObjectAttr.setByDescriptor a (.ref x) v | none => Builtin.ObjectAttr.storeInOwnDict (.ref x) (.ref C) (.str name tk) name v b)
      (fun fin s' => match fin with | .done f => R (.ok f) s' | .again c' => c'.quiet = true ∧ codeAny (model prog w) A c' R s') (fun e s' => R (.error e) s') s) :
    codeAny (model prog w) A (.call (.builtin "object.__setattr__") ⟨[.ref x, .str name tk, v], []⟩) R s := by
  have SF := PySem.F.store_object
  obtain ⟨cd, hc, ho⟩ := any_some hp
  have ne : cd.mro.isEmpty = false := by cases q : cd.mro with | nil => rw [q] at ho; cases ho | cons _ _ => rfl
  have sub : Looks (model prog w) s.heap (isInstance (.ref x) (.type "object")) true := I.type.andThen (looks_mroIn X (by unfold mroIn; rw [hc, Option.bind_some, if_neg (by rw [ne]; decide), pass_has ho]))
  refine codeAny_call_builtin SF.slot.plain SF.entry (@check_slot (model prog w) _ _ s "object.__setattr__" "object" "__setattr__" (.ref x) [.str name tk, v] [] _ SF.kind SF.split sub (SF.args (.ref x) (.str name tk) v) ?_)
  obtain ⟨attr, ha, hr⟩ := Option.bind_eq_some_iff.mp ht
  have hm : Looks (model prog w) s.heap (mroOf (.ref C)) cd.mro := (looks_clsIn X hc).andThen .now
  have L3 : Looks (model prog w) s.heap (Builtin.ObjectAttr.storeTaker? attr) r := by
    cases attr with
    | none => cases hr; exact .now
    | some a =>
      obtain ⟨b, hb, rfl⟩ := Option.map_eq_some_iff.mp hr
      refine (looks_takesIn X hb).andThen ?_
      cases b <;> exact .now
  rw [osa_eq, refuse_eq]
  refine wpAny_bind (wpAny_bind (I.type.here (wpAny_bind (hm.here ?_))))
  rw [pass_refuse _ ho]
  refine wpAny_pure (wpAny_bind (I.type.here (wpAny_bind ((looks_findIn X ha).here (wpAny_bind (L3.here ?_))))))
  exact h _
/-- what the class of the fault has to be -/
structure FaultF (K : Frag) : Prop where
  sa : findIn K (.ref clsFault) "__setattr__" = some (some (.builtin "object.__setattr__"))
  po : excOver K clsFault = true
  hd : hasDictIn K clsFault = true
  tw : takerIn K clsFault N.nWhat.str = some none
  ta : takerIn K clsFault N.nAt.str = some none
/-- the first store: the dict is made here -/
theorem set_first {a Cl : Addr} {vs : Array Value} {name : Str} {v : Value} {Q : Unit → Shared → Prop} (X : G.K.In s.heap)
    (h1 : findIn G.K (.ref Cl) "__setattr__" = some (some (.builtin "object.__setattr__"))) (h2 : hasDictIn G.K Cl = true) (po : ∃ r, takerIn G.K Cl name = some r ∧ r = none)
    (hp : excOver G.K Cl = true) (ha : s.heap.get? a = some { cls := .ref Cl, data := .fields vs }) (ka : G.K.lookup a = none)
    (h : ∀ h' t' es' ep', (∀ b o, b ≠ a → s.heap.get? b = some o → h'.get? b = some o) → h'.get? a = some { cls := .ref Cl, dict := some s.heap.objs.size, data := .fields vs } →
      h'.get? s.heap.objs.size = some { cls := .type "dict", data := .dict es' ep' } → es'.size ≤ 1 → StrKeys es' → (∀ x, nsFind es' x = if x = name then some v else none) → h'.objs.size = s.heap.objs.size + 1 → Q () { s with heap := h', toks := t' }) :
    wpAny (Md G) A (setAttr (.ref a) name v) Q E s := by
  obtain ⟨_, ht, rfl⟩ := po
  have I : InstAt s.heap a { cls := .ref Cl, data := .fields vs } Cl none := ⟨ha, rfl, rfl, trivial⟩
  refine set_plain X I h1 (osaB_open X I hp ht fun b => ?_)
  obtain ⟨cd, hc, hd'⟩ := any_some h2
  have hlt := Heap.lt_size ha
  refine wpAny_bind (wpAny_pure (wpAny_bind (wpAny_bind (wpAny_loadPart ha (wpAny_bind ((looks_clsIn X hc).at ?_))))))
  rw [hd']
  have ha₁ : (s.heap.push emptyDict).get? a = some { cls := .ref Cl, data := .fields vs } := Heap.get?_push_of_some _ ha
  have hne : s.heap.objs.size ≠ a := Nat.ne_of_gt hlt
  refine wpAny_bind (wpAny_alloc (wpAny_bind (wpAny_update ha₁ (wpAny_pure (wpAny_bind (wpAny_pure (wpAny_bind ?_)))))))
  have hd₂ : ((s.heap.push emptyDict).update a fun o => { o with dict := some s.heap.objs.size }).get? s.heap.objs.size = some emptyDict := by
    rw [Heap.get?_update_other _ _ hne.symm]; exact Heap.get?_push_size _ rfl
  refine nsSet_put (s := { s with heap := _, toks := s.toks + 1 }) (mm := fun _ => none) hd₂ (fun e he => by simp at he) find_empty fun h' es' ep' e1 e2 e3 e4 e5 => ?_
  refine wpAny_bind (wpAny_lookBehind e2 (pastItsLine_dict (by rw [sizeLine_eq]; simp at e3; lia)) ?_)
  refine wpAny_pure (h h' _ es' ep' (fun b o hb e => ?_) ?_ e2 (by simpa using e3) e4 e5 ?_)
  · rw [e1.2 b (Nat.ne_of_lt (Heap.lt_size e)), Heap.get?_update_other _ _ (Ne.symm hb)]
    exact Heap.get?_push_of_some _ e
  · rw [e1.2 a hne.symm]
    exact Heap.get?_update_self _ ha₁ rfl
  · rw [e1.1]; simp [Heap.update, Heap.push]
end
end Mine
end
section
open PySem PySem.W PySem.Calls PyProof.Rows
set_option genSizeOf false
set_option genInjectivity false
namespace Mine
open Sem (wp)
/-- the initializer of the base of all errors -/
inductive InitD (G : Glob) (a : Addr) (body : List Stmt) (sc : List (Str × NameKind)) : Prop where
  | mk (o : Obj) (fd : FuncData) : G.K.lookup a = some o → o.cls = .type "function" → o.data = .func fd → fd.body = .stmts body → fd.scope.names = sc → fd.scope.kind = .function → fd.scope.isCoroutine = false → fd.scope.isGenerator = false → fd.globals = mainGlobals → fd.builtins = builtinsNs →
    (∀ h : Heap, G.K.In h → h.CodeRec fd.code fd.qualname) → (∀ (u v w : Value) (s : Shared), G.K.In s.heap → BindsTo s fd ⟨[u, v, w], []⟩ [(N.nSelf.str, u), (N.nWhat.str, v), (N.nAt.str, w)]) → InitD G a body sc
structure InitF (G : Glob) (a : Addr) (body : List Stmt) (sc : List (Str × NameKind)) : Prop where
  fd : InitD G a body sc
  nocell : ∀ x ∈ sc, x.2 ≠ .cell
  noask : (sc.lookup N.nAsked.str).isSome = false
  l1 : sc.lookup N.nSelf.str = some .local
  l2 : sc.lookup N.nWhat.str = some .local
  l3 : sc.lookup N.nAt.str = some .local
  ex : sc.lookup (Str.ofString "Exception") = some .globalImplicit
section
variable {G : Glob} {n : Nat} {sc : List (Str × NameKind)} {l : List Env} {σ : St} {s : Shared}
theorem call_init {a : Addr} {body : List Stmt} {A : Around} {u v w : Value} {R : Result → Shared → Prop} (FF : InitF G a body sc) (X0 : G.K.In s.heap) (hlim : s.heap.NoLimit) (hroom : A.depth < recursionLimit)
    (h : ∀ env h₀ t, At env s.heap.objs.size none sc → h₀.Ns s.heap.objs.size (fun x => [(N.nAt.str, w), (N.nWhat.str, v), (N.nSelf.str, u)].lookup x) → (∀ b o, s.heap.get? b = some o → h₀.get? b = some o) → h₀.objs.size = s.heap.objs.size + 1 →
      wpAny (Md G) (A.deeper env) (execs body env) (fun f s' => R (.ok (.ret (match f with | .ret v => v | _ => .none))) s') (fun _ _ => False) { s with heap := h₀, toks := t }) :
    codeAny (Md G) A (.call (.ref a) ⟨[u, v, w], []⟩) R s := by
  obtain ⟨o, fd, k1, _, k2, k3, k4, k5, k6, k7, k8, k9, k10, k12⟩ := FF.fd
  have hcd := k10 s.heap X0
  obtain ⟨c, oc, ws, tq, hc, hoc, hdc, hq⟩ := hcd
  refine codeAny_of_tree ?_
  show wpAny _ A.in1 (callAny (.ref a) ⟨[u, v, w], []⟩) _ _ s
  simp only [callAny]
  refine wpAny_bind (wpAny_load (X0 _ _ k1) ?_)
  simp only [k2, callFunction, k6, k7, k3, hc]
  refine wpAny_bind (m := field (.ref c) 1) (wpAny_field hoc hdc hq ?_)
  refine wpAny_bind (wpAny_pure (wpAny_bind (k12 u v w s X0 _ _ _ _ ?_)))
  refine wpAny_bind (wpAny_newFunctionEnv (by rw [k4]; exact FF.nocell) (fun x hx => ?_) (fun h₀ hns hsb => ?_) k5)
  · rw [k4]
    simp only [List.mem_cons, List.not_mem_nil, or_false] at hx
    rcases hx with rfl | rfl | rfl
    · exact FF.l1
    · exact FF.l2
    · exact FF.l3
  have keep : ∀ b o, s.heap.get? b = some o → h₀.get? b = some o := fun b o e => hsb.extBut b o (Nat.ne_of_lt (Heap.lt_size e)) (Heap.get?_push_of_some _ e)
  generalize henv : newEnv fd.scope s.heap.objs.size fd.globals fd.closure (fd.qualname ++ ".<locals>.") (some a) (.ref c) none fd.builtins = env
  have e1 : env.scope = fd.scope := by subst henv; rfl
  have e3 : env.locals = s.heap.objs.size := by subst henv; rfl
  have e4 : env.globals = fd.globals := by subst henv; rfl
  have e5 : env.builtins = fd.builtins := by subst henv; rfl
  have T : At env s.heap.objs.size none sc := ⟨by rw [e1, k5], e3, by rw [e4, k8], by rw [e5, k9], fun c e => (by cases e), by rw [e1, k4], fun q => (by rw [FF.noask] at q; cases q)⟩
  refine wpAny_bind (wpAny_enterFrame (hlim.keeps keep) hroom (wpAny_pure (And.intro rfl (codeAny_func (wpAny_mono (h env h₀ _ T hns keep (by rw [hsb.1, Heap.size_push])) (fun _ _ z => z) fun _ _ z => z.elim)))))
theorem name_loc {env : Env} {A : Around} {E : Value → Shared → Prop} {L : Addr} {mf : Str → Option Value} {y : N} {v : Value} {p : Pos} {Q : Value → Shared → Prop} (T : At env L none sc) (k2 : sc.lookup y.str = some .local) (hL : s.heap.Ns L mf) (f2 : mf y.str = some v) (h : Q v s) :
    wpAny (Md G) A (eval (.Name y.str p) env) Q E s :=
  wpAny_Name (wpAny_loadName_local T.kind (by rw [T.kindOf]; exact k2) (by rw [T.locals]; exact hL) f2 h) (not_debug y)
/-- a call of a builtin with two plain arguments -/
theorem call_two {M : Model} {A : Around} {E : Value → Shared → Prop} {s : Shared} {id : String} {x y : Sem Value} {p : Pos} {Q : Value → Shared → Prop}
    (h : wpAny M A x (fun u s₁ => wpAny M A y (fun v s₂ => wpAny M A (call (.builtin id) [u, v]) Q E s₂) E s₁) E s) : wpAny M A (callWith p (.builtin id) [] [(false, x), (false, y)] []) Q E s :=
  Calls.callWith_builtin rfl (Calls.evalArgs_plain (Calls.spliced_cons (wpAny_mono h (fun u s₁ h₁ => Calls.spliced_cons (wpAny_mono h₁ (fun v s₂ h₂ => Calls.spliced_nil h₂) fun _ _ x => x)) fun _ _ x => x)))
theorem excFind : findCls [] (.type "Exception") (.type "type") "__init__" = some (.val (.builtin "Exception.__init__")) := by kernel_rfl
theorem excTy : typeOf (.type "Exception") = pure (.type "type") := by kernel_rfl
theorem excStub : Manifest.isStub "Exception" = false := by decide +kernel
set_option maxHeartbeats 4000000 in
/-- `Exception.__init__(self, what)` -/
theorem exc_line {env : Env} {A : Around} {E : Value → Shared → Prop} {L a : Addr} {mf : Str → Option Value} {v : Value} {p1 p2 p3 p4 p5 p6 : Pos} {Q : Flow → Shared → Prop} (O : G.Ok) (T : At env L none sc) (hx : (p2.endLine == p5.line) = true) (hk : sc.lookup (Str.ofString "Exception") = some .globalImplicit) (hg0 : G.mg "Exception" = none)
    (X : G.K.In s.heap) (hg : s.heap.Ns mainGlobals G.mg) (hb : s.heap.Ns builtinsNs G.mb)
    (k1 : sc.lookup N.nSelf.str = some .local) (k2 : sc.lookup N.nWhat.str = some .local) (hL : s.heap.Ns L mf) (f1 : mf N.nSelf.str = some (.ref a)) (f2 : mf N.nWhat.str = some v)
    (fc : ∀ t, wpAny (Md G) A (call (.builtin "Exception.__init__") [.ref a, v]) (fun r s' => r = .none ∧ Q .next s') E { s with toks := t }) :
    wpAny (Md G) A (exec (.Expr (.Call (.Attribute (.Name "Exception" p1) "__init__" p2) [.Name N.nSelf.str p3, .Name N.nWhat.str p4] [] p5) p6) env) Q E s := by
  rw [exec_Expr env _ p6 (inter_no T.kind) (swaps_no rfl)]
  refine wpAny_bind (wpAny_standAt (wpAny_bind ?_))
  show wpAny _ _ (do
    let ov ← attributeBase (.Name "Exception" p1) "__init__" env (eval (.Name "Exception" p1) env)
    standAt p2.atName
    methodCall (.Name "Exception" p1) "__init__" p2 p5 env ov (2 + 0) (backTo p5 (starEach [.Name N.nSelf.str p3, .Name N.nWhat.str p4] env)) []) _ _ _
  rw [base_plain rfl]
  refine wpAny_bind (Name_function_global T.kind (by rw [T.kindOf]; exact hk) (loadGlobal_builtin (by rw [T.globals]; exact hg) hg0 (by rw [T.builtins]; exact hb) ((O.builtins "Exception" (by decide)).trans (show bootBuiltins "Exception" = some (.type "Exception") by decide +kernel)) ?_) (by decide))
  refine wpAny_bind (wpAny_standAt ?_)
  unfold methodCall
  rw [show methodCallForm (2 + 0) (backTo p5 (starEach [.Name N.nSelf.str p3, .Name N.nWhat.str p4] env)) [] = true from rfl]
  refine wpAny_bind (wpAny_holding ?_)
  unfold calleeOf
  have fi : findCls G.K (.type "Exception") (.type "type") "__init__" = some (.val (.builtin "Exception.__init__")) := excFind
  refine method_cls X excTy excStub fi rfl ?_
  refine wpAny_bind ?_
  unfold methodCallPos
  rw [hx]
  refine wpAny_pure ?_
  have eb : backTo p5 (starEach [.Name N.nSelf.str p3, .Name N.nWhat.str p4] env) = [(false, eval (.Name N.nSelf.str p3) env), (false, eval (.Name N.nWhat.str p4) env)] := by
    rw [starEach_cons rfl, starEach_cons rfl, show starEach [] env = [] from rfl]
    delta backTo; simp only [List.map_cons, List.map_nil, Bool.false_eq_true, if_false]
  rw [eb]
  refine call_two ?_
  refine wpAny_Name (wpAny_loadName_local (v := .ref a) T.kind (by rw [T.kindOf]; exact k1) (by rw [T.locals]; exact hL) f1 ?_) (not_debug .nSelf)
  refine wpAny_Name (wpAny_loadName_local (v := v) T.kind (by rw [T.kindOf]; exact k2) (by rw [T.locals]; exact hL) f2 ?_) (not_debug .nWhat)
  have fc' := fc (s.toks + 1)
  refine wpAny_mono fc' (fun r s' h => ?_) fun _ _ x => x
  obtain ⟨rfl, h⟩ := h
  rw [dropValue_plain (by simp)]
  exact wpAny_pure h
end
end Mine
end
section
open PySem PySem.W PySem.Calls PyProof.Rows
namespace Mine
open Sem (wp)
section
variable {G : Glob} {n : Nat} {sc : List (Str × NameKind)} {l : List Env} {σ : St} {s : Shared}
/-- a store at an exception object that has its dict -/
theorem set_second {A : Around} {E : Value → Shared → Prop} {a Cl d : Addr} {vs : Array Value} {es : Array DictEntry} {ep : Nat} {mm : Str → Option Value} {name : Str} {v : Value} {Q : Unit → Shared → Prop} (X : G.K.In s.heap)
    (h1 : findIn G.K (.ref Cl) "__setattr__" = some (some (.builtin "object.__setattr__"))) (h2 : hasDictIn G.K Cl = true) (ht : takerIn G.K Cl name = some none) (hp : excOver G.K Cl = true)
    (ha : s.heap.get? a = some { cls := .ref Cl, dict := some d, data := .fields vs }) (hd : s.heap.get? d = some { cls := .type "dict", data := .dict es ep }) (hk : StrKeys es) (hf : ∀ x, nsFind es x = mm x) (hz : es.size ≤ 90)
    (h : ∀ h' t' es' ep', Heap.SameBut d s.heap h' → h'.get? d = some { cls := .type "dict", data := .dict es' ep' } → es'.size ≤ es.size + 1 → StrKeys es' → (∀ x, nsFind es' x = if x = name then some v else mm x) → Q () { s with heap := h', toks := t' }) :
    wpAny (Md G) A (setAttr (.ref a) name v) Q E s := by
  have I : InstAt s.heap a { cls := .ref Cl, dict := some d, data := .fields vs } Cl (some { cls := .type "dict", data := .dict es ep }) := ⟨ha, rfl, rfl, hd⟩
  refine set_plain X I h1 (osaB_open X I hp ht fun b => ?_)
  obtain ⟨cd, hc, hd'⟩ := any_some h2
  refine wpAny_bind (wpAny_pure (wpAny_bind (wpAny_bind (wpAny_loadPart ha (wpAny_bind ((looks_clsIn X hc).at ?_))))))
  rw [hd']
  refine wpAny_pure (a := some d) (wpAny_bind (wpAny_pure (wpAny_bind ?_)))
  refine nsSet_put (s := { s with toks := s.toks + 1 }) hd hk hf fun h' es' ep' e1 e2 e3 e4 e5 => ?_
  refine wpAny_bind (wpAny_lookBehind e2 (pastItsLine_dict (by rw [sizeLine_eq]; lia)) ?_)
  exact wpAny_pure (h _ _ es' ep' e1 e2 e3 e4 e5)
/-- a line `self.x = y` over any store -/
theorem attr_line {A : Around} {E : Value → Shared → Prop} {env : Env} {L a : Addr} {mf : Str → Option Value} {x y : N} {v : Value} {p1 p2 p3 p4 : Pos} {Q : Flow → Shared → Prop} (T : At env L none sc)
    (k1 : sc.lookup N.nSelf.str = some .local) (k2 : sc.lookup y.str = some .local) (hL : s.heap.Ns L mf) (f1 : mf N.nSelf.str = some (.ref a)) (f2 : mf y.str = some v)
    (h : wpAny (Md G) A (setAttr (.ref a) x.str v) (fun _ s' => Q .next s') E s) :
    wpAny (Md G) A (exec (.Assign [.Attribute (.Name N.nSelf.str p1) x.str p2] (.Name y.str p3) p4) env) Q E s := by
  rw [plainObj_exec_Assign_Attribute (.Name N.nSelf.str p1) x.str p2 (.Name y.str p3) p4 rfl]
  refine wpAny_bind (wpAny_standAt (wpAny_bind ?_))
  refine wpAny_Name (wpAny_loadName_local T.kind (by rw [T.kindOf]; exact k2) (by rw [T.locals]; exact hL) f2 ?_) (not_debug y)
  rw [assign_Attribute]
  refine wpAny_bind (wpAny_bind (wpAny_holding ?_))
  refine wpAny_Name (wpAny_loadName_local T.kind (by rw [T.kindOf]; exact k1) (by rw [T.locals]; exact hL) f1 ?_) (not_debug .nSelf)
  refine wpAny_bind (wpAny_standAt (wpAny_bind (wpAny_holding (wpAny_mono h (fun _ s' h' => ?_) fun _ _ x => x))))
  exact wpAny_release (wpAny_pure h')
/-- the fault in the abstract state -/
theorem Rel.fault (R : Rel G l σ s) {h : Heap} {t : Nat} {d e : Addr} {es : Array DictEntry} {ep : Nat} {mm : Str → Option Value} {m : N → Option V} {vs : Array Value} (hk : ∀ b o, s.heap.get? b = some o → h.get? b = some o)
    (hd0 : s.heap.get? d = none) (he0 : s.heap.get? e = none) (hne : d ≠ e) (hfr : ∀ env ∈ l, env.frame ≠ some e)
    (hd : h.get? d = some { cls := .type "dict", data := .dict es ep }) (ho : h.get? e = some { cls := .ref clsFault, dict := some d, data := .fields vs }) (h1 : StrKeys es) (h2 : ∀ x, nsFind es x = mm x) (h3 : NsRel mm m) (h4 : es.size ≤ 100) (h5 : 5 ≤ vs.size) (h6 : vs[1]? = some .none) :
    Rel G l ((σ.set d (.ns false m)).set e (.exn clsFault d)) { s with heap := h, toks := t } := by
  have R₁ : Rel G l (σ.set d (.ns false m)) { s with heap := h, toks := t } := R.new hk hd0 hd ⟨es, ep, mm, rfl, h1, h2, h3, fun _ => ⟨rfl, h4⟩⟩
  refine R₁.track ?_ ho ⟨rfl, rfl, vs, rfl, h5, h6⟩ hfr
  cases q : G.base.get? e with
  | none => rfl
  | some o => have := R.base _ _ q; rw [he0] at this; cases this
end
end Mine
end
section
open PySem PySem.W PySem.Calls PyProof.Rows
namespace Mine
open Sem (wp)
theorem two_of {vs : List Value} {u w : V} (h : vs.map av = [u, w]) : ∃ a b, vs = [a, b] ∧ av a = u ∧ av b = w := by
  exact map2 h
noncomputable def faultBody (p1 p2 p3 p4 p5 p6 q1 q2 q3 q4 r1 r2 r3 r4 : Pos) : List Stmt :=
  [.Expr (.Call (.Attribute (.Name "Exception" p1) "__init__" p2) [.Name N.nSelf.str p3, .Name N.nWhat.str p4] [] p5) p6,
   .Assign [.Attribute (.Name N.nSelf.str q1) N.nWhat.str q2] (.Name N.nWhat.str q3) q4,
   .Assign [.Attribute (.Name N.nSelf.str r1) N.nAt.str r2] (.Name N.nAt.str r3) r4]
section
variable {G : Glob} {n : Nat} {sc : List (Str × NameKind)} {l : List Env} {σ : St} {s : Shared}
variable {nm q : Str} {N₀ : Addr} {bs bm : List Value} {hdct : Bool} {sn : List Str} {sub : List Value} {ab : Bool} {col : Option Bool} {dd : Option Addr} {k0 k1 k2 k3 k5 : Option Value}
set_option maxHeartbeats 4000000 in
theorem ctor_fault {A : Around} {vs : List Value} {Q : Kt} {X : Xt} {fI : Addr} {p1 p2 p3 p4 p5 p6 q1 q2 q3 q4 r1 r2 r3 r4 : Pos} (O : G.Ok) (FF : InitF G fI (faultBody p1 p2 p3 p4 p5 p6 q1 q2 q3 q4 r1 r2 r3 r4) sc) (FK : FaultF G.K) (hx : (p2.endLine == p5.line) = true) (hg0 : G.mg "Exception" = none)
    (hcB : (Value.ref clsFault :: bm).contains (.type "Exception") = true) (hcA : (Value.ref clsFault :: bm).contains (.type "AttributeError") = false) (hcN : (Value.ref clsFault :: bm).contains (.type "NameError") = false)
    (hC : G.K.lookup clsFault = some (excClassObj nm q clsFault N₀ bs bm hdct sn sub ab col dd k0 k1 k2 k3 k5 excN)) (ki : findIn G.K (.ref clsFault) "__init__" = some (some (.ref fI))) (R : Rel G l σ s) (H : AOk n l A)
    (h : ∃ what i, vs.map av = [.str what, .int i] ∧ ∀ d e, σ d = none → σ e = none → d ≠ e → Q (.ref e) ((σ.set d (.ns false (mk [(.nAt, .int i), (.nWhat, .str what)]))).set e (.exn clsFault d))) :
    wN (Md G) A (call (.ref clsFault) vs) (QS G l Q) (EC G l X) s := by
  obtain ⟨x, y, hvs, hq⟩ := h
  obtain ⟨vx, vy, rfl, ex, ey⟩ : ∃ vx vy, vs = [vx, vy] ∧ av vx = .str x ∧ av vy = .int y := two_of hvs
  have X0 := R.kin O
  have lim := R.nolimit O
  have Rg := R.g O
  have Rb := R.b O
  have R' := R
  obtain ⟨o, fd, f1, f2, _, _, _, _, _, _, _, _, _, _⟩ := FF.fd
  obtain ⟨hh, g, d, t, os⟩ := s
  dsimp only at X0 lim Rg Rb
  refine .of (exc_call hcB hcA hcN (X0 _ _ hC) (looks_findIn X0 ki) (X0 _ _ f1) f2 ?_ (by simp [sizeLine_eq]))
  generalize hob : ({ cls := .ref clsFault, data := .fields #[.ref hh.objs.size, .none, .none, .none, .bool false, .none] } : Obj) = oe
  generalize hot : ({ cls := .type "tuple", data := .seq [vx, vy].toArray } : Obj) = ot
  have k : ∀ b o, hh.get? b = some o → ((hh.push ot).push oe).get? b = some o := fun b o e => Heap.get?_push_of_some _ (Heap.get?_push_of_some _ e)
  have sz : ((hh.push ot).push oe).objs.size = hh.objs.size + 2 := by rw [Heap.size_push, Heap.size_push]
  have ge : ((hh.push ot).push oe).get? (hh.objs.size + 1) = some oe := by
    have := Heap.get?_push_size (hh.push ot) (o := oe) (by subst hob; rfl)
    rwa [Heap.size_push] at this
  refine wpAny_call (call_init (s := ⟨_, g, d, t, os⟩) FF (fun b o e => k _ _ (X0 b o e)) (lim.keeps k) (under_tc H) fun env h₀ t₀ T hns keep hsz => ?_)
  dsimp only at T hns keep hsz
  have k₀ : ∀ b o, hh.get? b = some o → h₀.get? b = some o := fun b o e => keep _ _ (k _ _ e)
  have big : ∀ b o, hh.get? b = some o → b < hh.objs.size := fun b o e => Heap.lt_size e
  show wpAny _ _ (execs [_, _, _] env) _ _ _
  rw [execs_cons]
  refine wpAny_bind (exc_line O T hx FF.ex hg0 (fun b o e => k₀ _ _ (X0 b o e)) (Rg.keeps k₀) (Rb.keeps k₀) FF.l1 FF.l2 hns rfl rfl fun t₁ => ?_)
  refine exc_init hcB (k₀ _ _ (X0 _ _ hC)) (keep _ _ ge) (by subst hob; rfl) (by subst hob; rfl) (by rfl) ⟨rfl, ?_⟩ (by simp [sizeLine_eq])
  have g₀ := keep _ _ ge
  have fd : oe.data = .fields #[.ref hh.objs.size, .none, .none, .none, .bool false, .none] := by subst hob; rfl
  generalize hhA : (h₀.push { cls := .type "tuple", data := .seq [vx].toArray }).update (hh.objs.size + 1) (Obj.mapFields (·.setIfInBounds 0 (.ref h₀.objs.size))) = hA
  have gA : hA.get? (hh.objs.size + 1) = some { cls := .ref clsFault, data := .fields #[.ref h₀.objs.size, .none, .none, .none, .bool false, .none] } := by
    subst hhA hob
    rw [Heap.get?_update_self _ (Heap.get?_push_of_some _ g₀) rfl]; rfl
  have kA : ∀ b o, b ≠ hh.objs.size + 1 → h₀.get? b = some o → hA.get? b = some o := fun b o hb e => by
    subst hhA
    rw [Heap.get?_update_other _ _ (Ne.symm hb)]; exact Heap.get?_push_of_some _ e
  have szA : hA.objs.size = hh.objs.size + 4 := by
    subst hhA
    rw [(Heap.SameBut.update ..).1, Heap.size_push, hsz, sz]
  have neq : ∀ b o, hh.get? b = some o → b ≠ hh.objs.size + 1 := fun b o e => Nat.ne_of_lt (Nat.lt_succ_of_lt (big b o e))
  have kA' : ∀ b o, hh.get? b = some o → hA.get? b = some o := fun b o e => kA b o (neq b o e) (k₀ b o e)
  have Lne : ((hh.push ot).push oe).objs.size ≠ hh.objs.size + 1 := by rw [sz]; exact Nat.ne_of_gt (Nat.lt_succ_self _)
  have hnsA : hA.Ns ((hh.push ot).push oe).objs.size (fun x => [(N.nAt.str, vy), (N.nWhat.str, vx), (N.nSelf.str, .ref (hh.objs.size + 1))].lookup x) := by
    obtain ⟨o, es, ep, e1, e2⟩ := hns
    exact ⟨o, es, ep, kA _ _ Lne e1, e2⟩
  show wpAny _ _ (execs [_, _] env) _ _ _
  rw [execs_cons]
  refine wpAny_bind (attr_line (x := .nWhat) (y := .nWhat) T FF.l1 FF.l2 hnsA rfl rfl ?_)
  refine set_first (fun b o e => kA' _ _ (X0 b o e)) FK.sa FK.hd ⟨_, FK.tw, rfl⟩ FK.po gA (by
    cases q : G.K.lookup (hh.objs.size + 1) with
    | none => rfl
    | some o => exact absurd rfl (neq _ _ (X0 _ _ q))) fun hB tB esB epB b1 b2 b3 b4 b5 b6 b7 => ?_
  have kB : ∀ b o, hh.get? b = some o → hB.get? b = some o := fun b o e => b1 b o (neq b o e) (kA' b o e)
  have hnsB : hB.Ns ((hh.push ot).push oe).objs.size (fun x => [(N.nAt.str, vy), (N.nWhat.str, vx), (N.nSelf.str, .ref (hh.objs.size + 1))].lookup x) := by
    obtain ⟨o, es, ep, e1, e2⟩ := hnsA
    exact ⟨o, es, ep, b1 _ _ Lne e1, e2⟩
  show wpAny _ _ (execs [_] env) _ _ _
  rw [execs_cons]
  refine wpAny_bind (attr_line (x := .nAt) (y := .nAt) T FF.l1 FF.l3 hnsB rfl rfl ?_)
  refine set_second (fun b o e => kB _ _ (X0 b o e)) FK.sa FK.hd FK.ta FK.po b2 b3 b5 b6 (by lia) fun hD tD esD epD c1 c2 c3 c4 c5 => ?_
  show wpAny _ _ (execs [] env) _ _ _
  rw [execs_nil]
  have dne : hA.objs.size ≠ hh.objs.size + 1 := by rw [szA]; exact Nat.ne_of_gt (by lia)
  have fresh : ∀ b, hh.objs.size ≤ b → hh.get? b = none ∧ σ b = none := fun b hb => by
    constructor
    · cases q : hh.get? b with
      | none => rfl
      | some o => exact absurd (big _ _ q) (Nat.not_lt.mpr hb)
    · cases q : σ b with
      | none => rfl
      | some o => exact absurd (R.lt q) (Nat.not_lt.mpr hb)
  have le4 : hh.objs.size ≤ hA.objs.size := by rw [szA]; exact Nat.le_add_right _ _
  have le1 : hh.objs.size ≤ hh.objs.size + 1 := Nat.le_succ _
  have nrel : NsRel (fun z => if z = N.nAt.str then some vy else if z = N.nWhat.str then some vx else none) (mk [(.nAt, .int y), (.nWhat, .str x)]) := by
    rw [← ex, ← ey]; exact (ns_empty.upd .nWhat vx).upd .nAt vy
  refine wpAny_pure ⟨rfl, _, R.fault (vs := #[.ref h₀.objs.size, .none, .none, .none, .bool false, .none]) (h := hD) (t := tD) (d := hA.objs.size) (e := hh.objs.size + 1) (fun b o e => ?_) (fresh _ le4).1 (fresh _ le1).1 dne (fun env he q => ?_) c2 ?_ c4 c5 nrel (by lia) ?_ ?_, hq _ _ (fresh _ le4).2 (fresh _ le1).2 dne⟩
  · rw [c1.2 b (Nat.ne_of_lt (Nat.lt_of_lt_of_le (big b o e) le4))]; exact kB b o e
  · obtain ⟨f', o1, _, _, _, x1, _, x3, _, _⟩ := R.fr env he
    rw [x1] at q; cases q
    exact absurd rfl (neq _ _ x3)
  · rw [c1.2 _ dne.symm]; exact b2
  · show 5 ≤ 6; decide
  · rfl
end
end Mine
end
section
open PySem PySem.W PySem.Calls PyProof.Rows
namespace Mine
open Sem (wp)
section
variable {G : Glob} {n : Nat} {sc : List (Str × NameKind)} {l : List Env} {σ τ : St} {s : Shared}
/-- `return ("fault", fault.at)` -/
theorem fault_ret {env : Env} {A : Around} {E : Value → Shared → Prop} {L e : Addr} {m : N → Option V} {i : Int} {k : Nat} {p1 p2 p3 p4 p5 : Pos} (O : G.Ok) (KF : KFact G.K) (T : At env L none sc) (hk : sc.lookup N.nFault.str = some .local) (R : Rel G l τ s)
    (hL : τ L = some (.ns true m)) (hm : m .nFault = some (.ref e)) (ha : attrOf τ (.ref e) .nAt = some (.int i)) :
    wpAny (Md G) A (execs [.Return (some (.Tuple [.Constant (.str "fault") 0 p1, .Attribute (.Name N.nFault.str p2) N.nAt.str p3] k p4)) p5] env)
      (fun f s' => ∃ a, f = .ret (.ref a) ∧ τ a = none ∧ Rel G l (τ.set a (.tup [.str "fault", .int i])) s') E s := by
  obtain ⟨mm, hns, hr⟩ := ns_at R hL
  obtain ⟨z, hz, hzz⟩ := hr.1 _ _ hm
  obtain rfl := av_ref hzz
  rw [execs_cons, exec_Return_some, arm_eval_Tuple]
  have es : backTo p4 (starEach [.Constant (.str "fault") 0 p1, .Attribute (.Name N.nFault.str p2) N.nAt.str p3] env) = [(false, eval (.Constant (.str "fault") 0 p1) env), (false, eval (.Attribute (.Name N.nFault.str p2) N.nAt.str p3) env)] := by
    rw [starEach_cons rfl, starEach_cons rfl, show starEach [] env = [] from rfl]
    delta backTo; simp only [List.map_cons, List.map_nil, Bool.false_eq_true, if_false]
  rw [es]
  refine wpAny_bind (wpAny_bind (wpAny_standAt (wpAny_bind (wpAny_bind (wpAny_standAt (wpAny_bind (Calls.spliced_cons (Calls.Constant_str ?_))))))))
  refine Calls.spliced_cons ?_
  show wpAny _ _ (do
    let o ← attributeBase (.Name N.nFault.str p2) N.nAt.str env (eval (.Name N.nFault.str p2) env)
    standAt p3.atName
    let r ← holding [o] (getAttr o N.nAt.str true)
    letTemporaryGo (.Name N.nFault.str p2) o r
    pure r) _ _ _
  rw [base_plain rfl]
  have R₁ := R.tok (t := s.toks + 1)
  refine wpAny_bind (wpAny_Name (wpAny_loadName_local T.kind (by rw [T.kindOf]; exact hk) (by rw [T.locals]; exact hns) hz ?_) (not_debug .nFault))
  refine wpAny_bind (wpAny_standAt (wpAny_bind (wpAny_holding (wpAny_mono (get_ok (E := E) O KF R₁ ha fun i e => by cases e) (fun r' s₂ h => ?_) fun _ _ x => x))))
  obtain ⟨hr', rfl⟩ := h
  refine wpAny_bind (wpAny_letTemporaryGo (wpAny_pure (Calls.spliced_nil ?_)))
  have R₂ := R₁.tok (t := s.toks + 1 + 1)
  refine wpAny_newObj_type ?_ (by show 2 ≤ sizeLine; rw [sizeLine_eq]; lia)
  refine wpAny_pure (wpAny_pure ⟨_, rfl, R₂.fresh, R₂.push (o := .tup [.str "fault", .int i]) ⟨_, _, rfl, ?_⟩ rfl⟩)
  show [av (.str (Str.ofString "fault") _), av r'] = _
  rw [hr']; rfl
theorem attr_frame {L e : Addr} {m m' : N → Option V} {x : N} {r : V} (hL : τ L = some (.ns true m)) (h : attrOf τ (.ref e) x = some r) : attrOf (τ.set L (.ns true m')) (.ref e) x = some r := by
  unfold attrOf at h ⊢
  dsimp only at h ⊢
  have he : e ≠ L := fun q => by subst q; rw [hL] at h; cases h
  have hd : ∀ d k, τ d = some (.ns false k) → (τ.set L (.ns true m')) d = some (.ns false k) := fun d k q => by
    rw [St.set_ne _ _ (fun z => by subst z; rw [hL] at q; cases q)]; exact q
  rw [St.set_ne _ _ he]
  split at h
  · split at h
    · rename_i q; rw [hd _ _ q]; exact h
    · cases h
  · split at h
    · rename_i q; rw [hd _ _ q]; exact h
    · cases h
  · cases h
theorem del_set_self {L : Addr} {o : AO} : (τ.set L o).del L = τ.del L := by
  funext b; by_cases h1 : b = L <;> simp_all [St.set, St.del]
noncomputable def askedBody (pt p1 p2 p3 p4 p5 ph h0 h1 h2 h3 h4 h5 : Pos) (tryB : List Stmt) (k : Nat) : List Stmt :=
  [.Try tryB [.ExceptHandler (some (.Name "WireFault" h0)) (some "fault") [.Return (some (.Tuple [.Constant (.str "fault") 0 h1, .Attribute (.Name N.nFault.str h2) N.nAt.str h3] k h4)) h5] ph] [] [] pt]
variable {nm q : Str} {N₀ : Addr} {bs bm : List Value} {hdct : Bool} {sn : List Str} {sub : List Value} {ab : Bool} {col : Option Bool} {dd : Option Addr} {k0 k1 k2 k3 k5 : Option Value} {nid : String}
theorem asked_try {env : Env} {A : Around} {L : Addr} {Q : Ft} {X : Xt} {pt ph h0 h1 h2 h3 h4 h5 : Pos} {k : Nat} {tryB : List Stmt} {is : List IS} {C : Ct} {Y : Kt} (O : G.Ok) (KF : KFact G.K) (T : At env L none sc) (hf : env.frame = some L)
    (kF : sc.lookup N.nFault.str = some .local) (kW : sc.lookup ("WireFault" : Str) = some .globalImplicit) (gW : G.mg "WireFault" = some (.ref clsFault))
    (hC : G.K.lookup clsFault = some (excClassObj nm q clsFault N₀ bs bm hdct sn sub ab col dd k0 k1 k2 k3 k5 nid)) (hbase : bm.contains (.type "BaseException") = true)
    (hb : SS G C n sc is tryB) (R : Rel G (env :: l) σ s) (H : AOk n (env :: l) A)
    (w : WS C none is L σ (fun fl τ => match fl with | .next => False | .ret v => Q (.ret v) τ) (fun e τ => ∃ m i, τ L = some (.ns true m) ∧ e ≠ L ∧ attrOf τ (.ref e) .nAt = some (.int i) ∧ news (τ.del L) (.tup [.str (S "fault"), .int i]) Y))
    (hY : ∀ v τ, τ L = none → Y v τ → Q (.ret v) τ) :
    wN (Md G) A (execs [.Try tryB [.ExceptHandler (some (.Name "WireFault" h0)) (some "fault") [.Return (some (.Tuple [.Constant (.str "fault") 0 h1, .Attribute (.Name N.nFault.str h2) N.nAt.str h3] k h4)) h5] ph] [] [] pt] env)
      (FS G (env :: l) Q) (EX G (env :: l) (PL L) X) s := by
  rw [execs_cons, arm_exec_Try]
  refine nBind (nBind (nStand ?_))
  unfold tryStmt
  simp only [List.isEmpty_nil, if_true, List.isEmpty_cons, Bool.false_and, Bool.false_eq_true, if_false]
  refine nBind (nAttempt (nMono (hb T hf R H w) (fun f s₁ h₁ => ?_) fun e s₁ h₁ => ?_))
  · obtain ⟨τ, fl, e, R₁, q⟩ := h₁
    cases f with
    | next => cases e; exact q.elim
    | ret v => cases e; exact nPure (nPure ⟨τ, _, rfl, R₁, q⟩)
    | _ => cases e
  · obtain ⟨a, τ, rfl, R₁, F₁, m, i, hL, haL, hat, hn⟩ := h₁
    refine nBind (.of (note rfl H.frames R₁ hf F₁ fun hh₂ R₂ F₂ => ?_))
    refine nBind (.of (flight R₂ F₂ (by intro q; cases q) fun hh₃ R₃ F₃ => ?_))
    obtain ⟨oe, vs, ho, hd, hc, hrest⟩ := F₃.ob
    generalize hs₃ : ({ s₁ with heap := hh₃ } : Shared) = s₃ at R₃
    have hp : hh₃ = s₃.heap := by rw [← hs₃]
    rw [hp] at F₃ ho
    clear hs₃ hp
    have X₃ := R₃.kin O
    refine .of (wpAny_handleBy_cons (codeAny_handlers_test ?_) (ref_ne_byPass a))
    refine Name_function_global T.kind (by rw [T.kindOf]; exact kW) (loadGlobal_global (by rw [T.globals]; exact R₃.g O) gW ?_) rfl
    obtain ⟨z1, z2, z3, z4, z5⟩ := s₃
    refine wpAny_excMatches_sub_self (X₃ _ _ hC) ho hc hbase ?_
    show codeAny _ _ _ _ _
    refine codeAny_handlers_suite_as ?_
    refine flight R₃ F₃ (by intro q; cases q) fun hh₄ R₄ F₄ => ?_
    refine wpAny_mono (store_ok (E := fun _ _ => False) (v := .ref a) (x := .nFault) T R₄ hL kF) (fun _ s₅ R₅ => ?_) fun _ _ x => x.elim
    have e5 : setLoc τ L .nFault (av (.ref a)) = τ.set L (.ns true (upd m .nFault (.ref a))) := by unfold setLoc; rw [hL]; rfl
    rw [e5] at R₅
    refine wpAny_mono (fault_ret (E := fun _ _ => False) O KF T kF R₅ (St.set_same ..) (by simp [upd]) (attr_frame hL hat)) (fun f s₆ h₆ => ?_) fun _ _ x => x.elim
    obtain ⟨a', rfl, ha', R₆⟩ := h₆
    have hne : a' ≠ L := fun q => by subst q; rw [St.set_same] at ha'; cases ha'
    have hL6 : ((τ.set L (.ns true (upd m .nFault (.ref a)))).set a' (.tup [.str (S "fault"), .int i])) L = some (.ns true (upd m .nFault (.ref a))) := by
      rw [St.set_ne _ _ hne.symm, St.set_same]
    obtain ⟨mm, hns, _⟩ := ns_at R₆ hL6
    refine wpAny_nameGoes (by rw [T.kindOf]; exact kF) (by rw [T.locals]; exact hns) (by rw [T.kind]; rfl) fun h' m' hn' hs' => ?_
    rw [T.locals] at hn' hs'
    have R₇ := (R₆.nsdel hL6 hn' hs').tok (t := s₆.toks + 1)
    rw [St.del_set_ne _ _ hne, del_set_self] at R₇
    refine nPure ⟨_, _, rfl, R₇, hY _ _ (by rw [St.set_ne _ _ hne.symm, St.del_same]) (hn a' ?_)⟩
    rw [St.set_ne _ _ hne] at ha'
    rw [St.del_ne _ hne]; exact ha'
end
end Mine
end
section
open PySem PySem.W PySem.Calls PyProof.Rows
namespace Mine
open Sem (wp)
/-! the checker: the program's text is the text of the fragment -/
theorem asInt_ok {v : V} {x : Int} (h : vasInt v = some x) : V.int x = v := by cases v <;> first | exact absN h | exact congrArg V.int (Option.some.inj h).symm
theorem asBytes_ok {v : V} {x : List UInt8} (h : vasBytes v = some x) : V.bytes x = v := by cases v <;> first | exact absN h | exact congrArg V.bytes (Option.some.inj h).symm
theorem asRef_ok {v : V} {x : Addr} (h : vasRef v = some x) : V.ref x = v := by cases v <;> first | exact absN h | exact congrArg V.ref (Option.some.inj h).symm
theorem asType_ok {v : V} {x : String} (h : vasType v = some x) : V.type x = v := by cases v <;> first | exact absN h | exact congrArg V.type (Option.some.inj h).symm
theorem asBlt_ok {v : V} {x : String} (h : vasBlt v = some x) : V.builtin x = v := by cases v <;> first | exact absN h | exact congrArg V.builtin (Option.some.inj h).symm
theorem vEq_ok {a b : V} (h : vEq a b = true) : a = b := by
  cases a with
  | int x => exact asInt_ok (beq_iff_eq.mp h)
  | bytes x => exact asBytes_ok (beq_iff_eq.mp h)
  | ref x => exact asRef_ok (beq_iff_eq.mp h)
  | type x => exact asType_ok (beq_iff_eq.mp h)
  | builtin x => exact asBlt_ok (beq_iff_eq.mp h)
  | _ => exact (Bool.false_ne_true h).elim
theorem set_plain {e : Expr} (h : notSet e = true) (env : Env) (x : Value) : foldedSetIterable e env x = pure x := by
  cases e <;> first | rfl | cases h
theorem anyS {α : Type} {o : Option α} {p : α → Bool} (h : o.any p = true) : ∃ a, o = some a ∧ p a = true := by
  cases o with
  | none => cases h
  | some a => exact ⟨a, rfl, h⟩
theorem anyK {α : Type} {o : Option α} {p : α → Bool} {P : Prop} (h : o.any p = true) (k : ∀ a, o = some a → p a = true → P) : P := by
  obtain ⟨a, h1, h2⟩ := anyS h
  exact k a h1 h2
theorem bt {a b : Bool} (h : (a && b) = true) : a = true ∧ b = true := Bool.and_eq_true_iff.mp h
section
variable {a b c d e f g i j k l : Bool} {P : Prop}
theorem bt2 (h : (a && b) = true) (z : a = true → b = true → P) : P := z (bt h).1 (bt h).2
theorem bt3 (h : (a && b && c) = true) (z : a = true → b = true → c = true → P) : P := bt2 h fun h k => bt2 h fun h1 h2 => z h1 h2 k
theorem bt4 (h : (a && b && c && d) = true) (z : a = true → b = true → c = true → d = true → P) : P := bt2 h fun h k => bt3 h fun h1 h2 h3 => z h1 h2 h3 k
theorem bt5 (h : (a && b && c && d && e) = true) (z : a = true → b = true → c = true → d = true → e = true → P) : P := bt2 h fun h k => bt4 h fun h1 h2 h3 h4 => z h1 h2 h3 h4 k
theorem bt6 (h : (a && b && c && d && e && f) = true) (z : a = true → b = true → c = true → d = true → e = true → f = true → P) : P := bt2 h fun h k => bt5 h fun h1 h2 h3 h4 h5 => z h1 h2 h3 h4 h5 k
theorem bt8 (h : (a && b && c && d && e && f && g && i) = true) (z : a = true → b = true → c = true → d = true → e = true → f = true → g = true → i = true → P) : P := bt3 h fun h k l => bt6 h fun h1 h2 h3 h4 h5 h6 => z h1 h2 h3 h4 h5 h6 k l
theorem bt9 (h : (a && b && c && d && e && f && g && i && j) = true) (z : a = true → b = true → c = true → d = true → e = true → f = true → g = true → i = true → j = true → P) : P := bt2 h fun h k => bt8 h fun h1 h2 h3 h4 h5 h6 h7 h8 => z h1 h2 h3 h4 h5 h6 h7 h8 k
theorem bt10 (h : (a && b && c && d && e && f && g && i && j && k) = true) (z : a = true → b = true → c = true → d = true → e = true → f = true → g = true → i = true → j = true → k = true → P) : P := bt2 h fun h k => bt9 h fun h1 h2 h3 h4 h5 h6 h7 h8 h9 => z h1 h2 h3 h4 h5 h6 h7 h8 h9 k
end
/-- what a look found, put in its place -/
@[elab_as_elim] theorem eqE {α : Sort _} [DecidableEq α] {b : α} {P : α → Prop} (a : α) (h : decide (a = b) = true) (k : P b) : P a := by
  rw [of_decide_eq_true h]; exact k
@[elab_as_elim] theorem beE {b : Str} {P : Str → Prop} (a : Str) (h : (a == b) = true) (k : P b) : P a := by
  rw [beq_iff_eq.mp h]; exact k
@[elab_as_elim] theorem emE {α : Type} {P : List α → Prop} (a : List α) (h : a.isEmpty = true) (k : P []) : P a := by
  rw [List.isEmpty_iff.mp h]; exact k
@[elab_as_elim] theorem noE {α : Type} {P : Option α → Prop} (a : Option α) (h : a.isNone = true) (k : P none) : P a := by
  rw [Option.isNone_iff_eq_none.mp h]; exact k
theorem l1_ok {α : Type} {l : List α} {a : α} (h : l1 l = some a) : l = [a] := by
  cases l with
  | nil => exact absN h
  | cons b r =>
    have h : (if r.isEmpty then some b else none) = some a := h
    by_cases c : r.isEmpty = true
    · rw [if_pos c] at h
      rw [List.isEmpty_iff.mp c, Option.some.inj h]
    · rw [if_neg c] at h; exact absN h
theorem l2_ok {α : Type} {l : List α} {a : α × α} (h : l2 l = some a) : l = [a.1, a.2] := by
  cases l with
  | nil => exact absN h
  | cons b r =>
    obtain ⟨c, hc, rfl⟩ := Option.map_eq_some_iff.mp h
    rw [l1_ok hc]
@[elab_as_elim] theorem l1E {α : Type} {a : α} {P : List α → Prop} (l : List α) (h : l1 l = some a) (k : P [a]) : P l := by
  rw [l1_ok h]; exact k
@[elab_as_elim] theorem l2E {α : Type} {a : α × α} {P : List α → Prop} (l : List α) (h : l2 l = some a) (k : P [a.1, a.2]) : P l := by
  rw [l2_ok h]; exact k
@[elab_as_elim] theorem soE {α : Type} {a : α} {P : Option α → Prop} (l : Option α) (h : l = some a) (k : P (some a)) : P l := by
  rw [h]; exact k
theorem difSome {c : Prop} [Decidable c] {α : Type} {f : c → Option α} {t : α} {P : Prop} (h : (if h : c then f h else none) = some t) (k : ∀ h : c, f h = some t → P) : P := by
  by_cases hc : c
  · rw [dif_pos hc] at h; exact k hc h
  · rw [dif_neg hc] at h; exact absN h
theorem byS {α : Type} {a t : α} {P : Prop} (h : some a = some t) (k : a = t → P) : P := k (Option.some.inj h)
/-! what an expression or a statement is, one look each -/
@[elab_as_elim] theorem xKonE {t : Const} {P : Expr → Prop} (e : Expr) (h : xKon e = some t) (k : ∀ k p, P (.Constant t k p)) : P e :=
  difSome h fun c h => Expr.Constant.elim (motive_1 := fun e => ∀ c, Expr.Constant.elim (motive_1 := fun _ => Option (Const)) e c (fun c _ _ => some c) = some t → P e) e c (fun c z1 z2 _ h => byS h fun e => by cases e; exact k z1 z2) c h
@[elab_as_elim] theorem xNameE {t : Str} {P : Expr → Prop} (e : Expr) (h : xName e = some t) (k : ∀ p, P (.Name t p)) : P e :=
  difSome h fun c h => Expr.Name.elim (motive_1 := fun e => ∀ c, Expr.Name.elim (motive_1 := fun _ => Option (Str)) e c (fun y _ => some y) = some t → P e) e c (fun y z1 _ h => byS h fun e => by cases e; exact k z1) c h
@[elab_as_elim] theorem xAttrE {t : Expr × Str × Pos} {P : Expr → Prop} (e : Expr) (h : xAttr e = some t) (k : P (.Attribute t.1 t.2.1 t.2.2)) : P e :=
  difSome h fun c h => Expr.Attribute.elim (motive_1 := fun e => ∀ c, Expr.Attribute.elim (motive_1 := fun _ => Option (Expr × Str × Pos)) e c (fun a y p => some (a, y, p)) = some t → P e) e c (fun a y p _ h => byS h fun e => by cases e; exact k) c h
@[elab_as_elim] theorem xCallE {t : Expr × List Expr × List Keyword × Pos} {P : Expr → Prop} (e : Expr) (h : xCall e = some t) (k : P (.Call t.1 t.2.1 t.2.2.1 t.2.2.2)) : P e :=
  difSome h fun c h => Expr.Call.elim (motive_1 := fun e => ∀ c, Expr.Call.elim (motive_1 := fun _ => Option (Expr × List Expr × List Keyword × Pos)) e c (fun f a k p => some (f, a, k, p)) = some t → P e) e c (fun f a k p _ h => byS h fun e => by cases e; exact k) c h
@[elab_as_elim] theorem xBinE {t : Expr × Operator × Expr} {P : Expr → Prop} (e : Expr) (h : xBin e = some t) (k : ∀ p, P (.BinOp t.1 t.2.1 t.2.2 p)) : P e :=
  difSome h fun c h => Expr.BinOp.elim (motive_1 := fun e => ∀ c, Expr.BinOp.elim (motive_1 := fun _ => Option (Expr × Operator × Expr)) e c (fun a o b _ => some (a, o, b)) = some t → P e) e c (fun a o b z3 _ h => byS h fun e => by cases e; exact k z3) c h
@[elab_as_elim] theorem xCmpE {t : Expr × List CmpOp × List Expr} {P : Expr → Prop} (e : Expr) (h : xCmp e = some t) (k : ∀ p, P (.Compare t.1 t.2.1 t.2.2 p)) : P e :=
  difSome h fun c h => Expr.Compare.elim (motive_1 := fun e => ∀ c, Expr.Compare.elim (motive_1 := fun _ => Option (Expr × List CmpOp × List Expr)) e c (fun a o b _ => some (a, o, b)) = some t → P e) e c (fun a o b z3 _ h => byS h fun e => by cases e; exact k z3) c h
@[elab_as_elim] theorem xBopE {t : BoolOp × List Expr} {P : Expr → Prop} (e : Expr) (h : xBop e = some t) (k : ∀ p, P (.BoolOp t.1 t.2 p)) : P e :=
  difSome h fun c h => Expr.BoolOp.elim (motive_1 := fun e => ∀ c, Expr.BoolOp.elim (motive_1 := fun _ => Option (BoolOp × List Expr)) e c (fun o a _ => some (o, a)) = some t → P e) e c (fun o a z2 _ h => byS h fun e => by cases e; exact k z2) c h
@[elab_as_elim] theorem xUnE {t : UnaryOp × Expr} {P : Expr → Prop} (e : Expr) (h : xUn e = some t) (k : ∀ p, P (.UnaryOp t.1 t.2 p)) : P e :=
  difSome h fun c h => Expr.UnaryOp.elim (motive_1 := fun e => ∀ c, Expr.UnaryOp.elim (motive_1 := fun _ => Option (UnaryOp × Expr)) e c (fun o a _ => some (o, a)) = some t → P e) e c (fun o a z2 _ h => byS h fun e => by cases e; exact k z2) c h
@[elab_as_elim] theorem xIfE {t : Expr × Expr × Expr} {P : Expr → Prop} (e : Expr) (h : xIf e = some t) (k : ∀ p, P (.IfExp t.1 t.2.1 t.2.2 p)) : P e :=
  difSome h fun c h => Expr.IfExp.elim (motive_1 := fun e => ∀ c, Expr.IfExp.elim (motive_1 := fun _ => Option (Expr × Expr × Expr)) e c (fun a b c _ => some (a, b, c)) = some t → P e) e c (fun a b c z3 _ h => byS h fun e => by cases e; exact k z3) c h
@[elab_as_elim] theorem xSubE {t : Expr × Expr} {P : Expr → Prop} (e : Expr) (h : xSub e = some t) (k : ∀ p, P (.Subscript t.1 t.2 p)) : P e :=
  difSome h fun c h => Expr.Subscript.elim (motive_1 := fun e => ∀ c, Expr.Subscript.elim (motive_1 := fun _ => Option (Expr × Expr)) e c (fun a b _ => some (a, b)) = some t → P e) e c (fun a b z2 _ h => byS h fun e => by cases e; exact k z2) c h
@[elab_as_elim] theorem xSliE {t : Option Expr × Option Expr × Option Expr} {P : Expr → Prop} (e : Expr) (h : xSli e = some t) (k : ∀ p, P (.Slice t.1 t.2.1 t.2.2 p)) : P e :=
  difSome h fun c h => Expr.Slice.elim (motive_1 := fun e => ∀ c, Expr.Slice.elim (motive_1 := fun _ => Option (Option Expr × Option Expr × Option Expr)) e c (fun a b c _ => some (a, b, c)) = some t → P e) e c (fun a b c z3 _ h => byS h fun e => by cases e; exact k z3) c h
@[elab_as_elim] theorem xListE {t : List Expr} {P : Expr → Prop} (e : Expr) (h : xList e = some t) (k : ∀ p, P (.List t p)) : P e :=
  difSome h fun c h => Expr.List.elim (motive_1 := fun e => ∀ c, Expr.List.elim (motive_1 := fun _ => Option (List Expr)) e c (fun a _ => some a) = some t → P e) e c (fun a z1 _ h => byS h fun e => by cases e; exact k z1) c h
@[elab_as_elim] theorem xTupE {t : List Expr} {P : Expr → Prop} (e : Expr) (h : xTup e = some t) (k : ∀ k p, P (.Tuple t k p)) : P e :=
  difSome h fun c h => Expr.Tuple.elim (motive_1 := fun e => ∀ c, Expr.Tuple.elim (motive_1 := fun _ => Option (List Expr)) e c (fun a _ _ => some a) = some t → P e) e c (fun a z1 z2 _ h => byS h fun e => by cases e; exact k z1 z2) c h
@[elab_as_elim] theorem xLcE {t : Expr × List Comprehension × Scope} {P : Expr → Prop} (e : Expr) (h : xLc e = some t) (k : ∀ p, P (.ListComp t.1 t.2.1 t.2.2 p)) : P e :=
  difSome h fun c h => Expr.ListComp.elim (motive_1 := fun e => ∀ c, Expr.ListComp.elim (motive_1 := fun _ => Option (Expr × List Comprehension × Scope)) e c (fun a g s _ => some (a, g, s)) = some t → P e) e c (fun a g s z3 _ h => byS h fun e => by cases e; exact k z3) c h
@[elab_as_elim] theorem xLamE {t : Arguments × Expr × Scope × Pos} {P : Expr → Prop} (e : Expr) (h : xLam e = some t) (k : P (.Lambda t.1 t.2.1 t.2.2.1 t.2.2.2)) : P e :=
  difSome h fun c h => Expr.Lambda.elim (motive_1 := fun e => ∀ c, Expr.Lambda.elim (motive_1 := fun _ => Option (Arguments × Expr × Scope × Pos)) e c (fun a b s p => some (a, b, s, p)) = some t → P e) e c (fun a b s p _ h => byS h fun e => by cases e; exact k) c h
@[elab_as_elim] theorem yAsgE {t : List Expr × Expr} {P : Stmt → Prop} (e : Stmt) (h : yAsg e = some t) (k : ∀ p, P (.Assign t.1 t.2 p)) : P e :=
  difSome h fun c h => Stmt.Assign.elim (motive_2 := fun e => ∀ c, Stmt.Assign.elim (motive_2 := fun _ => Option (List Expr × Expr)) e c (fun a b _ => some (a, b)) = some t → P e) e c (fun a b z2 _ h => byS h fun e => by cases e; exact k z2) c h
@[elab_as_elim] theorem yExprE {t : Expr} {P : Stmt → Prop} (e : Stmt) (h : yExpr e = some t) (k : ∀ p, P (.Expr t p)) : P e :=
  difSome h fun c h => Stmt.Expr.elim (motive_2 := fun e => ∀ c, Stmt.Expr.elim (motive_2 := fun _ => Option (Expr)) e c (fun a _ => some a) = some t → P e) e c (fun a z1 _ h => byS h fun e => by cases e; exact k z1) c h
@[elab_as_elim] theorem yIfE {t : Expr × List Stmt × List Stmt} {P : Stmt → Prop} (e : Stmt) (h : yIf e = some t) (k : ∀ p, P (.If t.1 t.2.1 t.2.2 p)) : P e :=
  difSome h fun c h => Stmt.If.elim (motive_2 := fun e => ∀ c, Stmt.If.elim (motive_2 := fun _ => Option (Expr × List Stmt × List Stmt)) e c (fun a b c _ => some (a, b, c)) = some t → P e) e c (fun a b c z3 _ h => byS h fun e => by cases e; exact k z3) c h
@[elab_as_elim] theorem yWhE {t : Expr × List Stmt × List Stmt} {P : Stmt → Prop} (e : Stmt) (h : yWh e = some t) (k : ∀ p, P (.While t.1 t.2.1 t.2.2 p)) : P e :=
  difSome h fun c h => Stmt.While.elim (motive_2 := fun e => ∀ c, Stmt.While.elim (motive_2 := fun _ => Option (Expr × List Stmt × List Stmt)) e c (fun a b c _ => some (a, b, c)) = some t → P e) e c (fun a b c z3 _ h => byS h fun e => by cases e; exact k z3) c h
@[elab_as_elim] theorem yForE {t : Expr × Expr × List Stmt × List Stmt} {P : Stmt → Prop} (e : Stmt) (h : yFor e = some t) (k : ∀ p, P (.For t.1 t.2.1 t.2.2.1 t.2.2.2 p)) : P e :=
  difSome h fun c h => Stmt.For.elim (motive_2 := fun e => ∀ c, Stmt.For.elim (motive_2 := fun _ => Option (Expr × Expr × List Stmt × List Stmt)) e c (fun a b c d _ => some (a, b, c, d)) = some t → P e) e c (fun a b c d z4 _ h => byS h fun e => by cases e; exact k z4) c h
@[elab_as_elim] theorem yRetE {t : Option Expr} {P : Stmt → Prop} (e : Stmt) (h : yRet e = some t) (k : ∀ p, P (.Return t p)) : P e :=
  difSome h fun c h => Stmt.Return.elim (motive_2 := fun e => ∀ c, Stmt.Return.elim (motive_2 := fun _ => Option (Option Expr)) e c (fun a _ => some a) = some t → P e) e c (fun a z1 _ h => byS h fun e => by cases e; exact k z1) c h
@[elab_as_elim] theorem yRaiE {t : Option Expr × Option Expr} {P : Stmt → Prop} (e : Stmt) (h : yRai e = some t) (k : ∀ p, P (.Raise t.1 t.2 p)) : P e :=
  difSome h fun c h => Stmt.Raise.elim (motive_2 := fun e => ∀ c, Stmt.Raise.elim (motive_2 := fun _ => Option (Option Expr × Option Expr)) e c (fun a b _ => some (a, b)) = some t → P e) e c (fun a b z2 _ h => byS h fun e => by cases e; exact k z2) c h
@[elab_as_elim] theorem yTryE {t : List Stmt × List ExceptHandler × List Stmt × List Stmt} {P : Stmt → Prop} (e : Stmt) (h : yTry e = some t) (k : ∀ p, P (.Try t.1 t.2.1 t.2.2.1 t.2.2.2 p)) : P e :=
  difSome h fun c h => Stmt.Try.elim (motive_2 := fun e => ∀ c, Stmt.Try.elim (motive_2 := fun _ => Option (List Stmt × List ExceptHandler × List Stmt × List Stmt)) e c (fun a b c d _ => some (a, b, c, d)) = some t → P e) e c (fun a b c d z4 _ h => byS h fun e => by cases e; exact k z4) c h
end Mine
end
section
open PySem PySem.W PySem.Calls PyProof.Rows
namespace Mine
open Sem (wp)
theorem fEq_ok {a b : F} (h : fEq a b = true) : a = b := by
  have key : ∀ a : F, [F.lowerCode, .lower, .asciiText, .atomInit, .atomTold, .toldValue, .isPrintable, .isAtomCode, .isAstringCode, .isValueCode, .isSetCode, .isFigure, .numberOfFigures,
  .wInit, .wFault, .wPeek, .wSkip, .wNeed, .wSpace, .wRun, .wWordOf, .wAtom, .wSetText, .wFlag, .wNumber, .wQuoted, .wLiteral, .wString, .wStringOr, .wAstring, .wNstring, .wListOf, .wPlain, .wValue,
  .lTake, .lBag, .lOctets, .lRun, .lFigures, .lString, .lValue, .lNumber, .lAstring, .lNstring, .lFlag, .lSet, .lNumbers, .lAsked, .lam0, .lam1][a.ctorIdx]? = some a := by
    intro a; cases a <;> rfl
  have := key a
  rw [beq_iff_eq.mp h, key b] at this
  exact (Option.some.inj this).symm
theorem fAny_ok {a : F} {l : List F} (h : l.any (fEq a) = true) : a ∈ l := by
  obtain ⟨b, hb, e⟩ := List.any_eq_true.mp h
  rw [fEq_ok e]; exact hb
theorem n30 {x : N} (h : (x.nat == 30) = true) : x = .nWire := nat_inj (beq_iff_eq.mp h)
theorem nt {b : Bool} (h : (!b) = true) : b = false := by cases b <;> first | rfl | cases h
noncomputable abbrev Sub := Nat → Arguments → Expr → Scope → Pos → Bool
/-- what a checked text is checked against -/
structure Ck (G : Glob) (C : Ct) (n : Nat) (D : Nat → LamD) (gt : List (Str × V)) (lamOk : Sub) : Prop where
  B : Host G C n
  LF : LamF G D
  hg : ∀ p ∈ gt, GlobLoad G p.1 p.2
  hl : ∀ k params body scope pos, lamOk k params body scope pos = true → D k = ⟨params, body, scope, pos⟩
section
variable {G : Glob} {C : Ct} {n : Nat} {D : Nat → LamD} {gt : List (Str × V)} {lamOk : Sub}
theorem both {sc : Sc} {ie : IE} {e : Expr} (hp : plainTest e = true) (h : SE G C n sc ie e) : SE G C n sc ie e ∧ ST G C n sc ie e := ⟨h, st_of hp h⟩
theorem em {a : List Keyword} (h : a.isEmpty = true) : a = [] := List.isEmpty_iff.mp h
theorem em' {a : List Stmt} (h : a.isEmpty = true) : a = [] := List.isEmpty_iff.mp h
noncomputable abbrev EK (G : Glob) (C : Ct) (n : Nat) (sc : Sc) (i : IE) (e : Expr) : Prop := SE G C n sc i e ∧ ST G C n sc i e
theorem glob_of {x : Str} {v : V} (hg : ∀ p ∈ gt, GlobLoad G p.1 p.2) (h : (gt.any fun p => p.1 == x && vEq p.2 v) = true) : GlobLoad G x v := by
  obtain ⟨p, hp, hq⟩ := List.any_eq_true.mp h
  have hq := bt hq
  have gl := hg p hp
  rwa [beq_iff_eq.mp hq.1, vEq_ok hq.2] at gl
theorem disp_of {lst : Bool} {es : List Expr} {d : Expr} (hd : (if lst then xList d else xTup d) = some es) : dispOf lst es d := by
  cases lst with
  | true => exact xListE (P := fun d => dispOf true es d) d hd fun p => .inl ⟨rfl, p, rfl⟩
  | false => exact xTupE (P := fun d => dispOf false es d) d hd fun k p => .inr ⟨rfl, k, p, rfl⟩
theorem ne_of {α : Type} {l : List α} (h : (!l.isEmpty) = true) : l ≠ [] := fun q => by rw [q] at h; cases h
noncomputable abbrev le5 {a b : Nat} (h : Nat.ble a b = true) : a ≤ b := Nat.le_of_ble_eq_true h
noncomputable abbrev be {a b : Str} (h : (a == b) = true) : a = b := beq_iff_eq.mp h
noncomputable abbrev lk {a b : Option NameKind} (h : (a == b) = true) : a = b := beq_iff_eq.mp h
mutual
theorem emb_ok (K : Ck G C n D gt lamOk) : ∀ (ie : IE) (sc : Sc) (e : Expr), embE gt lamOk sc ie e = true → EK G C n sc ie e
  | .kn, sc, e, h => by refine xKonE e (of_decide_eq_true h) fun k p => ⟨se_none, st_of rfl se_none⟩
  | .kb b, sc, e, h => by refine xKonE e (of_decide_eq_true h) fun k p => ⟨se_bool, st_of rfl se_bool⟩
  | .ki b, sc, e, h => by refine xKonE e (of_decide_eq_true h) fun k p => ⟨se_int, st_of rfl se_int⟩
  | .ks b, sc, e, h => by refine xKonE e (of_decide_eq_true h) fun k p => ⟨se_str, st_of rfl se_str⟩
  | .kx b, sc, e, h => by refine xKonE e (of_decide_eq_true h) fun k p => ⟨se_bytes, st_of rfl se_bytes⟩
  | .loc x, sc, e, h0 => anyK h0 fun y hy h => bt2 h fun h1 h2 => by refine xNameE e hy fun p => both rfl (se_loc (be h1) (lk h2))
  | .cv x, sc, e, h0 => anyK h0 fun y hy h => bt3 h fun h1 h2 h3 => by
    refine xNameE e hy fun p => both rfl (se_cv (n30 h1) (be h2) ((Bool.or_eq_true_iff.mp h3).imp lk lk))
  | .glob x v, sc, e, h0 => anyK h0 fun y hy h => bt4 h fun h1 h2 h3 h4 => by
    refine xNameE e hy fun p => ?_
    refine beE y h1 ?_
    exact both rfl (se_glob K.B.ok (glob_of K.hg h4) (lk h2) (nt h3))
  | .attr a x, sc, e, h0 => anyK h0 fun t ht h => bt3 h fun h1 h2 h3 => by
    refine xAttrE e ht ?_
    exact both rfl (se_attr K.B.ok K.B.kf (be h1) h2 (emb_ok K a _ _ h3).1)
  | .bm a f, sc, e, h0 => anyK h0 fun t ht h => bt5 h fun h1 h2 h3 h4 h5 => by
    refine xAttrE e ht ?_
    exact both rfl (se_bm K.B.ok K.B.kf (fAny_ok h1) (beq_iff_eq.mp h2) (be h3) h4 (emb_ok K a _ _ h5).1)
  | .call f is, sc, e, h0 => anyK h0 fun t ht h => bt5 h fun h1 h2 h3 h4 h5 => by
    refine xCallE e ht ?_
    refine emE t.2.2.1 h1 ?_
    exact both rfl (se_call K.B h2 h3 (emb_ok K f _ _ h4).1 (embs_ok K is _ _ h5).1)
  | .meth o f is, sc, e, h0 => anyK h0 fun t ht h => anyK h fun a ha h => bt10 h fun h1 h2 h3 h4 h5 h6 h7 h8 h9 h10 => by
    refine xCallE e ht ?_
    refine emE t.2.2.1 h1 ?_
    refine xAttrE t.1 ha ?_
    exact both rfl (se_meth K.B (fAny_ok h2) (fAny_ok h3) (be h4) h5 h6 h7 (le5 h8) (emb_ok K o _ _ h9).1 (embs_ok K is _ _ h10).1)
  | .bmeth o x is, sc, e, h0 => anyK h0 fun t ht h => anyK h fun a ha h => bt8 h fun h1 h2 h3 h4 h5 h6 h7 h8 => by
    refine xCallE e ht ?_
    refine emE t.2.2.1 h1 ?_
    refine xAttrE t.1 ha ?_
    refine beE a.2.1 h2 ?_
    exact both rfl (se_bmeth h3 h4 h5 (le5 h6) (emb_ok K o _ _ h7).1 (embs_ok K is _ _ h8).1)
  | .bin op a b, sc, e, h0 => anyK h0 fun t ht h => bt3 h fun h1 h2 h3 => by
    refine xBinE e ht fun p => ?_
    rw [← of_decide_eq_true h1]
    exact both rfl (se_bin (emb_ok K a _ _ h2).1 (emb_ok K b _ _ h3).1)
  | .cmp op a b, sc, e, h0 => anyK h0 fun t ht h => anyK h fun eb hb h => bt4 h fun h1 h2 h3 h4 => by
    refine xCmpE e ht fun p => ?_
    refine l1E t.2.2 hb ?_
    refine eqE t.2.1 h1 ?_
    have A := emb_ok K a _ _ h3
    have B := emb_ok K b _ _ h4
    exact ⟨se_cmp A.1 B.1 (nt h2), st_cmp A.1 B.1 (nt h2)⟩
  | .cmp2 o₁ o₂ a b c, sc, e, h0 => anyK h0 fun t ht h => anyK h fun r hb h => bt5 h fun h1 h2 h3 h4 h5 => by
    refine xCmpE e ht fun p => ?_
    refine l2E t.2.2 hb ?_
    refine eqE t.2.1 h1 ?_
    have A := emb_ok K a _ _ h3
    have B := emb_ok K b _ _ h4
    have C := emb_ok K c _ _ h5
    exact ⟨se_cmp2 A.1 B.1 C.1 (nt h2), st_cmp2 A.1 B.1 C.1 (nt h2)⟩
  | .inT lst neg a is, sc, e, h0 => anyK h0 fun t ht h => anyK h fun d hb h => anyK h fun es hd h => bt4 h fun h1 h2 h3 h4 => by
    refine xCmpE e ht fun p => ?_
    refine l1E t.2.2 hb ?_
    refine eqE t.2.1 h1 ?_
    have A := emb_ok K a _ _ h3
    have B := embs_ok K is _ _ h4
    exact ⟨se_inT rfl (disp_of hd) A.1 B.1 (le5 h2), st_inT rfl (disp_of hd) A.1 B.1 (le5 h2)⟩
  | .isNone a, sc, e, h0 => anyK h0 fun t ht h => anyK h fun d hb h => bt3 h fun h1 h2 h3 => by
    refine xCmpE e ht fun p => ?_
    refine l1E t.2.2 hb ?_
    refine eqE t.2.1 h2 ?_
    refine xKonE d (of_decide_eq_true h1) fun k q => ?_
    have A := emb_ok K a _ _ h3
    exact ⟨se_isNone A.1, st_isNone A.1⟩
  | .bop an is, sc, e, h0 => anyK h0 fun t ht h => bt3 h fun h1 h2 h3 => by
    refine xBopE e ht fun p => ?_
    have r := (embs_ok K is _ _ h3).2
    exact ⟨se_bop (of_decide_eq_true h1) r.1 (ne_of h2), st_bop (of_decide_eq_true h1) r.2⟩
  | .not a, sc, e, h0 => anyK h0 fun t ht h => bt2 h fun h1 h2 => by
    refine xUnE e ht fun p => ?_
    refine eqE t.1 h1 ?_
    have A := emb_ok K a _ _ h2
    exact ⟨se_not A.1, st_not A.2⟩
  | .neg a, sc, e, h0 => anyK h0 fun t ht h => bt2 h fun h1 h2 => by
    refine xUnE e ht fun p => ?_
    refine eqE t.1 h1 ?_
    exact both rfl (se_neg (emb_ok K a _ _ h2).1)
  | .ite c a b, sc, e, h0 => anyK h0 fun t ht h => bt3 h fun h1 h2 h3 => by
    refine xIfE e ht fun p => ?_
    have C := emb_ok K c _ _ h1
    have A := emb_ok K a _ _ h2
    have B := emb_ok K b _ _ h3
    exact ⟨se_ite C.2 A.1 B.1, st_ite C.2 A.2 B.2⟩
  | .sub o i, sc, e, h0 => anyK h0 fun t ht h => bt2 h fun h1 h2 => by
    refine xSubE e ht fun p => ?_
    exact both rfl (se_sub (emb_ok K o _ _ h1).1 (emb_ok K i _ _ h2).1)
  | .slice o l u, sc, e, h0 => anyK h0 fun t ht h => anyK h fun r hr h => bt4 h fun h1 h2 h3 h4 => by
    refine xSubE e ht fun p => ?_
    refine xSliE t.2 hr fun q => ?_
    refine noE r.2.2 h1 ?_
    exact both rfl (se_slice (emb_ok K o _ _ h2).1 (embo_ok K l _ _ h3) (embo_ok K u _ _ h4))
  | .tup is, sc, e, h0 => anyK h0 fun t ht h => bt2 h fun h1 h2 => by
    refine xTupE e ht fun k p => ?_
    exact both rfl (se_tup K.B.ok K.B.kf (embs_ok K is _ _ h2).1 (le5 h1))
  | .list is, sc, e, h0 => anyK h0 fun t ht h => bt2 h fun h1 h2 => by
    refine xListE e ht fun p => ?_
    exact both rfl (se_list (embs_ok K is _ _ h2).1 (le5 h1))
  | .comp a x src, sc, e, h0 => anyK h0 fun t ht h => anyK h fun g hgn h => bt8 h fun h1 h2 h3 h4 h5 h6 h7 h8 => by
    refine xLcE e ht fun p => ?_
    refine l1E t.2.1 hgn ?_
    have A := emb_ok K src _ _ h7
    obtain ⟨tg, it, ifs, as⟩ := g
    have h2 : ifs.isEmpty = true := h2
    have h3 : (as == 0) = true := h3
    rw [List.isEmpty_iff.mp h2, beq_iff_eq.mp h3]
    refine xNameE tg (of_decide_eq_true h1) fun q => ?_
    exact both rfl (se_comp rfl h4 (lk h5) (fun env x => set_plain h6 env x) A.1 (emb_ok K a _ _ h8).1)
  | .lam f, sc, e, h0 => anyK h0 fun t ht h => bt3 h fun h1 h2 h3 => by
    refine xLamE e ht ?_
    exact both rfl (se_lam K.B.ok K.B.kf K.LF (lamNo_lt f) rfl h2 (K.hl _ _ _ _ _ h3))
theorem embs_ok (K : Ck G C n D gt lamOk) : ∀ (is : List IE) (sc : Sc) (es : List Expr), embEs gt lamOk sc is es = true → SEs G C n sc is es ∧ BAll (SE G C n sc) is es ∧ BAll (ST G C n sc) is es
  | [], sc, es, h0 => by
    refine emE es h0 ?_
    exact ⟨ses_nil, .nil, .nil⟩
  | i :: is, sc, [], h => (Bool.false_ne_true h).elim
  | i :: is, sc, e :: es, h0 => bt3 (show ((notStar e && embE gt lamOk sc i e) && embEs gt lamOk sc is es) = true from h0) fun h1 h2 h3 => by
    have a := emb_ok K i _ _ h2
    have b := embs_ok K is _ _ h3
    exact ⟨ses_cons h1 a.1 b.1, .cons a.1 b.2.1, .cons a.2 b.2.2⟩
theorem embo_ok (K : Ck G C n D gt lamOk) : ∀ (i : Option IE) (sc : Sc) (e : Option Expr), embO gt lamOk sc i e = true → SO G C n sc i e
  | none, sc, e, h0 => by
    refine noE e h0 ?_
    exact so_none
  | some i, sc, none, h => (Bool.false_ne_true h).elim
  | some i, sc, some e, h => so_some (emb_ok K i sc e h).1
end
mutual
theorem embs1_ok (K : Ck G C n D gt lamOk) : ∀ (i : IS) (sc : Sc) (s : Stmt), embS1 gt lamOk sc i s = true → S1 G C n sc i s
  | .asg x a, sc, s, h0 => anyK h0 fun t ht h => anyK h fun tg hb h => bt4 h fun h1 h2 h3 h4 => by
    refine yAsgE s ht fun p => ?_
    refine l1E t.1 hb ?_
    refine xNameE tg (of_decide_eq_true h1) fun q => ?_
    exact s1_asg rfl (lk h2) h3 (emb_ok K a _ _ h4).1
  | .asgC x a, sc, s, h0 => anyK h0 fun t ht h => anyK h fun tg hb h => bt5 h fun h1 h2 h3 h4 h5 => by
    refine yAsgE s ht fun p => ?_
    refine l1E t.1 hb ?_
    refine xNameE tg (of_decide_eq_true h1) fun q => ?_
    exact s1_asgC (n30 h2) rfl (lk h3) h4 (emb_ok K a _ _ h5).1
  | .asgA o x a, sc, s, h0 => anyK h0 fun t ht h => anyK h fun tg hb h => anyK h fun r hr h => bt4 h fun h1 h2 h3 h4 => by
    refine yAsgE s ht fun p => ?_
    refine l1E t.1 hb ?_
    refine xAttrE tg hr ?_
    exact s1_asgA K.B.ok K.B.kf (be h1) h2 (emb_ok K o _ _ h3).1 (emb_ok K a _ _ h4).1
  | .asgI o i a, sc, s, h0 => anyK h0 fun t ht h => anyK h fun tg hb h => anyK h fun r hr h => bt4 h fun h1 h2 h3 h4 => by
    refine yAsgE s ht fun p => ?_
    refine l1E t.1 hb ?_
    refine xSubE tg hr fun q => ?_
    exact s1_asgI h1 (emb_ok K o _ _ h2).1 (emb_ok K i _ _ h3).1 (emb_ok K a _ _ h4).1
  | .expr a, sc, s, h0 => anyK h0 fun t ht h => bt2 h fun h1 h2 => by
    refine yExprE s ht fun p => ?_
    exact s1_expr h1 (emb_ok K a _ _ h2).1
  | .iff c a b, sc, s, h0 => anyK h0 fun t ht h => bt3 h fun h1 h2 h3 => by
    refine yIfE s ht fun p => ?_
    exact s1_iff (emb_ok K c _ _ h1).2 (embss_ok K a _ _ h2) (embss_ok K b _ _ h3)
  | .wh c b, sc, s, h0 => anyK h0 fun t ht h => bt3 h fun h1 h2 h3 => by
    refine yWhE s ht fun p => ?_
    refine emE t.2.2 h1 ?_
    exact s1_wh (emb_ok K c _ _ h2).2 (embss_ok K b _ _ h3)
  | .for_ x src b, sc, s, h0 => anyK h0 fun t ht h => bt6 h fun h1 h2 h3 h4 h5 h6 => by
    refine yForE s ht fun p => ?_
    refine emE t.2.2.2 h2 ?_
    have A := emb_ok K src _ _ h5
    refine xNameE t.1 (of_decide_eq_true h1) fun q => ?_
    exact s1_for rfl (lk h3) (fun env x => set_plain h4 env x) A.1 (embss_ok K b _ _ h6)
  | .ret a, sc, s, h0 => anyK h0 fun t ht h => anyK h fun e he h => by
    refine yRetE s ht fun p => ?_
    refine soE t he ?_
    exact s1_ret (emb_ok K a _ _ h).1
  | .raise a, sc, s, h0 => anyK h0 fun t ht h => anyK h fun e he h => bt2 h fun h1 h2 => by
    refine yRaiE s ht fun p => ?_
    refine soE t.1 he ?_
    refine noE t.2 h1 ?_
    exact s1_raise K.B.ok K.B.kf (emb_ok K a _ _ h2).1
  | .try_ b x hh, sc, s, h => (Bool.false_ne_true h).elim
theorem embss_ok (K : Ck G C n D gt lamOk) : ∀ (is : List IS) (sc : Sc) (ss : List Stmt), embS gt lamOk sc is ss = true → SS G C n sc is ss
  | [], sc, ss, h0 => by
    refine emE ss h0 ?_
    exact ss_nil
  | i :: is, sc, [], h => (Bool.false_ne_true h).elim
  | i :: is, sc, s :: ss, h0 => bt2 (show (embS1 gt lamOk sc i s && embS gt lamOk sc is ss) = true from h0) fun h1 h2 => ss_cons (embs1_ok K i _ _ h1) (embss_ok K is _ _ h2)
end
end
end Mine
end
section
open PySem PySem.W PySem.Calls PyProof.Rows
set_option genSizeOf false
set_option genInjectivity false
namespace Mine
open Sem (wp)
open IE IS N
theorem dFn_ok {d : Data} {t : FuncData} (h : dFn d = some t) : d = .func t :=
  difSome h fun c h => Data.func.elim (motive := fun d => ∀ c, Data.func.elim (motive := fun _ => Option (FuncData)) d c (fun fd => some fd) = some t → d = .func t) d c (fun fd _ h => byS h fun e => by cases e; rfl) c h
inductive WireB : List Stmt → Prop where
  | mk (p1 p2 p3 p4 q1 q2 q3 q4 : Pos) : WireB (wireBody p1 p2 p3 p4 q1 q2 q3 q4)
inductive AtomB : List Stmt → Prop where
  | mk (p1 p2 p3 p4 : Pos) : AtomB (atomBody p1 p2 p3 p4)
inductive FaultB : List Stmt → Prop where
  | mk (p1 p2 p3 p4 p5 p6 q1 q2 q3 q4 r1 r2 r3 r4 : Pos) : (p2.endLine == p5.line) = true → FaultB (faultBody p1 p2 p3 p4 p5 p6 q1 q2 q3 q4 r1 r2 r3 r4)
inductive AskB (e : List Stmt → Bool) : List Stmt → Prop where
  | mk (pt ph h0 h1 h2 h3 h4 h5 : Pos) (k : Nat) (tryB : List Stmt) : e tryB = true →
    AskB e [.Try tryB [.ExceptHandler (some (.Name "WireFault" h0)) (some "fault") [.Return (some (.Tuple [.Constant (.str "fault") 0 h1, .Attribute (.Name N.nFault.str h2) N.nAt.str h3] k h4)) h5] ph] [] [] pt]
inductive ExcK (K : Frag) : Prop where
  | mk (nm q : Str) (N₀ : Addr) (bs bm : List Value) (hdct : Bool) (sn : List Str) (sub : List Value) (ab : Bool) (col : Option Bool) (dd : Option Addr) (k0 k1 k2 k3 k5 : Option Value) :
    K.lookup clsFault = some (excClassObj nm q clsFault N₀ bs bm hdct sn sub ab col dd k0 k1 k2 k3 k5 excN) →
    (Value.ref clsFault :: bm).contains (.type "Exception") = true → (Value.ref clsFault :: bm).contains (.type "AttributeError") = false → (Value.ref clsFault :: bm).contains (.type "NameError") = false → bm.contains (.type "BaseException") = true → ExcK K
/-- all that the program has to be -/
structure PF (G : Glob) (D : Nat → LamD) (gt : List (Str × V)) (lamOk : Nat → Arguments → Expr → Scope → Pos → Bool) : Prop where
  ok : G.Ok
  kf : KFact G.K
  lf : LamF G D
  gl : ∀ p ∈ gt, GlobLoad G p.1 p.2
  hl : ∀ k params body scope pos, lamOk k params body scope pos = true → D k = ⟨params, body, scope, pos⟩
  fn : ∀ f ∈ plainF, FnF G f (bodyAt G.K f) (scAt G.K f)
  em : ∀ f ∈ plainF, embS gt lamOk (scAt G.K f) (body f) (bodyAt G.K f) = true
  lamB : ∀ k, embE gt lamOk (D k).scope.names (lamBody k) (D k).body = true
  askF : FnF G .lAsked (bodyAt G.K .lAsked) (scAt G.K .lAsked)
  askB : AskB (embS gt lamOk (scAt G.K .lAsked) (body .lAsked)) (bodyAt G.K .lAsked)
  ask1 : (scAt G.K .lAsked).lookup N.nFault.str = some .local
  ask2 : (scAt G.K .lAsked).lookup ("WireFault" : Str) = some .globalImplicit
  gW : G.mg "WireFault" = some (.ref clsFault)
  gE : G.mg "Exception" = none
  wB : WireB (bodyAt G.K .wInit)
  wKi : findIn G.K (.ref clsWire) "__init__" = some (some (.ref F.wInit.addr))
  wTy : typeIn G.K (.ref F.wInit.addr) = some (.type "function")
  aB : AtomB (bodyAt G.K .atomInit)
  aKi : findIn G.K (.ref clsAtom) "__init__" = some (some (.ref F.atomInit.addr))
  aTy : typeIn G.K (.ref F.atomInit.addr) = some (.type "function")
  fI : InitF G initA (bodyA G.K initA) (scA G.K initA)
  fB : FaultB (bodyA G.K initA)
  fF : FaultF G.K
  fX : ExcK G.K
  fKi : findIn G.K (.ref clsFault) "__init__" = some (some (.ref initA))
theorem plain_isP {f : F} (hf : f ∈ plainF) : isP f = true := by
  have key : ∀ f : F, (!plainF.any (fEq f) || isP f) = true := fun f => by cases f <;> rfl
  have e : plainF.any (fEq f) = true := List.any_eq_true.mpr ⟨f, hf, beq_self_eq_true _⟩
  have k := key f
  rw [e] at k
  exact k
theorem allF_cases {f : F} (h : f ∈ allF) : f = .lAsked ∨ f ∈ plainF := by
  have key : ∀ f : F, (fEq f .lAsked || plainF.any (fEq f) || !allF.any (fEq f)) = true := fun f => by cases f <;> rfl
  have hf : allF.any (fEq f) = true := List.any_eq_true.mpr ⟨f, h, by unfold fEq; exact beq_self_eq_true _⟩
  have k := key f
  rw [hf, Bool.not_true, Bool.or_false] at k
  exact (Bool.or_eq_true_iff.mp k).imp fEq_ok fAny_ok
section
variable {G : Glob} {D : Nat → LamD} {gt : List (Str × V)} {lamOk : Nat → Arguments → Expr → Scope → Pos → Bool}
theorem PF.ck (P : PF G D gt lamOk) {n : Nat} (B : Host G (WC n) n) : Ck G (WC n) n D gt lamOk := ⟨B, P.lf, P.gl, P.hl⟩
theorem ctors (P : PF G D gt lamOk) {n : Nat} {C : Ct} {a : Addr} (ha : a = clsWire ∨ a = clsAtom ∨ a = clsFault) {l : List Env} {σ : St} {s : Shared} {A : Around} {vs : List Value} {Q : Kt} {X : Xt} (R : Rel G l σ s) (H : AOk n l A)
    (h : callV C (.ref a) (vs.map av) σ Q X) : wN (Md G) A (call (.ref a) vs) (QS G l Q) (EC G l X) s := by
  rcases ha with rfl | rfl | rfl
  · have FF := P.fn .wInit (fAny_ok rfl)
    have B := P.wB
    generalize bodyAt G.K .wInit = sb at FF B
    cases B with
    | mk => exact ctor_wire P.ok P.kf FF P.wKi P.wTy R H h
  · have FF := P.fn .atomInit (fAny_ok rfl)
    have B := P.aB
    generalize bodyAt G.K .atomInit = sb at FF B
    cases B with
    | mk => exact ctor_atom P.ok P.kf FF P.aKi P.aTy R H h
  · have FF := P.fI
    have B := P.fB
    generalize bodyA G.K initA = sb at FF B
    cases B with
    | mk _ _ _ _ _ _ _ _ _ _ _ _ _ _ hx =>
      cases P.fX with
      | mk _ _ _ _ _ _ _ _ _ _ _ _ _ _ _ _ hC hcB hcA hcN hbase => exact ctor_fault P.ok FF P.fF hx P.gE hcB hcA hcN hC P.fKi R H h
theorem lam_k (P : PF G D gt lamOk) : ∀ k c cc ob, G.lamP k c cc ob → ∃ fd, ob.data = .func fd := fun k c cc ob h => by
  rw [P.lf.lamP] at h
  obtain ⟨pm, ctv, rfl⟩ := h
  exact ⟨_, rfl⟩
theorem call_asked (P : PF G D gt lamOk) {n : Nat} (B : Host G (WC n) n) {l : List Env} {σ : St} {s : Shared} {A : Around} {vs : List Value} {Q : Kt} {X : Xt} (R : Rel G l σ s) (H : AOk (n + 1) l A) (h : WC (n + 1) .lAsked (vs.map av) σ Q X) :
    cN (Md G) A (.call (.ref F.lAsked.addr) ⟨vs, []⟩) (Ret (QS G l Q) (EC G l X)) s := by
  match vs, h with
  | [], h => exact h.elim
  | [_], h => exact h.elim
  | _ :: _ :: _ :: _, h => exact h.elim
  | [u, v], h =>
    have FF := P.askF
    have AB := P.askB
    generalize bodyAt G.K .lAsked = sb at FF AB
    cases AB with
    | mk _ _ _ _ _ _ _ _ _ tryB hb =>
      cases P.fX with
      | mk _ _ _ _ _ _ _ _ _ _ _ _ _ _ _ _ hC _ _ _ hbase =>
        refine call_gen (f := .lAsked) P.ok FF R H (Nat.le_refl 2) (Nat.le_refl 2) fun env Lf s' hL T hf R' H' => ?_
        refine asked_try (Q := fun fl τ => ∃ ρ, ρ.le (τ.del Lf) ∧ Q (retV fl) ρ) (Y := Q) P.ok P.kf T hf P.ask1 P.ask2 P.gW hC hbase (embss_ok (P.ck B) _ _ _ hb) R' H' ?_ (fun v τ hτ q => ⟨τ, ?_, q⟩)
        · show WE (WC n) none (.tup [.call (L nDeed) [], .attr (L nWire) nAt]) Lf _ (fun v τ => ∃ ρ, ρ.le (τ.del Lf) ∧ Q v ρ) _
          exact h Lf hL
        · rw [St.del_none _ hτ]; exact St.le_refl _
theorem host (P : PF G D gt lamOk) : ∀ n, Host G (WC n) n
  | 0 => ⟨P.ok, P.kf, fun f hf {l σ s A vs Q X} R H h => (h : False).elim, fun a ha {l σ s A vs Q X} R H h => ctors P ha R H h, fun {a k c cc l σ s A Q X} ha hj R H h => (h : False).elim, lam_k P⟩
  | n + 1 => by
    have B := host P n
    refine ⟨P.ok, P.kf, fun f hf {l σ s A vs Q X} R H h => ?_, fun a ha {l σ s A vs Q X} R H h => ctors P ha R H h, fun {a k c cc l σ s A Q X} ha hj R H h => ?_, lam_k P⟩
    · rcases allF_cases hf with rfl | hp
      · exact call_asked P B R H h
      · rw [WC_plain (plain_isP hp), List.length_map] at h
        exact call_fn P.ok (P.fn f hp) (embss_ok (P.ck B) _ _ _ (P.em f hp)) R H h.1 h.2.1 h.2.2
    · refine call_lam P.ok P.lf (emb_ok (P.ck B) _ _ _ (P.lamB k)).1 ha hj R H ?_
      cases k with
      | zero => exact h
      | succ k => exact h
end
end Mine
end
section
open PySem PySem.W PySem.Calls PyProof.Rows
namespace Mine
open Sem (wp)
structure Plain (fd : FuncData) (ps : List Str) : Prop where
  po : fd.params.posonlyargs = []
  ar : fd.params.args.map (·.arg) = ps
  va : fd.params.vararg = none
  ko : fd.params.kwonlyargs = []
  kw : fd.params.kwarg = none
/-- a function with these parameters -/
noncomputable abbrev fnW (fd : FuncData) (as : List Arg) (d : Value) : FuncData := { fd with params := ⟨[], as, none, [], fd.params.kw_defaults, none, fd.params.defaults⟩, defaults := d }
theorem plain_eq {fd : FuncData} {ps : List Str} {d : Value} (P : Plain fd ps) (hd : fd.defaults = d) : fd = fnW fd fd.params.args d := by
  obtain ⟨nm, qn, ⟨po, ar, va, ko, kd, kw, df⟩, bd, sc, gl, cl, dd, kdf, dc, pm, an, co, ct, bl⟩ := fd
  obtain ⟨h1, h2, h3, h4, h5⟩ := P
  have h1 : po = [] := h1
  have h3 : va = none := h3
  have h4 : ko = [] := h4
  have h5 : kw = none := h5
  have hd : dd = d := hd
  subst h1 h3 h4 h5 hd
  rfl
noncomputable abbrev ag (x : Str) (a : Arg) : Arg := ⟨x, a.annotation, a.pos⟩
theorem args_eq : ∀ {as : List Arg} {ps : List Str}, as.map (·.arg) = ps → ∃ bs : List Arg, bs.length = ps.length ∧ as = List.zipWith ag ps bs
  | [], _, h => ⟨[], by rw [← h]; rfl, by rw [← h]; rfl⟩
  | a :: as, _, h => by
    obtain ⟨bs, h1, h2⟩ := args_eq (as := as) rfl
    refine ⟨a :: bs, ?_, ?_⟩ <;> rw [← h]
    · exact congrArg Nat.succ h1
    · rw [List.map_cons, List.zipWith_cons_cons, ← h2]; cases a; rfl
theorem lenA {α : Type} {l : List α} (h : l.length = 1) : ∃ a, l = [a] := List.length_eq_one_iff.mp h
theorem lenB {α : Type} {l : List α} (h : l.length = 2) : ∃ a b, l = [a, b] := by
  cases l with
  | nil => exact Nat.noConfusion h
  | cons a r => obtain ⟨b, rfl⟩ := lenA (Nat.succ.inj h); exact ⟨a, b, rfl⟩
theorem lenC {α : Type} {l : List α} (h : l.length = 3) : ∃ a b c, l = [a, b, c] := by
  cases l with
  | nil => exact Nat.noConfusion h
  | cons a r => obtain ⟨b, c, rfl⟩ := lenB (Nat.succ.inj h); exact ⟨a, b, c, rfl⟩
theorem arg1 {as : List Arg} {x : Str} (h : as.map (·.arg) = [x]) : ∃ a, as = [ag x a] := by
  obtain ⟨bs, h1, h2⟩ := args_eq h
  obtain ⟨a, rfl⟩ := lenA h1
  exact ⟨a, h2⟩
theorem arg2 {as : List Arg} {x y : Str} (h : as.map (·.arg) = [x, y]) : ∃ a b, as = [ag x a, ag y b] := by
  obtain ⟨bs, h1, h2⟩ := args_eq h
  obtain ⟨a, b, rfl⟩ := lenB h1
  exact ⟨a, b, h2⟩
theorem arg3 {as : List Arg} {x y z : Str} (h : as.map (·.arg) = [x, y, z]) : ∃ a b c, as = [ag x a, ag y b, ag z c] := by
  obtain ⟨bs, h1, h2⟩ := args_eq h
  obtain ⟨a, b, c, rfl⟩ := lenC h1
  exact ⟨a, b, c, h2⟩
noncomputable def B1 (x : N) : Prop := ∀ (fd : FuncData) (a : Arg) (v : Value), bindArgs (fnW fd [ag x.str a] .none) ⟨[v], []⟩ = pure [(x.str, v)]
noncomputable def B2 (x y : N) : Prop := ∀ (fd : FuncData) (a b : Arg) (v u : Value), bindArgs (fnW fd [ag x.str a, ag y.str b] .none) ⟨[v, u], []⟩ = pure [(x.str, v), (y.str, u)]
noncomputable def B3 (x y z : N) : Prop := ∀ (fd : FuncData) (a b c : Arg) (v u t : Value), bindArgs (fnW fd [ag x.str a, ag y.str b, ag z.str c] .none) ⟨[v, u, t], []⟩ = pure [(x.str, v), (y.str, u), (z.str, t)]
theorem B1_ok : ∀ x, B1 x := fun x fd a v => by cases x <;> rfl
noncomputable def pairs : List (N × N) := [(.nSelf, .nText), (.nSelf, .nWhat), (.nSelf, .nOctets), (.nSelf, .nFits), (.nSelf, .nRead), (.nBag, .nMany), (.nData, .nAt), (.nWire, .nDeed)]
noncomputable def triples : List (N × N × N) := [(.nSelf, .nOctets, .nWhat), (.nSelf, .nFits, .nWhat), (.nData, .nAt, .nBarred), (.nData, .nAt, .nDepth)]
theorem B2_ok : ∀ p ∈ pairs, B2 p.1 p.2 := by
  refine List.forall_mem_cons.mpr ⟨fun _ _ _ _ _ => rfl, List.forall_mem_cons.mpr ⟨fun _ _ _ _ _ => rfl, List.forall_mem_cons.mpr ⟨fun _ _ _ _ _ => rfl, List.forall_mem_cons.mpr ⟨fun _ _ _ _ _ => rfl,
    List.forall_mem_cons.mpr ⟨fun _ _ _ _ _ => rfl, List.forall_mem_cons.mpr ⟨fun _ _ _ _ _ => rfl, List.forall_mem_cons.mpr ⟨fun _ _ _ _ _ => rfl, List.forall_mem_cons.mpr ⟨fun _ _ _ _ _ => rfl, fun _ h => nomatch h⟩⟩⟩⟩⟩⟩⟩⟩
theorem B3_ok : ∀ p ∈ triples, B3 p.1 p.2.1 p.2.2 := by
  refine List.forall_mem_cons.mpr ⟨fun _ _ _ _ _ _ _ => rfl, List.forall_mem_cons.mpr ⟨fun _ _ _ _ _ _ _ => rfl, List.forall_mem_cons.mpr ⟨fun _ _ _ _ _ _ _ => rfl, List.forall_mem_cons.mpr ⟨fun _ _ _ _ _ _ _ => rfl, fun _ h => nomatch h⟩⟩⟩⟩
/-- the parameter lists of the program -/
noncomputable def PsOk (ps : List N) : Prop := (∃ x, ps = [x]) ∨ (∃ (i : Nat) (p : N × N), pairs[i]? = some p ∧ ps = [p.1, p.2]) ∨ (∃ (i : Nat) (t : N × N × N), triples[i]? = some t ∧ ps = [t.1, t.2.1, t.2.2])
theorem binds0 {s : Shared} {fd : FuncData} {ps : List N} {vs : List Value} (P : Plain fd (ps.map N.str)) (ok : PsOk ps) (hd : fd.defaults = .none) (hv : vs.length = ps.length) : BindsTo s fd ⟨vs, []⟩ ((ps.map N.str).zip vs) := by
  rw [plain_eq P hd]
  rcases ok with ⟨x, rfl⟩ | ⟨i, p, hp, rfl⟩ | ⟨i, p, hp, rfl⟩
  · obtain ⟨a, ha⟩ := arg1 P.ar
    obtain ⟨v, rfl⟩ := lenA hv
    rw [ha]
    exact .of_eq (B1_ok x fd a v)
  · obtain ⟨a, b, ha⟩ := arg2 P.ar
    obtain ⟨v, u, rfl⟩ := lenB hv
    rw [ha]
    exact .of_eq (B2_ok p (List.mem_of_getElem? hp) fd a b v u)
  · obtain ⟨a, b, c, ha⟩ := arg3 P.ar
    obtain ⟨v, u, t, rfl⟩ := lenC hv
    rw [ha]
    exact .of_eq (B3_ok p (List.mem_of_getElem? hp) fd a b c v u t)
theorem bind1 {fd : FuncData} {x : N} {v : Value} (P : Plain fd [x.str]) (hd : fd.defaults = .none) : bindArgs fd ⟨[v], []⟩ = pure [(x.str, v)] := by
  obtain ⟨a, ha⟩ := arg1 P.ar
  rw [plain_eq P hd, ha]
  exact B1_ok x fd a v
section
variable {s : Shared} {fd : FuncData} {T : Addr} {o : Obj} {d : Value} {n : Nat} {v u t : Value}
theorem binds_d2 {x y : N} (hxy : (x, y) = (.nSelf, .nDepth)) (P : Plain fd ([x, y].map N.str)) (hd : fd.defaults = .ref T) (ho : s.heap.get? T = some o) (hs : o.data = .seq #[d] n) : BindsTo s fd ⟨[v, u], []⟩ [(x.str, v), (y.str, u)] ∧ BindsTo s fd ⟨[v], []⟩ [(x.str, v), (y.str, d)] := by
  cases hxy
  obtain ⟨a, b, ha⟩ := arg2 P.ar
  rw [plain_eq P hd, ha]
  constructor
  · intro M A E Q hq
    show wpAny M A (seqItems? (.ref T) >>= _) Q E s
    exact wpAny_bind (wpAny_seqItems ho hs (wpAny_pure hq))
  · intro M A E Q hq
    show wpAny M A (seqItems? (.ref T) >>= _) Q E s
    exact wpAny_bind (wpAny_seqItems ho hs (wpAny_pure hq))
theorem binds_d3 {x y z : N} (hxy : (x, y, z) = (.nSelf, .nData, .nAt)) (P : Plain fd ([x, y, z].map N.str)) (hd : fd.defaults = .ref T) (ho : s.heap.get? T = some o) (hs : o.data = .seq #[d] n) : BindsTo s fd ⟨[v, u, t], []⟩ [(x.str, v), (y.str, u), (z.str, t)] ∧ BindsTo s fd ⟨[v, u], []⟩ [(x.str, v), (y.str, u), (z.str, d)] := by
  cases hxy
  obtain ⟨a, b, c, ha⟩ := arg3 P.ar
  rw [plain_eq P hd, ha]
  constructor
  · intro M A E Q hq
    show wpAny M A (seqItems? (.ref T) >>= _) Q E s
    exact wpAny_bind (wpAny_seqItems ho hs (wpAny_pure hq))
  · intro M A E Q hq
    show wpAny M A (seqItems? (.ref T) >>= _) Q E s
    exact wpAny_bind (wpAny_seqItems ho hs (wpAny_pure hq))
theorem binds_dI (P : Plain fd ([N.nSelf, N.nWhat, N.nAt].map N.str)) (hd : fd.defaults = .ref T) (ho : s.heap.get? T = some o) (hs : o.data = .seq #[d] n) : BindsTo s fd ⟨[v, u, t], []⟩ [(N.nSelf.str, v), (N.nWhat.str, u), (N.nAt.str, t)] := by
  obtain ⟨a, b, c, ha⟩ := arg3 P.ar
  rw [plain_eq P hd, ha]
  intro M A E Q hq
  show wpAny M A (seqItems? (.ref T) >>= _) Q E s
  exact wpAny_bind (wpAny_seqItems ho hs (wpAny_pure hq))
end
/-- the parameter lists, by a look -/
noncomputable def psOk : List N → Bool
  | [] => false
  | x :: r => match r with
    | [] => true
    | y :: r => match r with
      | [] => pairs.any fun p => p.1.nat == x.nat && p.2.nat == y.nat
      | z :: r => r.isEmpty && triples.any fun p => p.1.nat == x.nat && p.2.1.nat == y.nat && p.2.2.nat == z.nat
theorem psOk_ok : ∀ {ps : List N}, psOk ps = true → PsOk ps
  | [], h => nomatch h
  | [x], _ => .inl ⟨x, rfl⟩
  | [x, y], h => by
    obtain ⟨p, hp, e⟩ := List.any_eq_true.mp (show (pairs.any fun p => p.1.nat == x.nat && p.2.nat == y.nat) = true from h)
    obtain ⟨i, hi⟩ := List.getElem?_of_mem hp
    have e := bt e
    rw [← nat_inj (beq_iff_eq.mp e.1), ← nat_inj (beq_iff_eq.mp e.2)]
    exact .inr (.inl ⟨i, p, hi, rfl⟩)
  | x :: y :: z :: r, h => by
    have h := bt (show (r.isEmpty && triples.any fun p => p.1.nat == x.nat && p.2.1.nat == y.nat && p.2.2.nat == z.nat) = true from h)
    obtain ⟨p, hp, e⟩ := List.any_eq_true.mp h.2
    obtain ⟨i, hi⟩ := List.getElem?_of_mem hp
    have e := bt e
    have e1 := bt e.1
    rw [← nat_inj (beq_iff_eq.mp e1.1), ← nat_inj (beq_iff_eq.mp e1.2), ← nat_inj (beq_iff_eq.mp e.2), List.isEmpty_iff.mp h.1]
    exact .inr (.inr ⟨i, p, hi, rfl⟩)
noncomputable def dOk (f : F) : Bool := fEq f .lam0 || fEq f .lam1 || fEq f .wInit || fEq f .wValue || (psOk (params f) && (dflt f).isEmpty)
theorem dOk_ok : ∀ f : F, dOk f = true := fun f => by cases f <;> rfl
/-- how a function of the program binds -/
theorem binds_of {f : F} {ds : List Value} {fd : FuncData} {s : Shared} {vs : List Value} (h0 : f ≠ .lam0) (h1 : f ≠ .lam1) (P : Plain fd ((params f).map N.str))
    (hd : (dflt f = [] → fd.defaults = .none ∧ ds = []) ∧ (dflt f ≠ [] → ∃ T o d n, fd.defaults = .ref T ∧ s.heap.get? T = some o ∧ o.data = .seq #[d] n ∧ ds = [d]))
    (k1 : (params f).length ≤ vs.length + ds.length) (k2 : vs.length ≤ (params f).length) : BindsTo s fd ⟨vs, []⟩ (((params f).map N.str).zip (vs ++ ds.drop (vs.length + ds.length - (params f).length))) := by
  have key := dOk_ok f
  by_cases e : f = .wInit
  · subst e
    obtain ⟨T, o, d, n, a1, a2, a3, rfl⟩ := hd.2 (fun z => nomatch z)
    have B (v u t) := binds_d3 (v := v) (u := u) (t := t) rfl P a1 a2 a3
    match vs, k1, k2 with
    | [v, u, t], _, _ => exact (B v u t).1
    | [v, u], _, _ => exact (B v u u).2
    | [], k1, _ => exact absurd (Nat.ble_eq_true_of_le k1) Bool.false_ne_true
    | [_], k1, _ => exact absurd (Nat.ble_eq_true_of_le k1) Bool.false_ne_true
    | _ :: _ :: _ :: _ :: r, _, k2 => exact absurd (Nat.le_of_succ_le_succ (Nat.le_of_succ_le_succ (Nat.le_of_succ_le_succ k2))) (Nat.not_succ_le_zero _)
  by_cases e' : f = .wValue
  · subst e'
    obtain ⟨T, o, d, n, a1, a2, a3, rfl⟩ := hd.2 (fun z => nomatch z)
    have B (v u) := binds_d2 (v := v) (u := u) rfl P a1 a2 a3
    match vs, k1, k2 with
    | [v, u], _, _ => exact (B v u).1
    | [v], _, _ => exact (B v v).2
    | [], k1, _ => exact absurd (Nat.ble_eq_true_of_le k1) Bool.false_ne_true
    | _ :: _ :: _ :: r, _, k2 => exact absurd (Nat.le_of_succ_le_succ (Nat.le_of_succ_le_succ k2)) (Nat.not_succ_le_zero _)
  have nf {g : F} (n : f ≠ g) : fEq f g = false := Bool.eq_false_iff.mpr fun z => n (fEq_ok z)
  unfold dOk at key
  rw [nf h0, nf h1, nf e, nf e'] at key
  have key : (psOk (params f) && (dflt f).isEmpty) = true := key
  have key := bt key
  obtain ⟨d1, rfl⟩ := hd.1 (List.isEmpty_iff.mp key.2)
  rw [List.drop_nil, List.append_nil]
  exact binds0 P (psOk_ok key.1) d1 (Nat.le_antisymm k2 k1)
end Mine
end
section
open PySem PySem.W PySem.Calls PyProof.Rows
namespace Mine
open Sem (wp)
/-! the program as the heap has it: one Bool -/
@[elab_as_elim] theorem xNmE {t : Str × Pos} {P : Expr → Prop} (e : Expr) (h : xNm e = some t) (k : P (.Name t.1 t.2)) : P e :=
  difSome h fun c h => Expr.Name.elim (motive_1 := fun e => ∀ c, Expr.Name.elim (motive_1 := fun _ => Option (Str × Pos)) e c (fun y p => some (y, p)) = some t → P e) e c (fun y p _ h => byS h fun e => by cases e; exact k) c h
theorem eqs_ok {f : Expr → Expr → Bool} (hf : ∀ a b, f a b = true → a = b) : ∀ as bs : List Expr, eqs f as bs = true → as = bs
  | [], bs, h => (List.isEmpty_iff.mp h).symm
  | a :: as, [], h => (Bool.false_ne_true h).elim
  | a :: as, b :: bs, h => bt2 (show (f a b && eqs f as bs) = true from h) fun h1 h2 => by rw [hf a b h1, eqs_ok hf as bs h2]
theorem eqX_ok : ∀ (n : Nat) (a b : Expr), eqX n a b = true → a = b
  | 0, a, b, h => (Bool.false_ne_true h).elim
  | n + 1, a, b, h => by
    rcases Bool.or_eq_true_iff.mp h with h | h
    · rcases Bool.or_eq_true_iff.mp h with h | h
      · refine anyK h fun s hs h => ?_
        refine xNmE a hs ?_
        exact xNmE (P := fun b => Expr.Name s.1 s.2 = b) b (of_decide_eq_true h) rfl
      · refine anyK h fun s hs h => anyK h fun t ht h => bt3 h fun h1 h2 h3 => ?_
        refine xAttrE a hs ?_
        refine xAttrE b ht ?_
        rw [beq_iff_eq.mp h1, of_decide_eq_true h2, eqX_ok n _ _ h3]
    · refine anyK h fun s hs h => anyK h fun t ht h => bt5 h fun h1 h2 h3 h4 h5 => ?_
      refine xCallE a hs ?_
      refine xCallE b ht ?_
      rw [em h1, em h2, of_decide_eq_true h3, eqX_ok n _ _ h4, eqs_ok (eqX_ok n) _ _ h5]
theorem emptyA_ok {a : Arguments} (h : emptyA a = true) : a = ⟨[], [], none, [], [], none, []⟩ := by
  have h1 := bt h
  have h2 := bt h1.1
  have h3 := bt h2.1
  have h4 := bt h3.1
  have h5 := bt h4.1
  have h6 := bt h5.1
  cases a with
  | mk a1 a2 a3 a4 a5 a6 a7 =>
    rw [show a1 = [] from List.isEmpty_iff.mp h6.1, show a2 = [] from List.isEmpty_iff.mp h6.2, show a3 = none from Option.isNone_iff_eq_none.mp h5.2, show a4 = [] from List.isEmpty_iff.mp h4.2, show a5 = [] from List.isEmpty_iff.mp h3.2, show a6 = none from Option.isNone_iff_eq_none.mp h2.2, show a7 = [] from List.isEmpty_iff.mp h1.2]
theorem lamOkD_ok {d : LamD × LamD} {k : Nat} {params : Arguments} {body : Expr} {scope : Scope} {pos : Pos} (h : lamOkD d k params body scope pos = true) : DK d k = ⟨params, body, scope, pos⟩ := by
  unfold lamOkD at h
  generalize DK d k = D at h
  obtain ⟨a, b, c, e⟩ := D
  have h1 := bt h
  have h2 := bt h1.1
  have h3 := bt h2.1
  have h4 := bt h3.1
  rw [emptyA_ok h4.1, show a = _ from emptyA_ok h4.2, eqX_ok _ _ _ h3.2, of_decide_eq_true h2.2, of_decide_eq_true h1.2]
theorem dFl_ok {d : Data} {t : Array Value} (h : dFl d = some t) : d = .fields t :=
  difSome h fun c h => Data.fields.elim (motive := fun d => ∀ c, Data.fields.elim (motive := fun _ => Option (Array Value)) d c (fun vs => some vs) = some t → d = .fields t) d c (fun vs _ h => byS h fun e => by cases e; rfl) c h
theorem dSq_ok {d : Data} {t : Array Value × Nat} (h : dSq d = some t) : d = .seq t.1 t.2 :=
  difSome h fun c h => Data.seq.elim (motive := fun d => ∀ c, Data.seq.elim (motive := fun _ => Option (Array Value × Nat)) d c (fun vs n => some (vs, n)) = some t → d = .seq t.1 t.2) d c (fun vs n _ h => byS h fun e => by cases e; rfl) c h
theorem vRf_ok {d : Value} {t : Addr} (h : vRf d = some t) : d = .ref t :=
  difSome h fun c h => Value.ref.elim (motive := fun d => ∀ c, Value.ref.elim (motive := fun _ => Option (Addr)) d c (fun a => some a) = some t → d = .ref t) d c (fun a _ h => byS h fun e => by cases e; rfl) c h
theorem vSt_ok {d : Value} {t : Str × Tok} (h : vSt d = some t) : d = .str t.1 t.2 :=
  difSome h fun c h => Value.str.elim (motive := fun d => ∀ c, Value.str.elim (motive := fun _ => Option (Str × Tok)) d c (fun x t' => some (x, t')) = some t → d = .str t.1 t.2) d c (fun x t' _ h => byS h fun e => by cases e; rfl) c h
theorem funAt_ok {K : Frag} {a : Addr} {fd : FuncData} (h : funAt K a = some fd) : ∃ o, K.lookup a = some o ∧ o.data = .func fd := by
  obtain ⟨o, h1, h2⟩ := Option.bind_eq_some_iff.mp h
  exact ⟨o, h1, dFn_ok h2⟩
theorem bodyOf_ok {fd : FuncData} (h : isStmts fd = true) : fd.body = .stmts (bodyOf fd) := by
  unfold isStmts at h
  unfold bodyOf
  cases hb : fd.body with
  | stmts b => rfl
  | expr b => rw [hb] at h; cases h
theorem codeOk_ok {K : Frag} {fd : FuncData} (h : codeOk K fd = true) (hp : Heap) (X : K.In hp) : hp.CodeRec fd.code fd.qualname := by
  obtain ⟨c, hc, h⟩ := anyS h
  obtain ⟨o, ho, h⟩ := anyS h
  obtain ⟨vs, hvs, h⟩ := anyS h
  obtain ⟨v, hv, h⟩ := anyS h
  obtain ⟨q, hq, h⟩ := anyS h
  exact ⟨c, o, vs, q.2, vRf_ok hc, X _ _ ho, dFl_ok hvs, by rw [hv, vSt_ok hq, beq_iff_eq.mp h]⟩
theorem plainA_ok {fd : FuncData} {ps : List Str} (h : plainA fd.params ps = true) : Plain fd ps := by
  have h1 := bt h
  have h2 := bt h1.1
  have h3 := bt h2.1
  have h4 := bt h3.1
  exact ⟨List.isEmpty_iff.mp h4.1, beq_iff_eq.mp h1.2, Option.isNone_iff_eq_none.mp h4.2, List.isEmpty_iff.mp h3.2, Option.isNone_iff_eq_none.mp h2.2⟩
theorem dflt_none {K : Frag} {fd : FuncData} (h : dfltOk K fd [] = true) : fd.defaults = .none := of_decide_eq_true h
theorem dflt_some {K : Frag} {fd : FuncData} {v : V} {r : List V} (h : dfltOk K fd (v :: r) = true) : ∃ T o d n, fd.defaults = .ref T ∧ K.lookup T = some o ∧ o.data = .seq #[d] n ∧ [d].map av = v :: r := by
  obtain ⟨T, hT, h⟩ := anyS h
  obtain ⟨o, ho, h⟩ := anyS h
  obtain ⟨x, hx, h⟩ := anyS h
  obtain ⟨d, hd, h⟩ := anyS h
  have h := bt h
  refine ⟨T, o, d, x.2, vRf_ok hT, ho, ?_, ?_⟩
  · rw [dSq_ok hx]
    exact congrArg (Data.seq · x.2) (Array.ext' (l1_ok hd))
  · rw [show r = [] from List.isEmpty_iff.mp h.2, ← vEq_ok h.1]; rfl
theorem dflt_one {K : Frag} {fd : FuncData} {v : V} (h : dfltOk K fd [v] = true) : ∃ T o d n, fd.defaults = .ref T ∧ K.lookup T = some o ∧ o.data = .seq #[d] n := by
  obtain ⟨T, o, d, n, e1, e2, e3, _⟩ := dflt_some h
  exact ⟨T, o, d, n, e1, e2, e3⟩
structure BaseFn (fd : FuncData) : Prop where
  b : fd.body = .stmts (bodyOf fd)
  k : fd.scope.kind = .function
  c : fd.scope.isCoroutine = false
  g : fd.scope.isGenerator = false
  gl : fd.globals = mainGlobals
  bl : fd.builtins = builtinsNs
theorem baseFn_ok {fd : FuncData} (h : baseFn fd = true) : BaseFn fd := by
  have h1 := bt h
  have h2 := bt h1.1
  have h3 := bt h2.1
  have h4 := bt h3.1
  have h5 := bt h4.1
  exact ⟨bodyOf_ok h5.1, of_decide_eq_true h5.2, nt h4.2, nt h3.2, beq_iff_eq.mp h2.2, beq_iff_eq.mp h1.2⟩
theorem fnOk_ok {G : Glob} {f : F} (h0 : f ≠ .lam0) (h1 : f ≠ .lam1) (h : fnOk G.K f = true) : FnF G f (bodyAt G.K f) (scAt G.K f) := by
  unfold fnOk at h
  unfold bodyAt scAt bodyA scA
  cases hfd : funAt G.K f.addr with
  | none => rw [hfd] at h; cases h
  | some fd =>
    rw [hfd] at h
    have g1 := bt h
    have g2 := bt g1.1
    have g3 := bt g2.1
    have g4 := bt g3.1
    obtain ⟨o, ho, hd⟩ := funAt_ok hfd
    have B := baseFn_ok g4.1
    have P := plainA_ok g3.2
    have k1 := bt g1.2
    have k2 := bt k1.1
    refine ⟨?_, fun x hx => of_decide_eq_true (List.all_eq_true.mp k2.1 x hx), nt k2.2, fun x hx => of_decide_eq_true (List.all_eq_true.mp k1.2 x hx)⟩
    have h5 := g2.2
    have b := @binds_of f
    generalize e0 : dflt f = ds at h5 b
    cases ds with
    | nil => exact ⟨o, fd, [], ho, hd, B.b, rfl, B.k, B.c, B.g, B.gl, B.bl, fun hp X => codeOk_ok g4.2 hp X, e0.symm, fun vs s X k1 k2 => b h0 h1 P ⟨fun _ => ⟨dflt_none h5, rfl⟩, fun z => absurd rfl z⟩ k1 k2⟩
    | cons v r =>
      obtain ⟨T, oT, d, n, e1, e2, e3, e4⟩ := dflt_some h5
      exact ⟨o, fd, [d], ho, hd, B.b, rfl, B.k, B.c, B.g, B.gl, B.bl, fun hp X => codeOk_ok g4.2 hp X, e4.trans e0.symm, fun vs s X k1 k2 => b h0 h1 P ⟨(fun z => nomatch z), fun _ => ⟨T, oT, d, n, e1, X _ _ e2, e3, rfl⟩⟩ k1 k2⟩
end Mine
end
section
open PySem PySem.W PySem.Calls PyProof.Rows
namespace Mine
open Sem (wp)
theorem gtOk_ok {G : Glob} (O : G.Ok) (h : gtOk G.K = true) : ∀ p ∈ gt, GlobLoad G p.1 p.2 := by
  intro p hp
  obtain ⟨r, hr, h⟩ := anyS (List.all_eq_true.mp h p hp)
  rcases Bool.or_eq_true_iff.mp h with h | h
  · obtain ⟨y, rfl, hy⟩ := anyS h
    exact ⟨y, vEq_ok hy, .inl (mg_of O.kin O.g hr)⟩
  · have h1 := bt h
    have h2 := bt h1.1
    obtain ⟨y, hb, hy⟩ := anyS h1.2
    obtain rfl := Option.isNone_iff_eq_none.mp h2.1
    exact ⟨y, vEq_ok hy, .inr ⟨mg_none_of O.kin O.g hr, beq_eq_false_iff_ne.mp (nt h2.2), hb⟩⟩
theorem clsOk_ok {K : Frag} {C : Addr} (h : clsOk K C = true) : ClsF K C := by
  exact bt9 h fun h1 h2 h3 h4 h5 h6 h7 h8 h9 => ⟨of_decide_eq_true h1, of_decide_eq_true h2, of_decide_eq_true h3, h4, h5, of_decide_eq_true h6, of_decide_eq_true h7, h8, h9⟩
theorem methOk_ok {K : Frag} {f : F} (h : methOk K f = true) : MethF K f := by
  have h1 := bt h
  have h2 := bt h1.1
  have h3 := bt h2.1
  exact ⟨of_decide_eq_true h3.1, of_decide_eq_true h3.2, of_decide_eq_true h2.2, of_decide_eq_true h1.2⟩
theorem kf_ok {K : Frag} (h : (kf1 K && kf2 K && kf3 K && kf4 K && kf5 K) = true) : KFact K := by
  refine bt5 h fun z1 z2 z3 z4 z5 => bt6 z1 fun a1 a2 a3 a4 a5 a6 => bt9 z2 fun b1 b2 b3 b4 b5 b6 b7 b8 b9 => bt4 z3 fun c1 c2 c3 c4 => bt10 z4 fun d1 d2 d3 d4 d5 d6 d7 d8 d9 d10 => bt3 z5 fun e1 e2 e3 => ?_
  exact ⟨a1, fun f hf => methOk_ok (List.all_eq_true.mp a2 f hf), List.all_eq_true.mp a3, a4, a5, a6, of_decide_eq_true b1, of_decide_eq_true b2, of_decide_eq_true b3, of_decide_eq_true b4, of_decide_eq_true b5, of_decide_eq_true b6, b7, of_decide_eq_true b8, of_decide_eq_true b9, clsOk_ok c1, clsOk_ok c2, of_decide_eq_true c3, of_decide_eq_true c4, of_decide_eq_true d1, of_decide_eq_true d2, of_decide_eq_true d3, of_decide_eq_true d4, of_decide_eq_true d5, of_decide_eq_true d6, of_decide_eq_true d7, of_decide_eq_true d8, of_decide_eq_true d9, of_decide_eq_true d10, of_decide_eq_true e1, of_decide_eq_true e2, of_decide_eq_true e3⟩
/-! the shapes of the initializers -/
/-- `self.x = x` -/
inductive LineS (x : N) : Stmt → Prop where
  | mk (p1 p2 p3 p4 : Pos) : LineS x (.Assign [.Attribute (.Name N.nSelf.str p1) x.str p2] (.Name x.str p3) p4)
theorem isLine_ok {x : N} {s : Stmt} (h : isLine x s = true) : LineS x s := by
  refine anyK h fun t ht h => anyK h fun tg hg h => anyK h fun r hr h => bt3 h fun h1 h2 h3 => ?_
  refine yAsgE s ht fun p4 => ?_
  refine l1E t.1 hg ?_
  refine xAttrE tg hr ?_
  refine xNameE r.1 (of_decide_eq_true h1) fun p1 => ?_
  refine beE r.2.1 h2 ?_
  refine xNameE t.2 (of_decide_eq_true h3) fun p3 => ?_
  exact .mk ..
theorem isWireB_ok {b : List Stmt} (h : isWireB b = true) : WireB b := by
  refine anyK h fun t ht h => bt2 h fun h1 h2 => ?_
  refine l2E b ht ?_
  generalize t.1 = u at h1
  generalize t.2 = v at h2
  cases isLine_ok h1
  cases isLine_ok h2
  exact .mk ..
theorem isAtomB_ok {b : List Stmt} (h : isAtomB b = true) : AtomB b := by
  refine anyK h fun s hb h => ?_
  refine l1E b hb ?_
  cases isLine_ok h
  exact .mk ..
/-- `Exception.__init__(self, what)` -/
inductive ExcS : Stmt → Prop where
  | mk (p1 p2 p3 p4 p5 p6 : Pos) : (p2.endLine == p5.line) = true → ExcS (.Expr (.Call (.Attribute (.Name "Exception" p1) "__init__" p2) [.Name N.nSelf.str p3, .Name N.nWhat.str p4] [] p5) p6)
theorem isExc_ok {s : Stmt} (h : isExc s = true) : ExcS s := by
  refine anyK h fun e he h => anyK h fun c hc h => anyK h fun a ha h => anyK h fun r hr h => bt6 h fun h1 h2 h3 h4 h5 h6 => ?_
  refine yExprE s he fun p6 => ?_
  refine xCallE e hc ?_
  refine xAttrE c.1 ha ?_
  refine l2E c.2.1 hr ?_
  refine emE c.2.2.1 h1 ?_
  refine xNameE a.1 (of_decide_eq_true h2) fun p1 => ?_
  refine beE a.2.1 h3 ?_
  refine xNameE r.1 (of_decide_eq_true h4) fun p3 => ?_
  refine xNameE r.2 (of_decide_eq_true h5) fun p4 => ?_
  exact .mk _ _ _ _ _ _ h6
theorem isFaultB_ok : ∀ {b : List Stmt}, isFaultB b = true → FaultB b
  | [], h => (Bool.false_ne_true h).elim
  | s :: r, h => by
    refine bt2 (show (isExc s && (l2 r).any fun t => isLine .nWhat t.1 && isLine .nAt t.2) = true from h) fun h0 h => anyK h fun t hb h => bt2 h fun h1 h2 => ?_
    refine l2E r hb ?_
    generalize t.1 = u at h1
    generalize t.2 = v at h2
    cases isExc_ok h0 with
    | mk _ _ _ _ _ _ hp =>
      cases isLine_ok h1
      cases isLine_ok h2
      exact .mk _ _ _ _ _ _ _ _ _ _ _ _ _ _ hp
@[elab_as_elim] theorem xKSE {t : Str × Nat} {P : Expr → Prop} (e : Expr) (h : xKS e = some t) (k : ∀ p, P (.Constant (.str t.1) t.2 p)) : P e :=
  difSome h fun c h => Expr.Constant.elim (motive_1 := fun e => ∀ c, Expr.Constant.elim (motive_1 := fun _ => Option (Str × Nat)) e c (fun c k _ => if h : c.ctorIdx = 5 then Const.str.elim (motive := fun _ => Option (Str × Nat)) c h (fun x => some (x, k)) else none) = some t → P e) e c
    (fun c k' p _ h => difSome h fun c' h => Const.str.elim (motive := fun c => ∀ c', Const.str.elim (motive := fun _ => Option (Str × Nat)) c c' (fun x => some (x, k')) = some t → P (.Constant c k' p)) c c' (fun x _ h => byS h fun e => by cases e; exact k p) c' h) c h
/-- `return ("fault", fault.at)` -/
inductive GoneS : Stmt → Prop where
  | mk (h1 h2 h3 h4 h5 : Pos) (k : Nat) : GoneS (.Return (some (.Tuple [.Constant (.str "fault") 0 h1, .Attribute (.Name N.nFault.str h2) N.nAt.str h3] k h4)) h5)
theorem isGone_ok {s : Stmt} (h : isGone s = true) : GoneS s := by
  refine anyK h fun r hr h => anyK h fun e he h => anyK h fun es hs h => anyK h fun t ht h => anyK h fun a ha h => bt3 h fun h1 h2 h3 => ?_
  refine yRetE s hr fun q3 => ?_
  refine soE r he ?_
  refine xTupE e hs fun k q4 => ?_
  refine l2E es ht ?_
  refine xAttrE t.2 ha ?_
  refine xKSE t.1 (of_decide_eq_true h1) fun q1 => ?_
  refine xNameE a.1 (of_decide_eq_true h2) fun q2 => ?_
  refine beE a.2.1 h3 ?_
  exact .mk ..
theorem isAskedB_ok {ck : List Stmt → Bool} {bd : List Stmt} (h : isAskedB ck bd = true) : AskB ck bd := by
  refine anyK h fun s hs h => anyK h fun t ht h => anyK h fun hd hh h => anyK h fun w hw h => anyK h fun g hg h => bt6 h fun k1 k2 k3 k4 k5 k6 => ?_
  refine l1E bd hs ?_
  refine yTryE s ht fun pt => ?_
  refine l1E t.2.1 hh ?_
  refine emE t.2.2.1 k4 ?_
  refine emE t.2.2.2 k5 ?_
  cases hd with
  | ExceptHandler ty nm bd ph =>
    have hw : ty = some w := hw
    have hg : l1 bd = some g := hg
    have k2 : decide (nm = some ("fault" : Str)) = true := k2
    rw [hw, l1_ok hg]
    refine eqE nm k2 ?_
    refine xNameE w (of_decide_eq_true k1) fun h0 => ?_
    cases isGone_ok k3 with
    | mk => exact .mk _ _ _ _ _ _ _ _ _ _ k6
theorem initOk_ok {G : Glob} (h : initOk G.K = true) : InitF G initA (bodyA G.K initA) (scA G.K initA) ∧ FaultB (bodyA G.K initA) := by
  obtain ⟨fd, hfd, h⟩ := anyS h
  have g1 := bt h
  have g2 := bt g1.1
  have g3 := bt g2.1
  have g4 := bt g3.1
  have g5 := bt g4.1
  have g6 := bt g5.1
  have g7 := bt g6.1
  have g8 := bt g7.1
  have g9 := bt g8.1
  have g10 := bt g9.1
  have g11 := bt g10.1
  obtain ⟨o, ho, hd⟩ := funAt_ok hfd
  have B := baseFn_ok g11.1
  obtain ⟨T, oT, d, n, e1, e2, e3⟩ := dflt_one g9.2
  have hc : o.cls = .type "function" := by
    have h6' : (G.K.lookup initA).map (·.cls) = some (.type "function") := of_decide_eq_true g7.2
    rw [ho] at h6'
    exact Option.some.inj h6'
  have eb : bodyA G.K initA = bodyOf fd := by unfold bodyA; rw [hfd]
  have es : scA G.K initA = fd.scope.names := by unfold scA; rw [hfd]
  refine ⟨?_, isFaultB_ok g8.2⟩
  rw [eb, es]
  exact ⟨⟨o, fd, ho, hc, hd, B.b, rfl, B.k, B.c, B.g, B.gl, B.bl, fun hp X => codeOk_ok g11.2 hp X, fun u v w s X => binds_dI (plainA_ok g10.2) e1 (X _ _ e2) e3⟩, fun x hx => of_decide_eq_true (List.all_eq_true.mp g6.2 x hx), nt g5.2, of_decide_eq_true g4.2, of_decide_eq_true g3.2, of_decide_eq_true g2.2, of_decide_eq_true g1.2⟩
theorem dCl_ok {d : Data} {t : ClassData} (h : dCl d = some t) : d = .cls t :=
  difSome h fun c h => Data.cls.elim (motive := fun d => ∀ c, Data.cls.elim (motive := fun _ => Option (ClassData)) d c (fun c => some c) = some t → d = .cls t) d c (fun c _ h => byS h fun e => by cases e; rfl) c h
theorem l6_ok {l : List Vo} {a : Vo × Vo × Vo × Vo × Vo × Vo} (h : l6 l = some a) : l = [a.1, a.2.1, a.2.2.1, a.2.2.2.1, a.2.2.2.2.1, a.2.2.2.2.2] := by
  obtain ⟨x, hx, h⟩ := Option.bind_eq_some_iff.mp h
  obtain ⟨y, hy, h⟩ := Option.bind_eq_some_iff.mp h
  obtain ⟨z, hz, rfl⟩ := Option.map_eq_some_iff.mp h
  have e : l = l.take 2 ++ ((l.drop 2).take 2 ++ l.drop 4) := by
    rw [show l.drop 4 = (l.drop 2).drop 2 from (List.drop_drop (i := 2) (j := 2) (l := l)).symm, List.take_append_drop, List.take_append_drop]
  rw [e, l2_ok hx, l2_ok hy, l2_ok hz]; rfl
theorem clsEta {c : ClassData} {m : List Value} {d : Bool} (h : c.mro = m) (k : c.hasDel = d) : c = { name := c.name, bases := c.bases, mro := m, ns := c.ns, qualname := c.qualname, hasDict := c.hasDict, slotNames := c.slotNames, subclasses := c.subclasses, abstract := c.abstract, collection := c.collection, hasDel := d } := by
  subst h k; rfl
theorem ref_cons {a : Addr} {l : List Value} {n : String} : (Value.ref a :: l).contains (.type n) = l.contains (.type n) := rfl
theorem excOk_ok {K : Frag} (h : excOk K = true) : ExcK K := by
  obtain ⟨o, ho, h⟩ := anyS h
  obtain ⟨c, hc, h⟩ := anyS h
  obtain ⟨k, hk, h⟩ := anyS h
  have g1 := bt h
  have g2 := bt g1.1
  have g3 := bt g2.1
  have g4 := bt g3.1
  have g5 := bt g4.1
  have g6 := bt g5.1
  have g7 := bt g6.1
  refine .mk c.name c.qualname c.ns c.bases c.mro.tail c.hasDict c.slotNames c.subclasses c.abstract c.collection o.dict k.1 k.2.1 k.2.2.1 k.2.2.2.1 k.2.2.2.2.2 (ho.trans (congrArg some ?_)) (ref_cons.trans g4.2) (ref_cons.trans (nt g3.2)) (ref_cons.trans (nt g2.2)) g1.2
  have e1 : c = { name := c.name, bases := c.bases, mro := .ref clsFault :: c.mro.tail, ns := c.ns, qualname := c.qualname, hasDict := c.hasDict, slotNames := c.slotNames, subclasses := c.subclasses, abstract := c.abstract, collection := c.collection, hasDel := false } := clsEta (of_decide_eq_true g7.2) (nt g5.2)
  show Obj.mk o.cls o.dict o.data o.slots = _
  rw [show o.cls = _ from of_decide_eq_true g7.1, dCl_ok hc, show o.slots = _ from Array.ext' (ys := #[k.1, k.2.1, k.2.2.1, k.2.2.2.1, k.2.2.2.2.1, k.2.2.2.2.2]) (l6_ok hk), show k.2.2.2.2.1 = _ from of_decide_eq_true g6.2]
  exact congrArg (fun c' => Obj.mk _ _ (.cls c') _) e1
theorem faultFOk_ok {K : Frag} (h : faultFOk K = true) : FaultF K := by
  have h1 := bt h
  have h2 := bt h1.1
  have h3 := bt h2.1
  have h4 := bt h3.1
  exact ⟨of_decide_eq_true h4.1, h4.2, h3.2, of_decide_eq_true h2.2, of_decide_eq_true h1.2⟩
end Mine
end
section
open PySem PySem.W PySem.Calls PyProof.Rows
namespace Mine
open Sem (wp)
/-! all that is asked of the heap -/
end Mine
end
section
open PySem PySem.W PySem.Calls PyProof.Rows
namespace Mine
open Sem (wp)
theorem b2 {a b : Bool} (h : (a && b) = true) : a = true ∧ b = true := Bool.and_eq_true_iff.mp h
theorem DK_succ {d : LamD × LamD} {k : Nat} : DK d (k + 1) = d.2 := rfl
theorem lamGood_ok {d : LamD × LamD} (h : lamsOk d = true) (k : Nat) : lamGood d k = true := by
  have h := (bt (bt (bt h).1).1).1
  cases k with
  | zero => exact (bt h).1
  | succ k => exact (bt h).2
theorem lamGood_facts {d : LamD × LamD} {k : Nat} (h : lamGood d k = true) : (DK d k).params = ⟨[], [], none, [], [], none, []⟩ ∧ (DK d k).scope.kind = .function ∧ (DK d k).scope.isCoroutine = false ∧ (DK d k).scope.isGenerator = false ∧ (DK d k).scope.names = lamNames k := by
  have h1 := bt h
  have h2 := bt h1.1
  have h3 := bt h2.1
  have h4 := bt h3.1
  exact ⟨emptyA_ok h4.1, of_decide_eq_true h4.2, nt h3.2, nt h2.2, of_decide_eq_true h1.2⟩
theorem lamF_of {G : Glob} {d : LamD × LamD} (O : G.Ok) (h : lamsOk d = true) (e1 : G.lamP = lamPD (DK d)) (e2 : G.codeP = codePD) (e3 : G.tabP = tabPD (DK d)) (hc : codeHdIn G.K lawCode tabAddr = true) (hb : G.base.BuiltinsAt G.mg tabAddr) : LamF G (DK d) where
  lamP := e1
  codeP := e2
  tabP := e3
  code := fun h X => codeHd_of_K X hc
  bmod := hb
  pos := fun j k hj hk => by
    have h3 : (d.1.pos.line == d.2.pos.line && d.1.pos.col == d.2.pos.col) = false := nt (bt (bt (bt h).1).1).2
    have h3' : (d.2.pos.line == d.1.pos.line && d.2.pos.col == d.1.pos.col) = false := by
      rw [← h3, Bool.beq_comm (a := d.2.pos.line), Bool.beq_comm (a := d.2.pos.col)]
    match j, k, hj, hk with
    | 0, 0, _, _ => simp
    | 0, 1, _, _ => exact h3
    | 1, 0, _, _ => exact h3'
    | 1, 1, _, _ => simp
  dflt := fun k env => by rw [(lamGood_facts (lamGood_ok h k)).1]; rfl
  kind := fun k => (lamGood_facts (lamGood_ok h k)).2.1
  co := fun k => (lamGood_facts (lamGood_ok h k)).2.2.1
  gen := fun k => (lamGood_facts (lamGood_ok h k)).2.2.2.1
  nocell := fun k x hx => by
    rw [(lamGood_facts (lamGood_ok h k)).2.2.2.2] at hx
    cases k with
    | zero => exact of_decide_eq_true (List.all_eq_true.mp (show ((lamNames 0).all fun x => decide (x.2 ≠ .cell)) = true from rfl) x hx)
    | succ k => exact of_decide_eq_true (List.all_eq_true.mp (show ((lamNames 1).all fun x => decide (x.2 ≠ .cell)) = true from rfl) x hx)
  noask := fun k => by
    rw [(lamGood_facts (lamGood_ok h k)).2.2.2.2]
    cases k <;> rfl
  bind := fun k c pm cd ctv s => .of_eq (by
    rw [(lamGood_facts (lamGood_ok h k)).1]; rfl)
  clo := fun k env c hl => by
    unfold closureFor
    rw [(lamGood_facts (lamGood_ok h k)).2.2.2.2]
    have hc : cellOf env N.nWire.str = pure c := by unfold cellOf; rw [hl]
    unfold lamNames
    split
    · simp only [List.forIn_cons, List.forIn_nil]
      rw [show (NameKind.free == NameKind.free) = true from rfl, show (NameKind.globalImplicit == NameKind.free) = false from rfl]
      simp [hc]
    · simp only [List.forIn_cons, List.forIn_nil]
      rw [show (NameKind.free == NameKind.free) = true from rfl]
      simp [hc]
theorem PF_of {G : Glob} {d : LamD × LamD} (O : G.Ok) (hL : lamsOk d = true) (hF : fnsOk G.K d = true) (hA : askOk G.K d = true) (hI : initsOk G.K = true) (hR : restOk G.K = true) (hK : kfAll G.K = true)
    (e1 : G.lamP = lamPD (DK d)) (e2 : G.codeP = codePD) (e3 : G.tabP = tabPD (DK d)) (hb : G.base.BuiltinsAt G.mg tabAddr) : PF G (DK d) gt (lamOkD d) := by
  have r0 := bt hR
  have r1 := bt r0.1
  have r2 := bt r1.1
  have i1 := bt hI
  have i2 := bt i1.1
  have i3 := bt i2.1
  have i4 := bt i3.1
  have i5 := bt i4.1
  have i6 := bt i5.1
  have i7 := bt i6.1
  have i8 := bt i7.1
  have i9 := bt i8.1
  have a0 := bt hA
  have a1 := bt a0.1
  have a2 := bt a1.1
  have hfn : ∀ f ∈ plainF, fnOk G.K f = true ∧ embS gt (lamOkD d) (scAt G.K f) (body f) (bodyAt G.K f) = true := fun f hf => bt (List.all_eq_true.mp hF f hf)
  have hL2 := bt hL
  have I := initOk_ok i4.2
  exact {
    ok := O
    kf := kf_ok hK
    lf := lamF_of O hL e1 e2 e3 r0.2 hb
    gl := gtOk_ok O r2.1
    hl := fun k params body scope pos h => lamOkD_ok h
    fn := fun f hf => fnOk_ok (fun e => by have := plain_isP hf; rw [e] at this; cases this) (fun e => by have := plain_isP hf; rw [e] at this; cases this) (hfn f hf).1
    em := fun f hf => (hfn f hf).2
    lamB := fun k => by
      cases k with
      | zero => exact (bt hL2.1).2
      | succ k => exact hL2.2
    askF := fnOk_ok (fun h => by cases h) (fun h => by cases h) a2.1
    askB := isAskedB_ok a2.2
    ask1 := of_decide_eq_true a1.2
    ask2 := of_decide_eq_true a0.2
    gW := mg_of O.kin O.g (of_decide_eq_true r2.2)
    gE := mg_none_of O.kin O.g (of_decide_eq_true r1.2)
    wB := isWireB_ok i8.2
    wKi := of_decide_eq_true i9.1
    wTy := of_decide_eq_true i9.2
    aB := isAtomB_ok i5.2
    aKi := of_decide_eq_true i7.2
    aTy := of_decide_eq_true i6.2
    fI := I.1
    fB := I.2
    fF := faultFOk_ok i2.2
    fX := excOk_ok i3.2
    fKi := of_decide_eq_true i1.2 }
end Mine
end
section
open PySem PySem.W PySem.Calls PyProof.Rows
namespace Mine
open IE IS N
/-! small facts, said once -/
theorem neN {σ : St} {a b : Addr} {o : AO} (h : σ a = none) (k : σ b = some o) : a ≠ b := fun e => by subst e; rw [h] at k; cases k
theorem neS {σ : St} {a b : Addr} {o : AO} (k : σ a = some o) (h : σ b = none) : a ≠ b := fun e => by subst e; rw [h] at k; cases k
theorem dn0 {a b n : Nat} (h : b ≤ n) (k : Nat.ble a b = true) : a ≤ n := Nat.le_trans (Nat.le_of_ble_eq_true k) h
theorem dn1 {a b n : Nat} (h : b ≤ n) (k : Nat.ble (a + 1) b = true) : a ≤ n - 1 := Nat.le_sub_one_of_lt (Nat.le_trans (Nat.le_of_ble_eq_true k) h)
theorem dn2 {a b n : Nat} (h : b ≤ n) (k : Nat.ble (a + 2) b = true) : a ≤ n - 1 - 1 := Nat.le_sub_one_of_lt (dn1 (a := a + 1) h k)
theorem iteE {c : Prop} [Decidable c] {α : Type} {a b x : α} {P : Prop} (h : (if c then a else b) = x) (h1 : c → a = x → P) (h2 : ¬ c → b = x → P) : P := by
  by_cases hc : c
  · exact h1 hc (by rwa [if_pos hc] at h)
  · exact h2 hc (by rwa [if_neg hc] at h)
/-! one step of the semantics, goals left folded -/
/-- what a call gives back, its frame gone -/
noncomputable abbrev RQ (Q : Kt) (L : Addr) : Ft := fun fl τ => ∃ ρ, ρ.le (τ.del L) ∧ Q (retV fl) ρ
noncomputable abbrev RX (X : Xt) (L : Addr) : Xt := fun e τ => ∃ ρ, ρ.le (τ.del L) ∧ X e ρ
section
variable {C : Ct} {cl : Option Addr} {L : Addr} {σ : St} {Q : Kt} {Qf : Ft} {Qs : List V → St → Prop} {Qo : Option V → St → Prop} {Qb : Bool → St → Prop} {X : Xt} {r : List IS} {x : N} {a b c e o i f : IE} {es : List IE} {v : V} {g : F}
/-- what is left behind a statement -/
noncomputable def Kn (C : Ct) (cl : Option Addr) (r : List IS) (L : Addr) (Qf : Ft) (X : Xt) : Ft := fun fl σ => match fl with | .next => WS C cl r L σ Qf X | .ret v => Qf (.ret v) σ
noncomputable def AsK (C : Ct) (cl : Option Addr) (x : N) (r : List IS) (L : Addr) (Qf : Ft) (X : Xt) : Kt := fun v σ => (∃ m, σ L = some (.ns true m)) ∧ WS C cl r L (setLoc σ L x v) Qf X
theorem AsK.mk (h : ∃ m, σ L = some (.ns true m)) (k : WS C cl r L (setLoc σ L x v) Qf X) : AsK C cl x r L Qf X v σ := ⟨h, k⟩
noncomputable def ExK (C : Ct) (cl : Option Addr) (r : List IS) (L : Addr) (Qf : Ft) (X : Xt) : Kt := fun v σ => notRef v = true ∧ WS C cl r L σ Qf X
noncomputable def IfK (C : Ct) (cl : Option Addr) (s₁ s₂ : List IS) (L : Addr) (Qf : Ft) (X : Xt) : Kt := fun v σ => ∃ b, v = .bool b ∧ (b = true → WS C cl s₁ L σ Qf X) ∧ (b = false → WS C cl s₂ L σ Qf X)
theorem IfK.mk {s₁ s₂ : List IS} {b : Bool} (h : b = true → WS C cl s₁ L σ Qf X) (k : b = false → WS C cl s₂ L σ Qf X) : IfK C cl s₁ s₂ L Qf X (.bool b) σ := ⟨b, rfl, h, k⟩
noncomputable def ItK (C : Ct) (cl : Option Addr) (e f : IE) (L : Addr) (Q : Kt) (X : Xt) : Kt := fun v σ => ∃ b, v = .bool b ∧ (b = true → WE C cl e L σ Q X) ∧ (b = false → WE C cl f L σ Q X)
theorem ItK.mk {b : Bool} (h : b = true → WE C cl e L σ Q X) (k : b = false → WE C cl f L σ Q X) : ItK C cl e f L Q X (.bool b) σ := ⟨b, rfl, h, k⟩
noncomputable def BoK (C : Ct) (cl : Option Addr) (an : Bool) (es : List IE) (L : Addr) (Qb : Bool → St → Prop) (X : Xt) : Kt := fun v σ => ∃ b, v = .bool b ∧ (b = an → WB C cl an es L σ Qb X) ∧ (b ≠ an → Qb b σ)
theorem BoK.mk {an b : Bool} (h : b = an → WB C cl an es L σ Qb X) (k : b ≠ an → Qb b σ) : BoK C cl an es L Qb X (.bool b) σ := ⟨b, rfl, h, k⟩
noncomputable def WhK (C : Ct) (cl : Option Addr) (s r : List IS) (L : Addr) (Qb Qf : Ft) (X : Xt) : Kt := fun v σ => ∃ b, v = .bool b ∧ (b = true → WS C cl s L σ Qb X) ∧ (b = false → WS C cl r L σ Qf X)
theorem WhK.mk {s : List IS} {Qc : Ft} {b : Bool} (h : b = true → WS C cl s L σ Qc X) (k : b = false → WS C cl r L σ Qf X) : WhK C cl s r L Qc Qf X (.bool b) σ := ⟨b, rfl, h, k⟩
/-- a turn of a loop is over -/
noncomputable def LpK (I : Nat → St → Prop) (k : Nat) (Q : Ft) : Ft := fun fl ρ => match fl with | .next => ∃ j ρ', j < k ∧ ρ'.le ρ ∧ I j ρ' | .ret v => Q (.ret v) ρ
noncomputable def FoK (I : Nat → St → Prop) (i : Nat) (Q : Ft) : Ft := fun fl ρ => match fl with | .next => ∃ ρ', ρ'.le ρ ∧ I (i + 1) ρ' | .ret v => Q (.ret v) ρ
theorem t_asg (h : WE C cl e L σ (AsK C cl x r L Qf X) X) : WS C cl (.asg x e :: r) L σ Qf X := h
theorem t_asgC (h : WE C cl e L σ (fun v σ => ∃ c o, cl = some c ∧ σ c = some (.cell o) ∧ WS C cl r L (σ.set c (.cell (some v))) Qf X) X) : WS C cl (.asgC x e :: r) L σ Qf X := h
theorem t_asgA (h : WE C cl e L σ (fun v σ => WE C cl o L σ (fun w σ => ∃ a cls d m, w = .ref a ∧ σ a = some (.inst cls d) ∧ σ d = some (.ns false m) ∧ okAttr cls x = true ∧ (m x).isSome = true ∧ WS C cl r L (σ.set d (.ns false (upd m x v))) Qf X) X) X) : WS C cl (.asgA o x e :: r) L σ Qf X := h
theorem t_asgI (h : WE C cl e L σ (fun v σ => WE C cl o L σ (fun w σ => WE C cl i L σ (fun u σ => ∃ a k xs, w = .ref a ∧ u = .int k ∧ σ a = some (.list xs) ∧ 0 ≤ k ∧ k < xs.length ∧ xs.length ≤ 1000000 ∧ WS C cl r L (σ.set a (.list (xs.set k.toNat v))) Qf X) X) X) X) : WS C cl (.asgI o i e :: r) L σ Qf X := h
theorem t_expr (h : WE C cl e L σ (ExK C cl r L Qf X) X) : WS C cl (.expr e :: r) L σ Qf X := h
theorem t_iff {s₁ s₂ : List IS} (h : WE C cl c L σ (IfK C cl s₁ s₂ L (Kn C cl r L Qf X) X) X) : WS C cl (.iff c s₁ s₂ :: r) L σ Qf X := h
theorem t_wh {s : List IS} (h : ∃ I : Nat → St → Prop, (∃ k, I k σ) ∧ ∀ k τ, I k τ → WE C cl c L τ (WhK C cl s r L (LpK I k (Kn C cl r L Qf X)) Qf X) X) : WS C cl (.wh c s :: r) L σ Qf X := h
theorem t_for {s : List IS} (h : WE C cl e L σ (fun v σ => ∃ sv items, seqOf σ v = some (sv, items) ∧ ∀ it, σ it = none → ∃ I : Nat → St → Prop, I 0 (σ.set it (.iter sv 0)) ∧
      (∀ i τ, I i τ → i ≤ items.length → (∀ l, sv = .ref l → τ l = some (.list items)) ∧ τ it = some (.iter sv i) ∧
        (∀ v, items[i]? = some v → (∃ m, τ L = some (.ns true m)) ∧ WS C cl s L (setLoc (τ.set it (.iter sv (i + 1))) L x v) (FoK I i (Kn C cl r L Qf X)) X) ∧
        (i = items.length → WS C cl r L (τ.del it) Qf X))) X) : WS C cl (.for_ x e s :: r) L σ Qf X := h
theorem t_ret (h : WE C cl e L σ (fun v σ => Qf (.ret v) σ) X) : WS C cl (.ret e :: r) L σ Qf X := h
theorem t_nilK {r' : List IS} (h : WS C cl r' L σ Qf X) : WS C cl [] L σ (Kn C cl r' L Qf X) X := h
theorem t_kn (h : WS C cl r L σ Qf X) : Kn C cl r L Qf X .next σ := h
theorem t_one {s : IS} (h : WS1 C cl s L σ (Kn C cl r L Qf X) X) : WS C cl (s :: r) L σ Qf X := h
theorem y_asg (h : WE C cl e L σ (fun v σ => (∃ m, σ L = some (.ns true m)) ∧ Qf .next (setLoc σ L x v)) X) : WS1 C cl (.asg x e) L σ Qf X := h
theorem y_asgC (h : WE C cl e L σ (fun v σ => ∃ c o, cl = some c ∧ σ c = some (.cell o) ∧ Qf .next (σ.set c (.cell (some v)))) X) : WS1 C cl (.asgC x e) L σ Qf X := h
theorem y_asgA (h : WE C cl e L σ (fun v σ => WE C cl o L σ (fun w σ => ∃ a cls d m, w = .ref a ∧ σ a = some (.inst cls d) ∧ σ d = some (.ns false m) ∧ okAttr cls x = true ∧ (m x).isSome = true ∧ Qf .next (σ.set d (.ns false (upd m x v)))) X) X) : WS1 C cl (.asgA o x e) L σ Qf X := h
theorem y_expr (h : WE C cl e L σ (fun v σ => notRef v = true ∧ Qf .next σ) X) : WS1 C cl (.expr e) L σ Qf X := h
theorem y_iff {s₁ s₂ : List IS} (h : WE C cl c L σ (IfK C cl s₁ s₂ L Qf X) X) : WS1 C cl (.iff c s₁ s₂) L σ Qf X := h
theorem y_raise (h : WE C cl e L σ (fun v σ => ∃ a d, v = .ref a ∧ σ a = some (.exn clsFault d) ∧ X a (σ.set a (.exc clsFault d))) X) : WS1 C cl (.raise e) L σ Qf X := h
theorem t_nil (h : Qf .next σ) : WS C cl [] L σ Qf X := h
theorem u_kn (h : Q .none σ) : WE C cl .kn L σ Q X := h
theorem u_kb {b : Bool} (h : Q (.bool b) σ) : WE C cl (.kb b) L σ Q X := h
theorem u_ki {b : Int} (h : Q (.int b) σ) : WE C cl (.ki b) L σ Q X := h
theorem u_ks {b : Str} (h : Q (.str b) σ) : WE C cl (.ks b) L σ Q X := h
theorem u_kx {b : List UInt8} (h : Q (.bytes b) σ) : WE C cl (.kx b) L σ Q X := h
theorem u_loc (h : ∃ v, getLoc (σ L) x = some v ∧ Q v σ) : WE C cl (.loc x) L σ Q X := h
theorem u_cv (h : ∃ c v, cl = some c ∧ σ c = some (.cell (some v)) ∧ Q v σ) : WE C cl (.cv x) L σ Q X := h
theorem u_glob {y : Str} (h : Q v σ) : WE C cl (.glob y v) L σ Q X := h
theorem u_attr (h : WE C cl e L σ (fun v σ => ∃ r, attrOf σ v x = some r ∧ notB r = true ∧ Q r σ) X) : WE C cl (.attr e x) L σ Q X := h
theorem u_bm (h : WE C cl e L σ (fun v σ => ∃ w d m, v = .ref w ∧ σ w = some (.inst clsWire d) ∧ σ d = some (.ns false m) ∧ lean m ∧ newsT σ (.meth g.addr w) Q) X) : WE C cl (.bm e g) L σ Q X := h
theorem u_call (h : WE C cl f L σ (fun v σ => WEs C cl es L σ (fun vs σ => callV C v vs σ Q X) X) X) : WE C cl (.call f es) L σ Q X := h
theorem u_meth (h : WE C cl o L σ (fun v σ => ∃ w d m, v = .ref w ∧ σ w = some (.inst (mcls g) d) ∧ σ d = some (.ns false m) ∧ lean m ∧ WEs C cl es L σ (fun vs σ => C g (v :: vs) σ Q X) X) X) : WE C cl (.meth o g es) L σ Q X := h
theorem u_bmeth {y : Str} (h : WE C cl o L σ (fun v σ => ∃ id, methId σ v y = some id ∧ WEs C cl es L σ (fun vs σ => bmethV id v vs σ Q) X) X) : WE C cl (.bmeth o y es) L σ Q X := h
theorem u_bin {op : Operator} (h : WE C cl a L σ (fun v σ => WE C cl b L σ (fun w σ => binV op v w σ Q) X) X) : WE C cl (.bin op a b) L σ Q X := h
theorem u_cmp {op : CmpOp} (h : WE C cl a L σ (fun v σ => WE C cl b L σ (fun w σ => cmpV op v w σ fun r => Q (.bool r) σ) X) X) : WE C cl (.cmp op a b) L σ Q X := h
theorem u_cmp2 {o₁ o₂ : CmpOp} (h : WE C cl a L σ (fun v σ => WE C cl b L σ (fun w σ => cmpV o₁ v w σ fun r => (r = true → WE C cl c L σ (fun u σ => cmpV o₂ w u σ fun r => Q (.bool r) σ) X) ∧ (r = false → Q (.bool false) σ)) X) X) : WE C cl (.cmp2 o₁ o₂ a b c) L σ Q X := h
theorem u_isN (h : WE C cl a L σ (fun v σ => Q (.bool (isN v)) σ) X) : WE C cl (.isNone a) L σ Q X := h
theorem u_bop {an : Bool} (h : WB C cl an es L σ (fun b σ => Q (.bool b) σ) X) : WE C cl (.bop an es) L σ Q X := h
theorem u_not (h : WE C cl a L σ (fun v σ => ∃ b, v = .bool b ∧ Q (.bool (!b)) σ) X) : WE C cl (.not a) L σ Q X := h
theorem u_neg (h : WE C cl a L σ (fun v σ => ∃ i, v = .int i ∧ Q (.int (-i)) σ) X) : WE C cl (.neg a) L σ Q X := h
theorem u_ite (h : WE C cl c L σ (ItK C cl a b L Q X) X) : WE C cl (.ite c a b) L σ Q X := h
theorem u_sub (h : WE C cl o L σ (fun v σ => WE C cl i L σ (fun w σ => subV v w σ Q) X) X) : WE C cl (.sub o i) L σ Q X := h
theorem u_slice {l u : Option IE} (h : WE C cl o L σ (fun v σ => WO C cl l L σ (fun l σ => WO C cl u L σ (fun u σ => sliceV v l u σ Q) X) X) X) : WE C cl (.slice o l u) L σ Q X := h
theorem u_inT {lst neg : Bool} (h : WE C cl a L σ (fun v σ => WEs C cl es L σ (fun vs σ => inV neg v vs σ Q) X) X) : WE C cl (.inT lst neg a es) L σ Q X := h
theorem u_tup (h : WEs C cl es L σ (fun vs σ => newsT σ (.tup vs) Q) X) : WE C cl (.tup es) L σ Q X := h
theorem u_list (h : WEs C cl es L σ (fun vs σ => news σ (.list vs) Q) X) : WE C cl (.list es) L σ Q X := h
theorem u_comp {elt src : IE} (h : WE C cl src L σ (fun v σ => cl = none ∧ ∃ sv items, seqOf σ v = some (sv, items) ∧ ∀ it A D, σ it = none → σ A = none → σ D = none → it ≠ A → it ≠ D → A ≠ D → ∃ I : Nat → List V → St → Prop,
      I 0 [] (((σ.set it (.iter sv 0)).set A (.list [])).set D (.ns true fun _ => none)) ∧
      (∀ i acc τ, I i acc τ → i ≤ items.length → (∀ l, sv = .ref l → τ l = some (.list items)) ∧ τ it = some (.iter sv i) ∧ τ A = some (.list acc) ∧ (∃ m, τ D = some (.ns true m)) ∧ acc.length = i ∧
        (∀ v, items[i]? = some v → WE C cl elt D (setLoc (τ.set it (.iter sv (i + 1))) D x v) (fun r ρ => ρ A = some (.list acc) ∧ ∃ ρ', ρ'.le (ρ.set A (.list (acc ++ [r]))) ∧ I (i + 1) (acc ++ [r]) ρ') (fun _ _ => False)) ∧
        (i = items.length → Q (.ref A) ((τ.del it).del D)))) X) : WE C cl (.comp elt x src) L σ Q X := h
theorem v_nil (h : Qs [] σ) : WEs C cl [] L σ Qs X := h
theorem v_cons (h : WE C cl e L σ (fun v σ => WEs C cl es L σ (fun vs σ => Qs (v :: vs) σ) X) X) : WEs C cl (e :: es) L σ Qs X := h
theorem o_none (h : Qo none σ) : WO C cl none L σ Qo X := h
theorem o_some (h : WE C cl e L σ (fun v σ => Qo (some v) σ) X) : WO C cl (some e) L σ Qo X := h
theorem b_nil {an : Bool} (h : Qb an σ) : WB C cl an [] L σ Qb X := h
theorem b_cons {an : Bool} (h : WE C cl e L σ (BoK C cl an es L Qb X) X) : WB C cl an (e :: es) L σ Qb X := h
end
end Mine
local macro_rules | `(tactic| walk_at "w a") => `(tactic| first | exact Mine.dn1 (by assumption) rfl | exact Mine.dn0 (by assumption) rfl | assumption | exact Nat.le_of_lt (by assumption) | exact Mine.dn2 (by assumption) rfl | lia)
local macro_rules | `(tactic| walk_at "w s") => `(tactic| first | (with_reducible first | refine Mine.t_asg ?_ | refine Mine.t_iff ?_ | refine Mine.t_ret ?_ | refine Mine.t_expr ?_ | refine Mine.t_asgA ?_ | refine Mine.t_asgC ?_ | refine Mine.t_asgI ?_ | refine Mine.t_wh ?_ | refine Mine.t_for ?_) | (with_reducible refine Mine.t_kn ?_; walk_at "w s"))
local macro_rules | `(tactic| walk_at "w s0") => `(tactic| first | refine Mine.t_asg ?_ | refine Mine.t_iff ?_ | refine Mine.t_ret ?_ | refine Mine.t_expr ?_ | refine Mine.t_asgA ?_ | refine Mine.t_asgC ?_ | refine Mine.t_asgI ?_ | refine Mine.t_wh ?_ | refine Mine.t_for ?_)
local macro_rules | `(tactic| walk_at "w n") => `(tactic| with_reducible first | refine Mine.t_nilK ?_ | refine Mine.t_nil ?_ | refine Mine.t_kn ?_ | refine Mine.t_one ?_)
local macro_rules | `(tactic| walk_at "w e") => `(tactic| first | (with_reducible first | refine Mine.u_loc ?_ | refine Mine.u_call ?_ | refine Mine.u_meth ?_ | refine Mine.u_bmeth ?_ | refine Mine.u_bin ?_ | refine Mine.u_cmp ?_ | refine Mine.u_sub ?_ | refine Mine.u_tup ?_ | refine Mine.u_ki ?_ | refine Mine.u_glob ?_ | refine Mine.u_attr ?_ | refine Mine.u_bop ?_ | refine Mine.u_ite ?_ | refine Mine.u_not ?_ | refine Mine.u_neg ?_ | refine Mine.u_slice ?_ | refine Mine.u_inT ?_ | refine Mine.u_list ?_ | refine Mine.u_isN ?_ | refine Mine.u_kn ?_ | refine Mine.u_kb ?_ | refine Mine.u_ks ?_ | refine Mine.u_kx ?_ | refine Mine.u_cv ?_ | refine Mine.u_bm ?_ | refine Mine.u_comp ?_ | refine Mine.u_cmp2 ?_) | (first | refine Mine.u_loc ?_ | refine Mine.u_bin ?_ | refine Mine.u_call ?_ | refine Mine.u_ki ?_ | refine Mine.u_glob ?_ | refine Mine.u_attr ?_ | refine Mine.u_kx ?_ | refine Mine.u_ks ?_))
local macro_rules | `(tactic| walk_at "w v") => `(tactic| with_reducible first | refine Mine.v_cons ?_ | refine Mine.v_nil ?_)
local macro_rules | `(tactic| walk_at "w o") => `(tactic| with_reducible first | refine Mine.o_some ?_ | refine Mine.o_none ?_)
local macro_rules | `(tactic| walk_at "w b") => `(tactic| with_reducible first | refine Mine.b_cons ?_ | refine Mine.b_nil ?_)
-- D1
set_option genSizeOf false
set_option genInjectivity false
namespace Mine
open IE IS N
theorem enter {n : Nat} {f : F} {args : List V} {σ : St} {Q : Kt} {X : Xt} (bs : List (N × V)) (hn : 1 ≤ n) (hp : isP f = true) (h1 : (Nat.ble (params f).length (args.length + (dflt f).length) && Nat.ble args.length (params f).length) = true)
    (hb : (bindF f args).reverse = bs)
    (h : ∀ L, σ L = none → WS (WC (n - 1)) none (body f) L (σ.set L (.ns true (mk bs))) (fun fl τ => ∃ ρ, ρ.le (τ.del L) ∧ Q (retV fl) ρ) (fun e τ => ∃ ρ, ρ.le (τ.del L) ∧ X e ρ)) : WC n f args σ Q X := by
  obtain ⟨m, rfl⟩ : ∃ m, n = m + 1 := ⟨n - 1, by lia⟩
  have h1 := Bool.and_eq_true_iff.mp h1
  rw [WC_plain hp, hb]
  exact ⟨Nat.le_of_ble_eq_true h1.1, Nat.le_of_ble_eq_true h1.2, h⟩
theorem enterR {n : Nat} {f : F} {args : List V} {σ : St} {Q : Kt} {X : Xt} (bs : List (N × V)) (hn : 1 ≤ n) (hp : isP f = true) (h1 : (Nat.ble (params f).length (args.length + (dflt f).length) && Nat.ble args.length (params f).length) = true)
    (hb : (bindF f args).reverse = bs) (h : ∀ L, σ L = none → WS (WC (n - 1)) none (body f) L (σ.set L (.ns true (mk bs))) (RQ Q L) (RX X L)) : WC n f args σ Q X := enter bs hn hp h1 hb h
theorem le_of_eq {σ τ : St} (h : σ = τ) : σ.le τ := h ▸ St.le_refl _
theorem fin {Q : Kt} {v : V} {ρ τ : St} {L : Addr} (e : τ.del L = ρ) (q : Q v ρ) : ∃ ρ, ρ.le (τ.del L) ∧ Q v ρ := ⟨ρ, le_of_eq e.symm, q⟩
theorem addr_fun (f : F) (h : isP f = true) : funOf f.addr = some f := by
  cases f <;> first | rfl | (exact (Bool.noConfusion h : False).elim)
section
variable {C : Ct} {args : List V} {σ : St} {Q : Kt} {X : Xt} {k : Bool → Prop}
theorem callV_f {f : F} (h : isP f = true) : callV C (.ref f.addr) args σ Q X = C f args σ Q X := by
  unfold callV; dsimp only; rw [addr_fun f h]
theorem to_f {f : F} (h : isP f = true) (z : C f args σ Q X) : callV C (.ref f.addr) args σ Q X := by rw [callV_f h]; exact z
theorem callV_b {b : String} : callV C (.builtin b) args σ Q X = bltV b args σ Q := rfl
theorem callV_t {b : String} : callV C (.type b) args σ Q X = typV b args σ Q := rfl
theorem getLoc_ns {fr : Bool} {m : N → Option V} {x : N} : getLoc (some (.ns fr m)) x = m x := rfl
theorem setLoc_ns {L : Addr} {fr : Bool} {m : N → Option V} {x : N} {v : V} : setLoc (σ.set L (.ns fr m)) L x v = σ.set L (.ns fr (upd m x v)) := by
  unfold setLoc; rw [St.set_same]; simp only [St.set_set]
theorem c_lt {a b : Int} : cmpV .Lt (.int a) (.int b) σ k = k (decide (a < b)) := rfl
theorem c_le {a b : Int} : cmpV .LtE (.int a) (.int b) σ k = k (decide (a ≤ b)) := rfl
theorem c_gt {a b : Int} : cmpV .Gt (.int a) (.int b) σ k = k (decide (b < a)) := rfl
theorem c_ge {a b : Int} : cmpV .GtE (.int a) (.int b) σ k = k (decide (b ≤ a)) := rfl
theorem c_eq {a b : Int} : cmpV .Eq (.int a) (.int b) σ k = k (decide (a = b)) := rfl
theorem c_ne {a b : Int} : cmpV .NotEq (.int a) (.int b) σ k = k (!decide (a = b)) := rfl
theorem c_beq {a b : List UInt8} : cmpV .Eq (.bytes a) (.bytes b) σ k = k (decide (a = b)) := rfl
theorem c_bne {a b : List UInt8} : cmpV .NotEq (.bytes a) (.bytes b) σ k = k (!decide (a = b)) := rfl
theorem c_seq {a b : Str} : cmpV .Eq (.str a) (.str b) σ k = k (decide (a = b)) := rfl
theorem c_in {a : Int} {b : List UInt8} : cmpV .In (.int a) (.bytes b) σ k = ((0 ≤ a ∧ a ≤ 255 ∧ b.length ≤ 1000) ∧ k (decide (a.toNat.toUInt8 ∈ b))) := rfl
theorem c_nin {a : Int} {b : List UInt8} : cmpV .NotIn (.int a) (.bytes b) σ k = ((0 ≤ a ∧ a ≤ 255 ∧ b.length ≤ 1000) ∧ k (!decide (a.toNat.toUInt8 ∈ b))) := rfl
theorem c_is {a : Int} {b : Str} : cmpV .Eq (.int a) (.str b) σ k = k false := rfl
theorem c_rs {a : Addr} {b : Str} : cmpV .Eq (.ref a) (.str b) σ k = ((∃ xs, σ a = some (.tup xs)) ∧ k false) := rfl
theorem b_add {a b : Int} : binV .Add (.int a) (.int b) σ Q = Q (.int (a + b)) σ := rfl
theorem b_sub {a b : Int} : binV .Sub (.int a) (.int b) σ Q = Q (.int (a - b)) σ := rfl
theorem b_mul {a b : Int} : binV .Mult (.int a) (.int b) σ Q = ((-(2 ^ 62) < b ∧ b < 2 ^ 62) ∧ Q (.int (a * b)) σ) := rfl
theorem b_div {a b : Int} : binV .FloorDiv (.int a) (.int b) σ Q = ((0 ≤ a ∧ 0 < b ∧ b < 2 ^ 20) ∧ Q (.int (a / b)) σ) := rfl
theorem b_mod {a b : Int} : binV .Mod (.int a) (.int b) σ Q = (0 < b ∧ Q (.int (a % b)) σ) := rfl
theorem b_pow {a b : Int} : binV .Pow (.int a) (.int b) σ Q = ((0 ≤ a ∧ a ≤ 10 ^ 60 ∧ 0 ≤ b ∧ b ≤ 120) ∧ Q (.int (a ^ b.toNat)) σ) := rfl
theorem b_addB {a b : List UInt8} : binV .Add (.bytes a) (.bytes b) σ Q = (a.length + b.length ≤ 1000000 ∧ Q (.bytes (a ++ b)) σ) := rfl
theorem b_mulB {a : List UInt8} {b : Int} : binV .Mult (.bytes a) (.int b) σ Q = ((a.length = 1 ∧ 0 ≤ b ∧ b ≤ 1000) ∧ Q (.bytes (List.replicate b.toNat (a.headD 0))) σ) := rfl
theorem b_addS {a b : Str} : binV .Add (.str a) (.str b) σ Q = (a.length + b.length ≤ 1000000 ∧ Q (.str (a ++ b)) σ) := rfl
theorem s_bytes {b : List UInt8} {i : Int} : subV (.bytes b) (.int i) σ Q = ((0 ≤ i ∧ i < b.length ∧ b.length ≤ 1000000) ∧ Q (.int (b.getD i.toNat 0).toNat) σ) := rfl
theorem s_ref {a : Addr} {i : Int} : subV (.ref a) (.int i) σ Q = ∃ xs v, (σ a = some (.list xs) ∨ σ a = some (.tup xs)) ∧ 0 ≤ i ∧ i < 2 ^ 60 ∧ xs[i.toNat]? = some v ∧ Q v σ := rfl
theorem l_bytes {b : List UInt8} {i j : Int} : sliceV (.bytes b) (some (.int i)) (some (.int j)) σ Q = ((0 ≤ i ∧ 0 ≤ j ∧ b.length ≤ 1000000) ∧ Q (.bytes ((b.take j.toNat).drop i.toNat)) σ) := rfl
theorem n_len {b : List UInt8} : bltV "len" [.bytes b] σ Q = (b.length ≤ 1000000 ∧ Q (.int b.length) σ) := rfl
theorem n_lenR {a : Addr} : bltV "len" [.ref a] σ Q = ∃ xs, σ a = some (.list xs) ∧ xs.length ≤ 1000000 ∧ Q (.int xs.length) σ := rfl
end
/-! pure functions of a code -/
noncomputable def lowC (c : Int) : Int := if 65 ≤ c ∧ c ≤ 90 then c + 32 else c
section
variable {C : Ct} {cl : Option Addr} {L : Addr} {m : N → Option V} {n : Nat} {c : Int} {σ : St} {Q : Kt} {X : Xt}
theorem f_loc (hL : σ L = some (.ns true m)) {x : N} {v : V} (h : m x = some v) (q : Q v σ) : WE C cl (.loc x) L σ Q X := ⟨_, by rw [hL]; exact h, q⟩
theorem e_range {lo hi : Int} (hL : σ L = some (.ns true m)) (h : m nCode = some (.int c)) (q : Q (.bool (decide (lo ≤ c ∧ c ≤ hi))) σ) : WE C cl (.cmp2 .LtE .LtE (.ki lo) (Mine.L nCode) (.ki hi)) L σ Q X := by
  refine u_cmp2 (u_ki (f_loc hL h ⟨fun k => ?_, fun k => ?_⟩))
  · refine u_ki ?_
    have k := of_decide_eq_true k
    show Q (.bool (decide (c ≤ hi))) σ
    rwa [decide_eq_decide.mpr (and_iff_right k)] at q
  · have k := of_decide_eq_false k
    rwa [decide_eq_false fun z => k z.1] at q
theorem fin1 {v : V} {o : AO} (hL : σ L = none) (q : Q v σ) : ∃ ρ, ρ.le ((σ.set L o).del L) ∧ Q v ρ := fin (St.del_set _ _ hL) q
/-- the call of one of these functions -/
theorem e_code {f : F} {s : Str} {k : Nat} (hf : isP f = true) (hL : σ L = some (.ns true m)) (h : m nCode = some (.int c)) (q : WC k f [.int c] σ Q X) : WE (WC k) cl (.call (.glob s (.ref f.addr)) [Mine.L nCode]) L σ Q X :=
  u_call (u_glob (v_cons (f_loc hL h (v_nil (to_f hf q)))))
theorem w_lowerCode (hn : 1 ≤ n) (q : Q (.int (lowC c)) σ) : WC n .lowerCode [.int c] σ Q X := by
  refine enter [(nCode, .int c)] hn rfl rfl rfl fun L hL => ?_
  refine t_ret (u_ite (e_range (St.set_same ..) rfl (.mk (fun h => ?_) (fun h => ?_))))
  · refine u_bin (f_loc (St.set_same ..) rfl (u_ki (fin1 (σ := σ) hL ?_)))
    rwa [lowC, if_pos (of_decide_eq_true h)] at q
  · refine f_loc (St.set_same ..) rfl (fin1 (σ := σ) hL ?_)
    rwa [lowC, if_neg (of_decide_eq_false h)] at q
noncomputable def isPr (c : Int) : Bool := decide (33 ≤ c ∧ c ≤ 126)
theorem w_isPrintable (hn : 1 ≤ n) (q : Q (.bool (isPr c)) σ) : WC n .isPrintable [.int c] σ Q X :=
  enter [(nCode, .int c)] hn rfl rfl rfl fun L hL => t_ret (e_range (St.set_same ..) rfl (fin1 (σ := σ) hL q))
noncomputable def isFg (c : Int) : Bool := decide (48 ≤ c ∧ c ≤ 57)
theorem w_isFigure (hn : 1 ≤ n) (q : Q (.bool (isFg c)) σ) : WC n .isFigure [.int c] σ Q X :=
  enter [(nCode, .int c)] hn rfl rfl rfl fun L hL => t_ret (e_range (St.set_same ..) rfl (fin1 (σ := σ) hL q))
noncomputable def isAt (c : Int) : Bool := isPr c && !decide (c.toNat.toUInt8 ∈ [40, 41, 123, 37, 42, 34, 92, 93])
theorem w_isAtomCode (hn : 2 ≤ n) (h0 : 0 ≤ c) (h1 : c ≤ 255) (q : Q (.bool (isAt c)) σ) : WC n .isAtomCode [.int c] σ Q X := by
  refine enter [(nCode, .int c)] (by walk_at "w a") rfl rfl rfl fun L hL => ?_
  refine t_ret (u_bop (b_cons (e_code rfl (St.set_same ..) rfl (w_isPrintable (by walk_at "w a") (.mk (fun h => ?_) (fun h => ?_))))))
  · refine b_cons (u_cmp (f_loc (St.set_same ..) rfl (u_glob ⟨⟨h0, h1, by decide⟩, .mk (fun k => b_nil (fin1 (σ := σ) hL ?_)) (fun k => fin1 (σ := σ) hL ?_)⟩)))
    · rwa [isAt, h, k] at q
    · rwa [isAt, h] at q
  · refine fin1 (σ := σ) hL ?_
    rw [isAt, Bool.eq_false_iff.mpr h] at q
    rw [Bool.eq_false_iff.mpr h]; exact q
noncomputable def isVa (c : Int) : Bool := isPr c && !decide (c.toNat.toUInt8 ∈ [40, 41, 123, 34, 93])
theorem w_isValueCode (hn : 2 ≤ n) (h0 : 0 ≤ c) (h1 : c ≤ 255) (q : Q (.bool (isVa c)) σ) : WC n .isValueCode [.int c] σ Q X := by
  refine enter [(nCode, .int c)] (by walk_at "w a") rfl rfl rfl fun L hL => ?_
  refine t_ret (u_bop (b_cons (e_code rfl (St.set_same ..) rfl (w_isPrintable (by walk_at "w a") (.mk (fun h => ?_) (fun h => ?_))))))
  · refine b_cons (u_cmp (f_loc (St.set_same ..) rfl (u_glob ⟨⟨h0, h1, by decide⟩, .mk (fun k => b_nil (fin1 (σ := σ) hL ?_)) (fun k => fin1 (σ := σ) hL ?_)⟩)))
    · rwa [isVa, h, k] at q
    · rwa [isVa, h] at q
  · refine fin1 (σ := σ) hL ?_
    rw [isVa, Bool.eq_false_iff.mpr h] at q
    rw [Bool.eq_false_iff.mpr h]; exact q
noncomputable def isAs (c : Int) : Bool := isAt c || decide (c = 93)
theorem w_isAstringCode (hn : 3 ≤ n) (h0 : 0 ≤ c) (h1 : c ≤ 255) (q : Q (.bool (isAs c)) σ) : WC n .isAstringCode [.int c] σ Q X := by
  refine enter [(nCode, .int c)] (by walk_at "w a") rfl rfl rfl fun L hL => ?_
  refine t_ret (u_bop (b_cons (e_code rfl (St.set_same ..) rfl (w_isAtomCode (by walk_at "w a") h0 h1 (.mk (fun h => ?_) (fun h => ?_))))))
  · refine b_cons (u_cmp (f_loc (St.set_same ..) rfl (u_ki (.mk (fun k => b_nil (fin1 (σ := σ) hL ?_)) (fun k => fin1 (σ := σ) hL ?_)))))
    · rwa [isAs, h, k] at q
    · rwa [isAs, h] at q
  · refine fin1 (σ := σ) hL ?_
    have h := (Bool.not_eq_false _).mp h
    rw [isAs, h] at q
    rw [h]; exact q
noncomputable def isSe (c : Int) : Bool := isFg c || decide (c.toNat.toUInt8 ∈ [58, 44, 42])
theorem w_isSetCode (hn : 1 ≤ n) (h0 : 0 ≤ c) (h1 : c ≤ 255) (q : Q (.bool (isSe c)) σ) : WC n .isSetCode [.int c] σ Q X := by
  refine enter [(nCode, .int c)] (by walk_at "w a") rfl rfl rfl fun L hL => ?_
  refine t_ret (u_bop (b_cons (e_range (St.set_same ..) rfl (.mk (fun h => ?_) (fun h => ?_)))))
  · refine b_cons (u_cmp (f_loc (St.set_same ..) rfl (u_kx ⟨⟨h0, h1, by decide⟩, .mk (fun k => b_nil (fin1 (σ := σ) hL ?_)) (fun k => fin1 (σ := σ) hL ?_)⟩)))
    · rwa [isSe, isFg, h, k] at q
    · rwa [isSe, isFg, h] at q
  · refine fin1 (σ := σ) hL ?_
    have h := (Bool.not_eq_false _).mp h
    rw [isSe, isFg, h] at q
    rw [h]; exact q
end
section
variable {n : Nat} {c : Int} {σ : St} {Q : Kt} {X : Xt}
/-! the wire -/
noncomputable def wns (data : List UInt8) (p : Int) : AO := .ns false (mk [(nAt, .int p), (nData, .bytes data)])
structure W0 (σ : St) (w d : Addr) (data : List UInt8) (p : Nat) : Prop where
  w : σ w = some (.inst clsWire d)
  d : σ d = some (wns data p)
  len : data.length ≤ 100000
  le : p ≤ data.length
theorem upd_at {data : List UInt8} {p : Int} {v : V} : upd (mk [(nAt, .int p), (nData, .bytes data)]) nAt v = mk [(nAt, v), (nData, .bytes data)] := by
  funext x; by_cases h : x.nat = nAt.nat <;> simp [mk, upd, h]
theorem lean_upd {m : N → Option V} {x : N} {v : V} (hx : x = .nAt ∨ x = .nData ∨ x = .nText) (h : lean m) : lean (upd m x v) := by
  intro k e
  by_cases c : k.nat = x.nat
  · rw [nat_inj c]; exact hx
  · exact h k (by unfold upd at e; rwa [if_neg c] at e)
theorem lean_wns {data : List UInt8} {v : V} : lean (mk [(nAt, v), (nData, .bytes data)]) := by
  exact lean_upd (.inl rfl) (lean_upd (.inr (.inl rfl)) fun k h => nomatch h)
section
variable {w d : Addr} {data : List UInt8} {p : Nat}
theorem W0.ne (H : W0 σ w d data p) : d ≠ w := fun e => by have := H.w; rw [← e, H.d] at this; cases this
theorem W0.at (H : W0 σ w d data p) : attrOf σ (.ref w) .nAt = some (.int p) := by
  unfold attrOf; dsimp only; rw [H.w]; dsimp only; rw [H.d]; rfl
theorem W0.dat (H : W0 σ w d data p) : attrOf σ (.ref w) .nData = some (.bytes data) := by
  unfold attrOf; dsimp only; rw [H.w]; dsimp only; rw [H.d]; rfl
theorem W0.wL (H : W0 σ w d data p) {L : Addr} (hL : σ L = none) : w ≠ L := fun e => by rw [← e, H.w] at hL; cases hL
theorem W0.dL (H : W0 σ w d data p) {L : Addr} (hL : σ L = none) : d ≠ L := fun e => by rw [← e, H.d] at hL; cases hL
/-- another object changed -/
theorem W0.other (H : W0 σ w d data p) {a : Addr} {o : AO} (h1 : w ≠ a) (h2 : d ≠ a) : W0 (σ.set a o) w d data p := ⟨by first | exact (St.set_ne _ _ h1).trans H.w | (rw [St.set_ne _ _ h1]; exact H.w), by first | exact (St.set_ne _ _ h2).trans H.d | (rw [St.set_ne _ _ h2]; exact H.d), H.len, H.le⟩
theorem W0.fresh (H : W0 σ w d data p) {a : Addr} {o : AO} (h : σ a = none) : W0 (σ.set a o) w d data p := H.other (H.wL h) (H.dL h)
theorem W0.move (H : W0 σ w d data p) {q : Nat} (h : q ≤ data.length) : W0 (σ.set d (wns data q)) w d data q := ⟨by first | exact (St.set_ne _ _ H.ne.symm).trans H.w | (rw [St.set_ne _ _ H.ne.symm]; exact H.w), St.set_same .., H.len, h⟩
theorem W0.mono {τ : St} (H : W0 σ w d data p) (h : σ.le τ) : W0 τ w d data p := ⟨h _ _ H.w, h _ _ H.d, H.len, H.le⟩
/-- a method's call -/
theorem meth_at {C : Ct} {cl : Option Addr} {L : Addr} {f : F} {es : List IE} {m : N → Option V} (H : W0 σ w d data p) (hL : σ L = some (.ns true m)) (hm : m nSelf = some (.ref w)) (hf : mcls f = clsWire)
    (h : WEs C cl es L σ (fun vs σ => C f (.ref w :: vs) σ Q X) X) : WE C cl (sm f es) L σ Q X := by
  (walk_at "w e"; walk_at "w e")
  exact ⟨.ref w, by rw [hL]; exact hm, w, d, _, rfl, by rw [hf]; exact H.w, H.d, lean_wns, h⟩
noncomputable def pk (data : List UInt8) (p : Nat) : Int := if p < data.length then ((data.getD p 0).toNat : Int) else -1
theorem w_peek (hn : 1 ≤ n) (H : W0 σ w d data p) (q : Q (.int (pk data p)) σ) : WC n .wPeek [.ref w] σ Q X := by
  refine enter [(nSelf, .ref w)] (by walk_at "w a") rfl rfl rfl fun L hL => ?_
  have H' := H.fresh (o := .ns true (mk [(nSelf, .ref w)])) hL
  have A {Q : Kt} (q : Q (.int p) (σ.set L (.ns true (mk [(nSelf, .ref w)])))) : WE (WC (n - 1)) none atE L (σ.set L (.ns true (mk [(nSelf, .ref w)]))) Q (RX X L) := u_attr (f_loc (St.set_same ..) rfl ⟨_, H'.at, rfl, q⟩)
  have B {Q : Kt} (q : Q (.bytes data) (σ.set L (.ns true (mk [(nSelf, .ref w)])))) : WE (WC (n - 1)) none dataE L (σ.set L (.ns true (mk [(nSelf, .ref w)]))) Q (RX X L) := u_attr (f_loc (St.set_same ..) rfl ⟨_, H'.dat, rfl, q⟩)
  have h0 := H.len
  refine t_ret (u_ite (u_cmp (A (u_call (u_glob (v_cons (B (v_nil ⟨by lia, .mk (fun h => ?_) (fun h => ?_)⟩))))))))
  · have h1 : p < data.length := by have := of_decide_eq_true h; lia
    rw [pk, if_pos h1] at q
    exact u_sub (B (A ⟨by lia, fin1 (σ := σ) hL q⟩))
  · have h1 : ¬ p < data.length := by have := of_decide_eq_false h; lia
    rw [pk, if_neg h1] at q
    exact u_neg (u_ki ⟨1, rfl, fin1 (σ := σ) hL q⟩)
/-- an exception with the offset i, in any state that keeps all but the wire's dict -/
noncomputable def Fault (X : Xt) (σ : St) (d : Addr) (i : Int) : Prop := ∀ e τ, (∀ b o, b ≠ d → σ b = some o → τ b = some o) → attrOf τ (.ref e) .nAt = some (.int i) → X e τ
theorem attr_del {τ : St} {L e : Addr} {m : N → Option V} {x : N} {r : V} (hL : τ L = some (.ns true m)) (h : attrOf τ (.ref e) x = some r) : attrOf (τ.del L) (.ref e) x = some r := by
  unfold attrOf at h ⊢
  dsimp only at h ⊢
  have he : e ≠ L := fun q => by subst q; rw [hL] at h; cases h
  have hd : ∀ d k, τ d = some (.ns false k) → (τ.del L) d = some (.ns false k) := fun d k q => by
    rw [St.del_ne _ (by first | exact neN q hL | exact neS hL q | exact fun z => by subst z; rw [hL] at q; cases q)]; exact q
  rw [St.del_ne _ he]
  split at h
  · split at h
    · rename_i q; rw [hd _ _ q]; exact h
    · cases h
  · split at h
    · rename_i q; rw [hd _ _ q]; exact h
    · cases h
  · cases h
/-- within a function's frame -/
structure Fr0 (σ₀ σ : St) (L d : Addr) (m : N → Option V) : Prop where
  fr : σ L = some (.ns true m)
  keep : ∀ b o, b ≠ d → σ₀ b = some o → σ b = some o
  L0 : σ₀ L = none
  ne : d ≠ L
theorem Fault.in {X : Xt} {σ₀ : St} {L : Addr} {m : N → Option V} {i : Int} (F : Fault X σ₀ d i) (J : Fr0 σ₀ σ L d m) : Fault (fun e τ => ∃ ρ, ρ.le (τ.del L) ∧ X e ρ) σ d i := fun e τ hk ha =>
  have hL : τ L = some (.ns true m) := hk _ _ J.ne.symm J.fr
  ⟨τ.del L, St.le_refl _, F e _ (fun b o hb q => by
    rw [St.del_ne _ (by first | exact neN q J.L0 | exact neS J.L0 q | exact fun z => by subst z; rw [J.L0] at q; cases q)]
    exact hk b o hb (J.keep b o hb q)) (attr_del hL ha)⟩
/-- within a method's frame -/
structure In (σ₀ σ : St) (L w d : Addr) (data : List UInt8) (p : Nat) (m : N → Option V) : Prop where
  W : W0 σ w d data p
  F : Fr0 σ₀ σ L d m
  self : m nSelf = some (.ref w)
theorem In.ret {σ₀ : St} {L : Addr} {m : N → Option V} {v : V} (J : In σ₀ σ L w d data p m) (q : Q v (σ₀.set d (wns data p))) : ∃ ρ, ρ.le (σ.del L) ∧ Q v ρ := ⟨_, fun b o h => by
  by_cases hb : b = d
  · subst hb; rw [St.set_same] at h; cases h
    rw [St.del_ne _ J.F.ne]; exact J.W.d
  · rw [St.set_ne _ _ hb] at h
    rw [St.del_ne _ (by first | exact neN h J.F.L0 | exact neS J.F.L0 h | exact fun z => by subst z; rw [J.F.L0] at h; cases h)]
    exact J.F.keep b o hb h, q⟩
theorem In.enter {L : Addr} {m : N → Option V} (H : W0 σ w d data p) (hL : σ L = none) (hm : m nSelf = some (.ref w)) : In σ (σ.set L (.ns true m)) L w d data p m :=
  ⟨H.fresh hL, ⟨St.set_same .., fun b o _ h => by first | exact (St.set_ne _ _ (by first | exact neN h hL | exact neS hL h | exact fun z => by subst z; rw [hL] at h; cases h)).trans h | (rw [St.set_ne _ _ (by first | exact neN h hL | exact neS hL h | exact fun z => by subst z; rw [hL] at h; cases h)]; exact h), hL, H.dL hL⟩, hm⟩
section
variable {σ₀ : St} {L : Addr} {m : N → Option V}
theorem In.asg (J : In σ₀ σ L w d data p m) {x : N} {v : V} (hx : nSelf.nat ≠ x.nat) : In σ₀ (setLoc σ L x v) L w d data p (upd m x v) := by
  unfold setLoc; rw [J.F.fr]; dsimp only
  have h1 : w ≠ L := fun z => by have := J.W.w; rw [z, J.F.fr] at this; cases this
  refine ⟨J.W.other h1 J.F.ne, ⟨St.set_same .., fun b o hb h => ?_, J.F.L0, J.F.ne⟩, by unfold upd; rw [if_neg hx]; exact J.self⟩
  rw [St.set_ne _ _ (by first | exact neN h J.F.L0 | exact neS J.F.L0 h | exact fun z => by subst z; rw [J.F.L0] at h; cases h)]; exact J.F.keep b o hb h
theorem In.move (J : In σ₀ σ L w d data p m) {q : Nat} (hq : q ≤ data.length) : In σ₀ (σ.set d (wns data q)) L w d data q m :=
  ⟨J.W.move hq, ⟨by first | exact (St.set_ne _ _ J.F.ne.symm).trans J.F.fr | (rw [St.set_ne _ _ J.F.ne.symm]; exact J.F.fr), fun b o hb h => by rw [St.set_ne _ _ hb]; exact J.F.keep b o hb h, J.F.L0, J.F.ne⟩, J.self⟩
theorem In.new (J : In σ₀ σ L w d data p m) {a : Addr} {o : AO} (h : σ a = none) : In σ₀ (σ.set a o) L w d data p m :=
  ⟨J.W.fresh h, ⟨by first | exact (St.set_ne _ _ (by first | exact neN h J.F.fr | exact neS J.F.fr h | exact fun z => by subst z; rw [J.F.fr] at h; cases h)).trans J.F.fr | (rw [St.set_ne _ _ (by first | exact neN h J.F.fr | exact neS J.F.fr h | exact fun z => by subst z; rw [J.F.fr] at h; cases h)]; exact J.F.fr), fun b o hb h' => by
    have := J.F.keep b o hb h'
    rw [St.set_ne _ _ (by first | exact neN this h | exact neS h this | exact fun z => by subst z; rw [h] at this; cases this)]; exact this, J.F.L0, J.F.ne⟩, J.self⟩
/-- a change at an object that the caller does not have -/
theorem In.put (J : In σ₀ σ L w d data p m) {a : Addr} {o : AO} (h0 : σ₀ a = none) (h1 : a ≠ w) (h2 : a ≠ d) (h3 : a ≠ L) : In σ₀ (σ.set a o) L w d data p m :=
  ⟨J.W.other h1.symm h2.symm, ⟨by first | exact (St.set_ne _ _ h3.symm).trans J.F.fr | (rw [St.set_ne _ _ h3.symm]; exact J.F.fr), fun b o hb h' => by
    rw [St.set_ne _ _ (by first | exact neN h' h0 | exact neS h0 h' | exact fun z => by subst z; rw [h0] at h'; cases h')]; exact J.F.keep b o hb h', J.F.L0, J.F.ne⟩, J.self⟩
theorem In.of_le {ρ : St} (J : In σ₀ σ L w d data p m) (h : σ.le ρ) : In σ₀ ρ L w d data p m := ⟨J.W.mono h, ⟨h _ _ J.F.fr, fun b o hb h' => h _ _ (J.F.keep b o hb h'), J.F.L0, J.F.ne⟩, J.self⟩
theorem In.at (J : In σ₀ σ L w d data p m) : attrOf σ (.ref w) .nAt = some (.int p) := J.W.at
theorem In.dat (J : In σ₀ σ L w d data p m) : attrOf σ (.ref w) .nData = some (.bytes data) := J.W.dat
/-! expressions and statements within a method -/
variable {C : Ct} {cl : Option Addr}
theorem e_at (J : In σ₀ σ L w d data p m) (q : Q (.int p) σ) : WE C cl atE L σ Q X := by
  (walk_at "w e"; walk_at "w e")
  exact ⟨_, by rw [J.F.fr]; exact J.self, _, J.at, rfl, q⟩
theorem e_data (J : In σ₀ σ L w d data p m) (q : Q (.bytes data) σ) : WE C cl dataE L σ Q X := by
  (walk_at "w e"; walk_at "w e")
  exact ⟨_, by rw [J.F.fr]; exact J.self, _, J.dat, rfl, q⟩
theorem e_loc (J : In σ₀ σ L w d data p m) {x : N} {v : V} (h : m x = some v) (q : Q v σ) : WE C cl (.loc x) L σ Q X := by
  (walk_at "w e")
  exact ⟨_, by rw [J.F.fr]; exact h, q⟩
theorem e_sm {f : F} {es : List IE} (J : In σ₀ σ L w d data p m) (hf : mcls f = clsWire) (h : WEs C cl es L σ (fun vs σ => C f (.ref w :: vs) σ Q X) X) : WE C cl (sm f es) L σ Q X :=
  meth_at J.W J.F.fr J.self hf h
theorem k_setAt {q : Nat} {i : Int} {Q : Ft} (J : In σ₀ σ L w d data p m) (hi : i = (q : Int)) (z : Q .next (σ.set d (wns data q))) :
    WE C cl (.loc nSelf) L σ (fun w' σ => ∃ a cls dd mm, w' = .ref a ∧ σ a = some (.inst cls dd) ∧ σ dd = some (.ns false mm) ∧ okAttr cls nAt = true ∧ (mm nAt).isSome = true ∧ Q .next (σ.set dd (.ns false (upd mm nAt (.int i))))) X := by
  subst hi
  (walk_at "w e")
  refine ⟨_, by rw [J.F.fr]; exact J.self, w, clsWire, d, _, rfl, J.W.w, J.W.d, rfl, rfl, ?_⟩
  rw [upd_at]; exact z
theorem In.bset (J : In σ₀ σ L w d data p m) : ∃ m, σ L = some (.ns true m) := ⟨m, J.F.fr⟩
theorem e_lenD (J : In σ₀ σ L w d data p m) (q : Q (.int data.length) σ) : WE C cl (lenE dataE) L σ Q X := by
  (walk_at "w e"; walk_at "w e"; walk_at "w v")
  refine e_data J ?_
  (walk_at "w v")
  exact ⟨by have := J.W.len; lia, q⟩
theorem e_lenL {σ : St} {x : N} {b : List UInt8} (hL : σ L = some (.ns true m)) (h : m x = some (.bytes b)) (hb : b.length ≤ 1000000) (q : Q (.int b.length) σ) : WE C cl (lenE (.loc x)) L σ Q X := by
  (walk_at "w e"; walk_at "w e"; walk_at "w v"; walk_at "w e")
  refine ⟨_, by rw [hL]; exact h, ?_⟩
  (walk_at "w v")
  exact ⟨hb, q⟩
theorem e_dataAt (J : In σ₀ σ L w d data p m) (hp : p < data.length) (q : Q (.int (((data.getD p 0).toNat : Nat) : Int)) σ) : WE C cl (.sub dataE atE) L σ Q X := by
  (walk_at "w e")
  refine e_data J (e_at J ⟨⟨by lia, by lia, by have := J.W.len; lia⟩, q⟩)
theorem e_sl (J : In σ₀ σ L w d data p m) {x : N} {i : Nat} (h : m x = some (.int i)) (q : Q (.bytes ((data.take p).drop i)) σ) : WE C cl (sl dataE (.loc x) atE) L σ Q X := by
  (walk_at "w e")
  refine e_data J ?_
  (walk_at "w o")
  refine e_loc J h ?_
  (walk_at "w o")
  exact e_at J ⟨⟨by lia, by lia, by have := J.W.len; lia⟩, q⟩
theorem e_at1 (J : In σ₀ σ L w d data p m) (q : Q (.int ((p + 1 : Nat) : Int)) σ) : WE C cl (plus1 atE) L σ Q X := by
  (walk_at "w e")
  refine e_at J ?_
  (walk_at "w e")
  exact q
theorem s_at1 {Q : Ft} (J : In σ₀ σ L w d data p m) (z : Q .next (σ.set d (wns data ((p + 1 : Nat) : Int)))) : WS1 C cl (setAt (plus1 atE)) L σ Q X := by
  exact y_asgA (e_at1 J (k_setAt J rfl z))
theorem s_atLoc {Q : Ft} {x : N} {q : Nat} (J : In σ₀ σ L w d data p m) (h : m x = some (.int q)) (z : Q .next (σ.set d (wns data (q : Int)))) : WS1 C cl (setAt (.loc x)) L σ Q X := by
  exact y_asgA (e_loc J h (k_setAt J rfl z))
theorem s_atLen {Q : Ft} {x : N} {b : List UInt8} (J : In σ₀ σ L w d data p m) (h : m x = some (.bytes b)) (hb : b.length ≤ 1000000) (z : Q .next (σ.set d (wns data ((p + b.length : Nat) : Int)))) : WS1 C cl (setAt (add atE (lenE (.loc x)))) L σ Q X := by
  refine y_asgA (u_bin (e_at J (e_lenL J.F.fr h hb ?_)))
  rw [b_add]
  exact k_setAt J (by walk_at "w a") z
/-! runs -/
noncomputable def runTo (P : Int → Bool) (data : List UInt8) (p : Nat) : Nat := p + ((data.drop p).takeWhile fun c => P c.toNat).length
noncomputable def cod (data : List UInt8) (p : Nat) : Int := ((data.getD p 0).toNat : Int)
theorem cod_lo (p : Nat) : 0 ≤ cod data p := Int.natCast_nonneg _
theorem cod_hi (p : Nat) : cod data p ≤ 255 := by
  unfold cod
  have : (data.getD p 0).toNat < 256 := (data.getD p 0).toNat_lt
  lia
theorem runTo_le (P : Int → Bool) (h : p ≤ data.length) : p ≤ runTo P data p ∧ runTo P data p ≤ data.length := by
  unfold runTo
  have := (List.takeWhile_sublist (l := data.drop p) fun c => P c.toNat).length_le
  rw [List.length_drop] at this
  lia
theorem runTo_step {P : Int → Bool} (h : p < data.length) (hp : P (cod data p) = true) : runTo P data p = runTo P data (p + 1) := by
  unfold runTo
  have e : data.drop p = data.getD p 0 :: data.drop (p + 1) := by
    rw [List.drop_eq_getElem_cons h, List.getD_eq_getElem?_getD, List.getElem?_eq_getElem h]; rfl
  have hp' : P ((data.getD p 0).toNat : Int) = true := hp
  rw [e, List.takeWhile_cons, if_pos hp', List.length_cons]; lia
theorem runTo_stop {P : Int → Bool} (h : p < data.length) (hp : P (cod data p) = false) : runTo P data p = p := by
  unfold runTo
  have e : data.drop p = data.getD p 0 :: data.drop (p + 1) := by
    rw [List.drop_eq_getElem_cons h, List.getD_eq_getElem?_getD, List.getElem?_eq_getElem h]; rfl
  rw [e, List.takeWhile_cons, if_neg (by rw [show ((data.getD p 0).toNat : Int) = cod data p from rfl, hp]; decide)]; rfl
theorem runTo_end {P : Int → Bool} (h : data.length ≤ p) : runTo P data p = p := by
  unfold runTo; rw [List.drop_eq_nil_of_le h]; rfl
theorem w_run {n : Nat} {f : F} {P : Int → Bool} (hn : 1 ≤ n) (hf : isP f = true) (fit : ∀ c σ (Q : Kt) (X : Xt), 0 ≤ c → c ≤ 255 → Q (.bool (P c)) σ → WC (n - 1) f [.int c] σ Q X) (H : W0 σ w d data p)
    (q : Q (.bytes ((data.take (runTo P data p)).drop p)) (σ.set d (wns data (runTo P data p : Nat)))) : WC n .wRun [.ref w, .ref f.addr] σ Q X := by
  refine enter [(nFits, .ref f.addr), (nSelf, .ref w)] (by walk_at "w a") rfl rfl rfl fun L hL => ?_
  have J := In.enter (m := mk [(nFits, .ref f.addr), (nSelf, .ref w)]) H hL rfl
  generalize σ.set L (.ns true (mk [(nFits, .ref f.addr), (nSelf, .ref w)])) = σ₁ at J
  (walk_at "w s0")
  refine e_at J ⟨J.bset, ?_⟩
  have J := J.asg (x := nFirst) (v := .int p) (by decide)
  generalize setLoc σ₁ L nFirst (.int p) = σ₂ at J
  generalize hm : upd (mk [(nFits, .ref f.addr), (nSelf, .ref w)]) nFirst (.int p) = m at J
  have m1 : m nFirst = some (.int p) := by subst hm; rfl
  have m2 : m nFits = some (.ref f.addr) := by subst hm; rfl
  (walk_at "w s")
  have hlen := H.len
  refine ⟨fun k τ => ∃ p', In σ τ L w d data p' m ∧ p ≤ p' ∧ runTo P data p' = runTo P data p ∧ k = data.length - p', ⟨_, p, J, Nat.le_refl _, rfl, rfl⟩, fun k τ hI => ?_⟩
  obtain ⟨p', J, h1, h2, hk⟩ := hI
  have hle := J.W.le
  (walk_at "w e"; walk_at "w b"; walk_at "w e")
  refine e_at J (e_lenD J (.mk (fun hb => ?_) (fun hb => ?_)))
  · have hlt : p' < data.length := by have := of_decide_eq_true hb; lia
    (walk_at "w b"; walk_at "w e")
    refine e_loc J m2 ?_
    (walk_at "w v")
    refine e_dataAt J hlt ?_
    (walk_at "w v")
    refine to_f hf (fit _ _ _ _ (cod_lo (data := data) p') (cod_hi (data := data) p') (.mk (fun hP => ?_) (fun hP => ?_)))
    · (walk_at "w b")
      refine (.mk (fun _ => ?_) (fun h => by cases h))
      have hP' : P (cod data p') = true := hP
      (walk_at "w n")
      refine s_at1 J ?_
      (walk_at "w n")
      exact ⟨data.length - (p' + 1), _, by lia, St.le_refl _, p' + 1, J.move hlt, by lia, by rw [← runTo_step hlt hP', h2], rfl⟩
    · have hP' : P (cod data p') = false := by cases q : P (cod data p') with | false => rfl | true => exact absurd q hP
      refine (.mk (fun h => absurd hP' (by rw [show P (cod data p') = true from h]; decide)) (fun _ => ?_))
      have he : runTo P data p = p' := by rw [← h2, runTo_stop hlt hP']
      (walk_at "w s")
      refine e_sl J m1 (J.ret ?_)
      rw [he] at q; exact q
  · have hge : data.length ≤ p' := by have := mt decide_eq_true hb; lia
    refine (.mk (fun h => absurd h hb) (fun _ => ?_))
    have he : runTo P data p = p' := by rw [← h2, runTo_end hge]
    (walk_at "w s")
    refine e_sl J m1 (J.ret ?_)
    rw [he] at q; exact q
end
end
end
end Mine
-- D2
set_option genSizeOf false
set_option genInjectivity false
namespace Mine
open IE IS N
section
variable {n : Nat} {σ σ₀ : St} {Q : Kt} {X : Xt} {C : Ct} {cl : Option Addr} {L : Addr} {m : N → Option V}
/-- within a function that leaves the state as it was -/
structure Fp (σ₀ σ : St) (L : Addr) (m : N → Option V) : Prop where
  fr : σ L = some (.ns true m)
  keep : ∀ b o, σ₀ b = some o → σ b = some o
  L0 : σ₀ L = none
theorem Fp.le (J : Fp σ₀ σ L m) : σ₀.le (σ.del L) := fun b o h => by
  rw [St.del_ne _ (by first | exact neN h J.L0 | exact neS J.L0 h | exact fun z => by subst z; rw [J.L0] at h; cases h)]; exact J.keep b o h
theorem Fp.ret {v : V} (J : Fp σ₀ σ L m) (q : Q v σ₀) : ∃ ρ, ρ.le (σ.del L) ∧ Q v ρ := ⟨_, J.le, q⟩
theorem Fp.enter {m : N → Option V} (hL : σ L = none) : Fp σ (σ.set L (.ns true m)) L m :=
  ⟨St.set_same .., fun b o h => by first | exact (St.set_ne _ _ (by first | exact neN h hL | exact neS hL h | exact fun z => by subst z; rw [hL] at h; cases h)).trans h | (rw [St.set_ne _ _ (by first | exact neN h hL | exact neS hL h | exact fun z => by subst z; rw [hL] at h; cases h)]; exact h), hL⟩
theorem Fp.asg {x : N} {v : V} (J : Fp σ₀ σ L m) : Fp σ₀ (setLoc σ L x v) L (upd m x v) := by
  unfold setLoc; rw [J.fr]; dsimp only
  exact ⟨St.set_same .., fun b o h => by rw [St.set_ne _ _ (by first | exact neN h J.L0 | exact neS J.L0 h | exact fun z => by subst z; rw [J.L0] at h; cases h)]; exact J.keep b o h, J.L0⟩
theorem Fp.new {a : Addr} {o : AO} (J : Fp σ₀ σ L m) (h : σ a = none) : Fp σ₀ (σ.set a o) L m :=
  ⟨by first | exact (St.set_ne _ _ (by first | exact neN h J.fr | exact neS J.fr h | exact fun z => by subst z; rw [J.fr] at h; cases h)).trans J.fr | (rw [St.set_ne _ _ (by first | exact neN h J.fr | exact neS J.fr h | exact fun z => by subst z; rw [J.fr] at h; cases h)]; exact J.fr), fun b o' h' => by
    have := J.keep b o' h'
    rw [St.set_ne _ _ (by first | exact neN this h | exact neS h this | exact fun z => by subst z; rw [h] at this; cases this)]; exact this, J.L0⟩
theorem Fp.put {a : Addr} {o : AO} (J : Fp σ₀ σ L m) (h : σ₀ a = none) (hL : a ≠ L) : Fp σ₀ (σ.set a o) L m :=
  ⟨by first | exact (St.set_ne _ _ hL.symm).trans J.fr | (rw [St.set_ne _ _ hL.symm]; exact J.fr), fun b o' h' => by
    rw [St.set_ne _ _ (by first | exact neN h' h | exact neS h h' | exact fun z => by subst z; rw [h] at h'; cases h')]; exact J.keep b o' h', J.L0⟩
theorem Fp.of_le {ρ : St} (J : Fp σ₀ σ L m) (h : σ.le ρ) : Fp σ₀ ρ L m := ⟨h _ _ J.fr, fun b o h' => h _ _ (J.keep b o h'), J.L0⟩
theorem Fp.bset (J : Fp σ₀ σ L m) : ∃ m, σ L = some (.ns true m) := ⟨m, J.fr⟩
/-- a comprehension over bytes with a pure element -/
theorem comp_bytes {elt : IE} {x : N} {src : IE} {b : List UInt8} {g : Int → V} (hs : ∀ (Q : Kt), Q (.bytes b) σ → WE C none src L σ Q X) (hb : b.length ≤ 1000000)
    (he : ∀ (D : Addr) (ρ : St) (m : N → Option V) (c : UInt8) (Q : Kt) (X : Xt), ρ D = some (.ns true m) → m x = some (.int c.toNat) → Q (g c.toNat) ρ → WE C none elt D ρ Q X)
    (q : news σ (.list (b.map fun c => g c.toNat)) Q) : WE C none (.comp elt x src) L σ Q X := by
  (walk_at "w e")
  refine hs _ ⟨rfl, .bytes b, bInt b, by unfold seqOf; dsimp only; rw [if_pos hb], fun it A D h1 h2 h3 h4 h5 h6 => ?_⟩
  refine ⟨fun i acc τ => τ it = some (.iter (.bytes b) i) ∧ τ A = some (.list acc) ∧ (∃ m, τ D = some (.ns true m)) ∧ acc = (b.take i).map (fun c => g c.toNat) ∧ ∀ a, a ≠ it → a ≠ A → a ≠ D → τ a = σ a, ?_, ?_⟩
  · refine ⟨?_, ?_, ⟨_, St.set_same ..⟩, by simp, fun a e1 e2 e3 => ?_⟩
    · rw [St.set_ne _ _ h5, St.set_ne _ _ h4, St.set_same]
    · rw [St.set_ne _ _ h6, St.set_same]
    · rw [St.set_ne _ _ e3, St.set_ne _ _ e2, St.set_ne _ _ e1]
  · rintro i acc τ ⟨t1, t2, ⟨m, t3⟩, t4, t5⟩ hi
    have hl : (bInt b).length = b.length := by unfold bInt; simp
    rw [hl] at hi
    refine ⟨(fun l e => by cases e), t1, t2, ⟨m, t3⟩, by rw [t4]; simp; lia, fun v hv => ?_, fun hi' => ?_⟩
    · obtain ⟨c, hc, rfl⟩ : ∃ c, b[i]? = some c ∧ v = .int c.toNat := by
        unfold bInt at hv
        rw [List.getElem?_map] at hv
        obtain ⟨c, hc, e⟩ := Option.map_eq_some_iff.mp hv
        exact ⟨c, hc, e.symm⟩
      have hset : setLoc (τ.set it (.iter (.bytes b) (i + 1))) D x (.int c.toNat) = (τ.set it (.iter (.bytes b) (i + 1))).set D (.ns true (upd m x (.int c.toNat))) := by
        unfold setLoc; rw [St.set_ne _ _ (Ne.symm h5), t3]
      rw [hset]
      refine he D _ _ c _ _ (St.set_same ..) (by unfold upd; rw [if_pos rfl]) ⟨?_, _, St.le_refl _, ?_⟩
      · rw [St.set_ne _ _ h6, St.set_ne _ _ (Ne.symm h4)]; exact t2
      · refine ⟨?_, St.set_same .., ⟨upd m x (.int c.toNat), ?_⟩, ?_, fun a e1 e2 e3 => ?_⟩
        · rw [St.set_ne _ _ h4, St.set_ne _ _ h5, St.set_same]
        · rw [St.set_ne _ _ (Ne.symm h6), St.set_same]
        · have hi2 : i < b.length := by
            rcases Nat.lt_or_ge i b.length with h | h
            · exact h
            · rw [List.getElem?_eq_none h] at hc; cases hc
          rw [t4, List.take_add_one, hc]; simp
        · rw [St.set_ne _ _ e2, St.set_ne _ _ e3, St.set_ne _ _ e1]; exact t5 a e1 e2 e3
    · rw [hl] at hi'
      have hacc : acc = b.map fun c => g c.toNat := by rw [t4, hi', List.take_length]
      have e : (τ.del it).del D = σ.set A (.list (b.map fun c => g c.toNat)) := by
        funext a
        by_cases e3 : a = D
        · subst e3; rw [St.del_same, St.set_ne _ _ (Ne.symm h6), h3]
        · rw [St.del_ne _ e3]
          by_cases e1 : a = it
          · subst e1; rw [St.del_same, St.set_ne _ _ h4, h1]
          · rw [St.del_ne _ e1]
            by_cases e2 : a = A
            · subst e2; rw [t2, St.set_same, hacc]
            · rw [St.set_ne _ _ e2]; exact t5 a e1 e2 e3
      rw [e]
      exact q A h2
noncomputable def low8 (b : List UInt8) : List UInt8 := b.map fun c => (lowC c.toNat).toNat.toUInt8
theorem ints_map {α : Type} (f : α → Int) (l : List α) : intsOf (l.map fun c => V.int (f c)) = some (l.map f) := by
  induction l with
  | nil => rfl
  | cons a r ih => simp only [List.map_cons, intsOf, ih, Option.map_some]
theorem bools_map {α : Type} (f : α → Bool) (l : List α) : boolsOf (l.map fun c => V.bool (f c)) = some (l.map f) := by
  induction l with
  | nil => rfl
  | cons a r ih => simp only [List.map_cons, boolsOf, ih, Option.map_some]
theorem strs_map {α : Type} (f : α → Str) (l : List α) : strsOf (l.map fun c => V.str (f c)) = some (l.map f) := by
  induction l with
  | nil => rfl
  | cons a r ih => simp only [List.map_cons, strsOf, ih, Option.map_some]
theorem w_lower {b : List UInt8} (hn : 2 ≤ n) (hb : b.length ≤ 1000000) (q : Q (.bytes (low8 b)) σ) : WC n .lower [.bytes b] σ Q X := by
  refine enterR [(nOctets, .bytes b)] (by walk_at "w a") rfl rfl rfl fun L hL => ?_
  have J := Fp.enter (m := mk [(nOctets, .bytes b)]) hL
  generalize σ.set L (.ns true (mk [(nOctets, .bytes b)])) = σ₁ at J
  (walk_at "w s0"; walk_at "w e"; walk_at "w e"; walk_at "w v")
  refine comp_bytes (g := fun c => .int (lowC c)) (fun Q h => f_loc J.fr rfl h) hb (fun D ρ m c Q X hD hm h => ?_) fun A hA => ?_
  · exact e_code rfl hD hm (w_lowerCode (by walk_at "w a") h)
  · (walk_at "w v")
    refine .inl ⟨_, _, St.set_same .., ints_map _ _, by simpa using hb, fun k hk => ?_, (J.new hA).ret ?_⟩
    · obtain ⟨c, hc, rfl⟩ := List.mem_map.mp hk
      have : c.toNat < 256 := c.toNat_lt
      unfold lowC
      split <;> lia
    · simp only [List.map_map]; exact q
end
end Mine
-- D3
namespace Mine
open IE IS N
noncomputable def nof (b : List UInt8) : Int := b.foldl (fun (n : Int) (c : UInt8) => n * 10 + c.toNat - 48) 0
theorem nof_snoc (b : List UInt8) (c : UInt8) : nof (b ++ [c]) = nof b * 10 + c.toNat - 48 := by unfold nof; rw [List.foldl_append]; rfl
theorem bInt_len (b : List UInt8) : (bInt b).length = b.length := by unfold bInt; simp
theorem bInt_get {b : List UInt8} {i : Nat} {v : V} (hv : (bInt b)[i]? = some v) : ∃ c, b[i]? = some c ∧ v = .int c.toNat ∧ i < b.length := by
  unfold bInt at hv
  rw [List.getElem?_map] at hv
  obtain ⟨c, hc, e⟩ := Option.map_eq_some_iff.mp hv
  refine ⟨c, hc, e.symm, ?_⟩
  rcases Nat.lt_or_ge i b.length with h | h
  · exact h
  · rw [List.getElem?_eq_none h] at hc; cases hc
section
variable {n : Nat} {σ σ₀ : St} {Q : Kt} {X : Xt} {C : Ct} {cl : Option Addr} {L : Addr} {m : N → Option V}
theorem flat_chr (b : List UInt8) : (⟨(List.flatMap (fun x : Str => x.cps.toList) (b.map fun c => (⟨#[((c.toNat : Nat) : Int).toNat]⟩ : Str))).toArray⟩ : Str) = strOf b := by
  unfold strOf
  congr 2
  induction b with
  | nil => rfl
  | cons a r ih => rw [List.map_cons, List.flatMap_cons, ih]; rfl
/-- the iterator of a for and the frame -/
structure Fi (σ₀ τ : St) (L it : Addr) (sv : V) (i : Nat) (m : N → Option V) : Prop where
  J : Fp σ₀ τ L m
  at_ : τ it = some (.iter sv i)
  it0 : σ₀ it = none
  ne : it ≠ L
theorem Fi.start {sv : V} {it : Addr} (J : Fp σ₀ σ L m) (h : σ it = none) : Fi σ₀ (σ.set it (.iter sv 0)) L it sv 0 m :=
  ⟨J.new h, St.set_same .., (by
    cases q : σ₀ it with
    | none => rfl
    | some o => have := J.keep _ _ q; rw [h] at this; cases this), by first | exact neN h J.fr | exact neS J.fr h | exact fun z => by subst z; rw [J.fr] at h; cases h⟩
theorem Fi.turn {sv v : V} {it : Addr} {i : Nat} {x : N} (J : Fi σ₀ σ L it sv i m) : Fi σ₀ (setLoc (σ.set it (.iter sv (i + 1))) L x v) L it sv (i + 1) (upd m x v) := by
  refine ⟨(J.J.put J.it0 J.ne).asg, ?_, J.it0, J.ne⟩
  unfold setLoc
  rw [St.set_ne _ _ J.ne.symm, J.J.fr]; dsimp only
  rw [St.set_ne _ _ J.ne, St.set_same]
theorem Fi.asg {sv v : V} {it : Addr} {i : Nat} {x : N} (J : Fi σ₀ σ L it sv i m) : Fi σ₀ (setLoc σ L x v) L it sv i (upd m x v) := by
  refine ⟨J.J.asg, ?_, J.it0, J.ne⟩
  unfold setLoc
  rw [J.J.fr]; dsimp only
  rw [St.set_ne _ _ J.ne]; exact J.at_
theorem Fi.over {sv : V} {it : Addr} {i : Nat} (J : Fi σ₀ σ L it sv i m) : Fp σ₀ (σ.del it) L m :=
  ⟨by first | exact (St.del_ne _ J.ne.symm).trans J.J.fr | (rw [St.del_ne _ J.ne.symm]; exact J.J.fr), fun b o h => by rw [St.del_ne _ (by first | exact neN h J.it0 | exact neS J.it0 h | exact fun z => by subst z; rw [J.it0] at h; cases h)]; exact J.J.keep b o h, J.J.L0⟩
theorem w_nof {b : List UInt8} (hn : 1 ≤ n) (hb : b.length ≤ 1000000) (q : Q (.int (nof b)) σ) : WC n .numberOfFigures [.bytes b] σ Q X := by
  refine enterR [(nOctets, .bytes b)] (by walk_at "w a") rfl rfl rfl fun L hL => ?_
  have J := Fp.enter (m := mk [(nOctets, .bytes b)]) hL
  generalize σ.set L (.ns true (mk [(nOctets, .bytes b)])) = σ₁ at J
  (walk_at "w s0"; walk_at "w e")
  refine ⟨J.bset, ?_⟩
  have J := J.asg (x := nNumber) (v := .int 0)
  (walk_at "w s")
  refine f_loc J.fr rfl ⟨.bytes b, bInt b, by unfold seqOf; dsimp only; rw [if_pos hb], fun it hit => ?_⟩
  refine ⟨fun i τ => ∃ m, Fi σ τ L it (.bytes b) i m ∧ m nNumber = some (.int (nof (b.take i))), ⟨_, Fi.start J hit, rfl⟩, ?_⟩
  rintro i τ ⟨m, K, hm⟩ hi
  refine ⟨(fun l e => by cases e), K.at_, fun v hv => ⟨⟨m, K.J.fr⟩, ?_⟩, fun hi' => ?_⟩
  · obtain ⟨c, hc, rfl, hlt⟩ := bInt_get hv
    have K := K.turn (x := nCode) (v := .int c.toNat)
    generalize setLoc (τ.set it (.iter (.bytes b) (i + 1))) L nCode (.int c.toNat) = τ' at K
    (walk_at "w s"; walk_at "w e"; walk_at "w e"; walk_at "w e"; walk_at "w e")
    refine ⟨_, by rw [K.J.fr]; exact (show upd m nCode _ nNumber = _ from hm), ?_⟩
    (walk_at "w e")
    refine ⟨by decide, ?_⟩
    (walk_at "w e")
    refine ⟨.int c.toNat, by rw [K.J.fr]; rfl, ?_⟩
    refine (.mk K.J.bset ?_)
    (walk_at "w n")
    refine ⟨_, St.le_refl _, _, K.asg, ?_⟩
    show some (V.int _) = some (V.int _)
    rw [List.take_add_one, hc]
    show _ = some (V.int (nof (b.take i ++ [c])))
    rw [nof_snoc]
  · rw [bInt_len] at hi'
    rw [hi', List.take_length] at hm
    (walk_at "w s")
    exact f_loc K.over.fr hm (K.over.ret q)
theorem w_ascii {b : List UInt8} (hn : 1 ≤ n) (hb : b.length ≤ 1000000) (ha : ∀ c ∈ b, c.toNat ≤ 127) (q : Q (.str (strOf b)) σ) : WC n .asciiText [.bytes b] σ Q X := by
  refine enterR [(nOctets, .bytes b)] (by walk_at "w a") rfl rfl rfl fun L hL => ?_
  have J := Fp.enter (m := mk [(nOctets, .bytes b)]) hL
  generalize σ.set L (.ns true (mk [(nOctets, .bytes b)])) = σ₁ at J
  (walk_at "w s0"; walk_at "w e"; walk_at "w e"; walk_at "w v")
  refine e_lenL J.fr rfl hb ?_
  (walk_at "w v")
  refine ⟨⟨by lia, by lia⟩, fun a ha' => ⟨.int b.length, (List.range b.length).map fun (i : Nat) => V.int i, ?_, fun it hit => ?_⟩⟩
  · unfold seqOf; dsimp only; rw [St.set_same]; dsimp only; rw [if_pos (by walk_at "w a")]; rfl
  have J := J.new (o := .rng (b.length : Int).toNat) ha'
  refine ⟨fun i τ => ∃ m, Fi σ τ L it (.int b.length) i m ∧ m nOctets = some (.bytes b), ⟨_, Fi.start J hit, rfl⟩, ?_⟩
  rintro i τ ⟨m, K, hm⟩ hi
  have hl : ((List.range b.length).map fun (i : Nat) => V.int i).length = b.length := by simp
  refine ⟨(fun l e => by cases e), K.at_, fun v hv => ⟨⟨m, K.J.fr⟩, ?_⟩, fun hi' => ?_⟩
  · obtain ⟨hlt, rfl⟩ : i < b.length ∧ v = .int i := by
      rw [List.getElem?_map] at hv
      obtain ⟨j, hj, rfl⟩ := Option.map_eq_some_iff.mp hv
      rcases Nat.lt_or_ge i b.length with h | h
      · rw [List.getElem?_range h] at hj; cases hj; exact ⟨h, rfl⟩
      · rw [List.getElem?_eq_none (by simpa using h)] at hj; cases hj
    have K := K.turn (x := nAt) (v := .int i)
    generalize setLoc (τ.set it (.iter (.int b.length) (i + 1))) L nAt (.int i) = τ' at K
    have hc : (b.getD i 0).toNat ≤ 127 := ha _ (by rw [List.getD_eq_getElem?_getD, List.getElem?_eq_getElem hlt]; exact List.getElem_mem hlt)
    (walk_at "w s"; walk_at "w e"; walk_at "w e")
    refine f_loc K.J.fr (show upd m nAt _ nOctets = _ from hm) (f_loc K.J.fr rfl ⟨⟨by lia, by lia, by lia⟩, ?_⟩)
    (walk_at "w e")
    refine (.mk (fun h => ?_) (fun _ => ?_))
    · have := of_decide_eq_true h
      have e : ((i : Int).toNat) = i := rfl
      rw [e] at this; lia
    · (walk_at "w n"; walk_at "w n")
      exact ⟨_, St.le_refl _, _, K, hm⟩
  · (walk_at "w s"; walk_at "w e"; walk_at "w e")
    refine ⟨"str.join", rfl, ?_⟩
    (walk_at "w v")
    refine comp_bytes (b := b) (g := fun c => .str ⟨#[c.toNat]⟩) (fun Q h => f_loc K.over.fr hm h) hb (fun D ρ m c Q X hD hm h => ?_) fun A hA => ?_
    · (walk_at "w e"; walk_at "w e"; walk_at "w v")
      refine f_loc hD hm ?_
      (walk_at "w v")
      exact ⟨by have : c.toNat < 256 := c.toNat_lt; lia, h⟩
    · (walk_at "w v")
      refine ⟨_, _, rfl, St.set_same .., strs_map _ _, by simpa using hb, fun x hx => ?_, (K.over.new hA).ret ?_⟩
      · obtain ⟨c, hc, rfl⟩ := List.mem_map.mp hx; rfl
      · rw [← flat_chr] at q; exact q
end
end Mine
-- D4
namespace Mine
open IE IS N
noncomputable def has (data : List UInt8) (p : Nat) (o : List UInt8) : Bool := decide ((data.take (p + o.length)).drop p = o)
theorem has_le {data o : List UInt8} {p : Nat} (h : has data p o = true) (hp : p ≤ data.length) : p + o.length ≤ data.length := by
  have e := of_decide_eq_true h
  have := congrArg List.length e
  rw [List.length_drop, List.length_take] at this
  lia
theorem run_eq (P : Int → Bool) (data : List UInt8) (p : Nat) : (data.take (runTo P data p)).drop p = (data.drop p).takeWhile fun c => P c.toNat := by
  unfold runTo
  rw [List.drop_take, Nat.add_sub_cancel_left]
  have h := List.takeWhile_prefix (fun c : UInt8 => P c.toNat) (l := data.drop p)
  exact (List.prefix_iff_eq_take.mp h).symm
theorem run_all {P : Int → Bool} {data : List UInt8} {p : Nat} {c : UInt8} (h : c ∈ (data.take (runTo P data p)).drop p) : P c.toNat = true := by
  rw [run_eq] at h
  have := List.all_takeWhile (l := data.drop p) (p := fun c : UInt8 => P c.toNat)
  exact List.all_eq_true.mp this c h
theorem run_len {P : Int → Bool} {data : List UInt8} {p : Nat} : ((data.take (runTo P data p)).drop p).length = runTo P data p - p := by
  rw [run_eq]; unfold runTo; lia
theorem run_len_le {P : Int → Bool} {data : List UInt8} {p : Nat} : ((data.take (runTo P data p)).drop p).length ≤ data.length := by
  rw [List.length_drop, List.length_take]; lia
section
variable {n : Nat} {σ σ₀ : St} {Q : Kt} {X : Xt} {C : Ct} {cl : Option Addr} {L w d : Addr} {m : N → Option V} {data : List UInt8} {p : Nat}
theorem In.ret0 {v : V} (J : In σ₀ σ L w d data p m) (H : W0 σ₀ w d data p) (q : Q v σ₀) : ∃ ρ, ρ.le (σ.del L) ∧ Q v ρ := J.ret (by rw [St.set_id _ H.d]; exact q)
theorem In.loc (J : In σ₀ σ L w d data p m) {x : N} {v : V} (h : m x = some v) (q : Q v σ) : WE C cl (.loc x) L σ Q X := f_loc J.F.fr h q
theorem w_skip {o : List UInt8} (hn : 1 ≤ n) (H : W0 σ w d data p) (ho : o.length ≤ 1000) (q1 : has data p o = true → Q (.bool true) (σ.set d (wns data ((p + o.length : Nat) : Int)))) (q2 : has data p o = false → Q (.bool false) σ) :
    WC n .wSkip [.ref w, .bytes o] σ Q X := by
  refine enterR [(nOctets, .bytes o), (nSelf, .ref w)] (by walk_at "w a") rfl rfl rfl fun L hL => ?_
  have J := In.enter (m := mk [(nOctets, .bytes o), (nSelf, .ref w)]) H hL rfl
  generalize σ.set L (.ns true (mk [(nOctets, .bytes o), (nSelf, .ref w)])) = σ₁ at J
  have hl := H.len
  have hle := H.le
  (walk_at "w s0"; walk_at "w e"; walk_at "w e")
  refine e_data J ?_
  (walk_at "w o")
  refine e_at J ?_
  (walk_at "w o"; walk_at "w e")
  refine e_at J (e_lenL J.F.fr rfl (by walk_at "w a") ⟨⟨by lia, by lia, by lia⟩, J.loc rfl ⟨_, rfl, fun h => ?_, fun h => ?_⟩⟩)
  · (walk_at "w s"; walk_at "w e")
    have e : has data p o = false := by
      unfold has
      have : ((p : Int) + (o.length : Int)).toNat = p + o.length := by lia
      rw [this] at h
      simpa using h
    exact J.ret0 H (q2 e)
  · have e : has data p o = true := by
      unfold has
      have : ((p : Int) + (o.length : Int)).toNat = p + o.length := by lia
      rw [this] at h
      simpa using h
    (walk_at "w n"; walk_at "w n")
    refine s_atLen J rfl (by walk_at "w a") ?_
    have J := J.move (has_le e hle)
    (walk_at "w s"; walk_at "w e")
    exact J.ret (q1 e)
theorem callV_fault {what : Str} {i : Int} (h : ∀ dd e, σ dd = none → σ e = none → dd ≠ e → Q (.ref e) ((σ.set dd (.ns false (mk [(nAt, .int i), (nWhat, .str what)]))).set e (.exn clsFault dd))) : callV C (.ref clsFault) [.str what, .int i] σ Q X := by
  have e : callV C (.ref clsFault) [.str what, .int i] σ Q X = ∃ w' i', [V.str what, .int i] = [.str w', .int i'] ∧ ∀ dd e, σ dd = none → σ e = none → dd ≠ e → Q (.ref e) ((σ.set dd (.ns false (mk [(nAt, .int i'), (nWhat, .str w')]))).set e (.exn clsFault dd)) := rfl
  rw [e]
  exact ⟨_, _, rfl, h⟩
theorem w_fault {what : Str} (hn : 1 ≤ n) (H : W0 σ w d data p) (q : ∀ dd e, σ dd = none → σ e = none → dd ≠ e → Q (.ref e) ((σ.set dd (.ns false (mk [(nAt, .int p), (nWhat, .str what)]))).set e (.exn clsFault dd))) : WC n .wFault [.ref w, .str what] σ Q X := by
  refine enterR [(nWhat, .str what), (nSelf, .ref w)] (by walk_at "w a") rfl rfl rfl fun L hL => ?_
  have J := In.enter (m := mk [(nWhat, .str what), (nSelf, .ref w)]) H hL rfl
  (walk_at "w s0"; walk_at "w e"; walk_at "w e"; walk_at "w v")
  refine J.loc rfl ?_
  (walk_at "w v")
  refine e_at J ?_
  (walk_at "w v")
  refine callV_fault fun dd e h1 h2 h3 => fin ?_ (q dd e ?_ ?_ h3)
  · have n1 : dd ≠ L := fun z => by subst z; rw [St.set_same] at h1; cases h1
    have n2 : e ≠ L := fun z => by subst z; rw [St.set_same] at h2; cases h2
    rw [St.del_set_ne _ _ n2, St.del_set_ne _ _ n1, St.del_set _ _ hL]
  · rw [St.set_ne _ _ (fun z => by subst z; rw [St.set_same] at h1; cases h1)] at h1; exact h1
  · rw [St.set_ne _ _ (fun z => by subst z; rw [St.set_same] at h2; cases h2)] at h2; exact h2
/-- the exception object has its offset -/
theorem fault_at {i : Int} {dd e : Addr} {what : Str} (F : Fault X σ d i) (h1 : σ dd = none) (h2 : σ e = none) (h3 : dd ≠ e) :
    ∃ a d', V.ref e = .ref a ∧ ((σ.set dd (.ns false (mk [(nAt, .int i), (nWhat, .str what)]))).set e (.exn clsFault dd)) a = some (.exn clsFault d') ∧ X a (((σ.set dd (.ns false (mk [(nAt, .int i), (nWhat, .str what)]))).set e (.exn clsFault dd)).set a (.exc clsFault d')) := by
  refine ⟨e, dd, rfl, St.set_same .., F e _ (fun b o hb h => ?_) ?_⟩
  · rw [St.set_ne _ _ (by first | exact neN h h2 | exact neS h2 h | exact fun z => by subst z; rw [h2] at h; cases h), St.set_ne _ _ (by first | exact neN h h2 | exact neS h2 h | exact fun z => by subst z; rw [h2] at h; cases h), St.set_ne _ _ (by first | exact neN h h1 | exact neS h1 h | exact fun z => by subst z; rw [h1] at h; cases h)]; exact h
  · unfold attrOf
    simp only [St.set_same]
    rw [St.set_ne _ _ h3, St.set_ne _ _ h3, St.set_same]
    rfl
theorem s_raise {es : IE} {what : Str} {Q : Ft} (hn : 1 ≤ n) (J : In σ₀ σ L w d data p m) (F : Fault X σ d p) (he : ∀ (Q : Kt), Q (.str what) σ → WE (WC n) cl es L σ Q X) : WS1 (WC n) cl (.raise (sm .wFault [es])) L σ Q X := by
  refine y_raise (e_sm J rfl ?_)
  (walk_at "w v")
  refine he _ ?_
  (walk_at "w v")
  exact w_fault hn J.W fun dd e h1 h2 h3 => fault_at F h1 h2 h3
theorem s_raiseF {what : String} {Q : Ft} (hn : 1 ≤ n) (J : In σ₀ σ L w d data p m) (F : Fault X σ d p) : WS1 (WC n) cl (raiseF what) L σ Q X :=
  s_raise hn J F fun Q h => h
theorem s_raiseW {what : String} {i : Int} {Q : Ft} (hL : σ L = some (.ns true m)) (hm : m nFirst = some (.int i)) (F : Fault X σ d i) : WS1 C cl (raiseW what) L σ Q X := by
  refine y_raise (u_call (u_glob (v_cons (u_ks (v_cons (f_loc hL hm ?_))))))
  (walk_at "w v")
  exact callV_fault fun dd e h1 h2 h3 => fault_at F h1 h2 h3
theorem w_need {o : List UInt8} {what : Str} (hn : 2 ≤ n) (H : W0 σ w d data p) (ho : o.length ≤ 1000) (q1 : has data p o = true → Q .none (σ.set d (wns data ((p + o.length : Nat) : Int)))) (q2 : has data p o = false → Fault X σ d p) :
    WC n .wNeed [.ref w, .bytes o, .str what] σ Q X := by
  refine enterR [(nWhat, .str what), (nOctets, .bytes o), (nSelf, .ref w)] (by walk_at "w a") rfl rfl rfl fun L hL => ?_
  have J := In.enter (m := mk [(nWhat, .str what), (nOctets, .bytes o), (nSelf, .ref w)]) H hL rfl
  generalize σ.set L (.ns true (mk [(nWhat, .str what), (nOctets, .bytes o), (nSelf, .ref w)])) = σ₁ at J
  (walk_at "w s0"; walk_at "w e")
  refine e_sm J rfl ?_
  (walk_at "w v")
  refine J.loc rfl ?_
  (walk_at "w v")
  refine w_skip (by walk_at "w a") J.W ho (fun h => ⟨_, rfl, _, rfl, (fun z => by cases z), fun _ => ?_⟩) fun h => ⟨_, rfl, _, rfl, fun _ => ?_, fun z => by cases z⟩
  · (walk_at "w n"; walk_at "w n")
    exact (J.move (has_le h H.le)).ret (q1 h)
  · (walk_at "w n")
    exact s_raise (what := what) (by walk_at "w a") J ((q2 h).in J.F) fun Q h => J.loc rfl h
theorem w_space (hn : 3 ≤ n) (H : W0 σ w d data p) (q1 : has data p [32] = true → Q .none (σ.set d (wns data ((p + 1 : Nat) : Int)))) (q2 : has data p [32] = false → Fault X σ d p) : WC n .wSpace [.ref w] σ Q X := by
  refine enterR [(nSelf, .ref w)] (by walk_at "w a") rfl rfl rfl fun L hL => ?_
  have J := In.enter (m := mk [(nSelf, .ref w)]) H hL rfl
  generalize σ.set L (.ns true (mk [(nSelf, .ref w)])) = σ₁ at J
  (walk_at "w s0")
  refine e_sm J rfl ?_
  (walk_at "w v"; walk_at "w e"; walk_at "w v"; walk_at "w e"; walk_at "w v")
  refine w_need (by walk_at "w a") J.W (by decide) (fun h => ⟨rfl, ?_⟩) fun h => (q2 h).in J.F
  (walk_at "w n")
  exact (J.move (has_le h H.le)).ret (q1 h)
theorem w_wordOf {f : F} {P : Int → Bool} {what : Str} (hn : 2 ≤ n) (hf : isP f = true) (fit : ∀ c σ (Q : Kt) (X : Xt), 0 ≤ c → c ≤ 255 → Q (.bool (P c)) σ → WC (n - 2) f [.int c] σ Q X) (hP : ∀ c, 0 ≤ c → c ≤ 255 → P c = true → c ≤ 127) (H : W0 σ w d data p)
    (q1 : p < runTo P data p → Q (.str (strOf ((data.take (runTo P data p)).drop p))) (σ.set d (wns data (runTo P data p : Nat)))) (q2 : runTo P data p = p → Fault X σ d p) : WC n .wWordOf [.ref w, .ref f.addr, .str what] σ Q X := by
  refine enterR [(nWhat, .str what), (nFits, .ref f.addr), (nSelf, .ref w)] (by walk_at "w a") rfl rfl rfl fun L hL => ?_
  have J := In.enter (m := mk [(nWhat, .str what), (nFits, .ref f.addr), (nSelf, .ref w)]) H hL rfl
  generalize σ.set L (.ns true (mk [(nWhat, .str what), (nFits, .ref f.addr), (nSelf, .ref w)])) = σ₁ at J
  have hr := runTo_le P H.le
  have hl := H.len
  (walk_at "w s0")
  refine e_sm J rfl ?_
  (walk_at "w v")
  refine J.loc rfl ?_
  (walk_at "w v")
  refine w_run (by walk_at "w a") hf (fun c σ Q X => fit c σ Q X) J.W ⟨(J.move hr.2).bset, ?_⟩
  have K := (J.move hr.2).asg (x := nOctets) (v := .bytes ((data.take (runTo P data p)).drop p)) (by decide)
  generalize setLoc (σ₁.set d (wns data (runTo P data p : Nat))) L nOctets (.bytes ((data.take (runTo P data p)).drop p)) = σ₂ at K
  have hlen := run_len (P := P) (data := data) (p := p)
  have hlen' := run_len_le (P := P) (data := data) (p := p)
  (walk_at "w s"; walk_at "w e")
  refine e_lenL K.F.fr rfl (by walk_at "w a") ?_
  (walk_at "w e")
  refine (.mk (fun h => ?_) (fun h => ?_))
  · have he : runTo P data p = p := by have := of_decide_eq_true h; lia
    have F := q2 he
    (walk_at "w n")
    refine s_raise (what := what) (by walk_at "w a") K ?_ fun Q h => K.loc rfl h
    rw [he]
    exact F.in K.F
  · have he : p < runTo P data p := by have := of_decide_eq_false h; lia
    (walk_at "w n"; walk_at "w s"; walk_at "w e"; walk_at "w e"; walk_at "w v")
    refine K.loc rfl ?_
    (walk_at "w v")
    exact to_f rfl (w_ascii (by walk_at "w a") (by walk_at "w a") (fun c hc => by have hk : c.toNat < 256 := c.toNat_lt; have := hP _ (by walk_at "w a") (by walk_at "w a") (run_all hc); lia) (K.ret (q1 he)))
end
end Mine
-- D5
set_option genSizeOf false
set_option genInjectivity false
namespace Mine
open IE IS N
/-! the reading of strings -/
inductive R (α : Type) where | ok (a : α) (q : Nat) | bad (i : Nat)
noncomputable def okQ (c : UInt8) : Bool := !(c == 0 || decide (127 < c.toNat) || c == 13 || c == 10)
noncomputable def rdQ : List UInt8 → Nat → List UInt8 → R (List UInt8)
  | [], p, acc => .bad p
  | c :: r, p, acc => if c = 34 then .ok acc (p + 1) else if c = 92 then (match r with
      | [] => .bad (p + 1)
      | e :: r' => if e = 34 ∨ e = 92 then rdQ r' (p + 2) (acc ++ [e]) else .bad (p + 1))
    else if okQ c then rdQ r (p + 1) (acc ++ [c]) else .bad p
theorem rdQ_nil {p : Nat} {acc : List UInt8} : rdQ [] p acc = .bad p := by rw [rdQ.eq_def]
theorem rdQ_cons {c : UInt8} {r : List UInt8} {p : Nat} {acc : List UInt8} : rdQ (c :: r) p acc = if c = 34 then .ok acc (p + 1) else if c = 92 then (match r with
      | [] => .bad (p + 1)
      | e :: r' => if e = 34 ∨ e = 92 then rdQ r' (p + 2) (acc ++ [e]) else .bad (p + 1))
    else if okQ c then rdQ r (p + 1) (acc ++ [c]) else .bad p := by rw [rdQ.eq_def]
theorem setLoc_ne {σ : St} {L a : Addr} {x : N} {v : V} (h : a ≠ L) : setLoc σ L x v a = σ a := by
  unfold setLoc
  generalize σ L = o
  rcases o with _ | o
  · rfl
  · cases o <;> first | rfl | exact St.set_ne _ _ h
theorem okQ_true {c : UInt8} (h0 : ¬ c.toNat < 1) (h1 : ¬ 127 < c.toNat) (h2 : c ∉ ([13, 10] : List UInt8)) : okQ c = true := by
  unfold okQ
  have z : c ≠ 0 := fun e => by rw [e] at h0; exact h0 (by decide)
  simp only [List.mem_cons, List.not_mem_nil, or_false, not_or] at h2
  simp [z, h1, h2.1, h2.2]
theorem okQ_false {c : UInt8} (h : c.toNat < 1 ∨ 127 < c.toNat ∨ c ∈ ([13, 10] : List UInt8)) : okQ c = false := by
  unfold okQ
  rcases h with h | h | h
  · have : c = 0 := UInt8.toNat_inj.mp (by show _ = 0; lia)
    rw [this]; rfl
  · simp [h]
  · simp only [List.mem_cons, List.not_mem_nil, or_false] at h
    rcases h with h | h <;> rw [h] <;> rfl
noncomputable def rdL (data : List UInt8) (p : Nat) : R (List UInt8) :=
  let e := runTo isFg data (p + 1)
  if e - (p + 1) = 0 ∨ 10 < e - (p + 1) then .bad e else
  let e1 := if has data e [43] then e + 1 else e
  if has data e1 [125, 13, 10] = false then .bad e1 else
  let z := e1 + 3 + (nof ((data.take e).drop (p + 1))).toNat
  if data.length < z then .bad (e1 + 3) else .ok ((data.take z).drop (e1 + 3)) z
theorem toU {c : UInt8} : (((c.toNat : Nat) : Int).toNat.toUInt8) = c := by simp
theorem notNe {a b : Int} (h : (!decide (a = b)) ≠ true) : a = b := by
  cases q : decide (a = b) with
  | true => exact of_decide_eq_true q
  | false => rw [q] at h; exact absurd rfl h
noncomputable def rdS (data : List UInt8) (p : Nat) : R (List UInt8) :=
  if has data p [123] then rdL data p else if has data p [34] then rdQ (data.drop (p + 1)) (p + 1) [] else .bad p
noncomputable def RB (Q : Kt) (X : Xt) (σ : St) (d : Addr) (data : List UInt8) : R (List UInt8) → Prop
  | .ok b q => Q (.bytes b) (σ.set d (wns data (q : Int)))
  | .bad i => Fault X σ d i
theorem drop_cons {data : List UInt8} {p : Nat} (h : p < data.length) : data.drop p = data.getD p 0 :: data.drop (p + 1) := by
  rw [List.drop_eq_getElem_cons h, List.getD_eq_getElem?_getD, List.getElem?_eq_getElem h]; rfl
theorem has_one {data : List UInt8} {p : Nat} {c : UInt8} : has data p [c] = decide (p < data.length ∧ data.getD p 0 = c) := by
  unfold has
  apply decide_eq_decide.mpr
  show (data.take (p + 1)).drop p = [c] ↔ _
  rw [List.drop_take, Nat.add_sub_cancel_left]
  rcases Nat.lt_or_ge p data.length with h | h
  · rw [drop_cons h, List.take_succ_cons, List.take_zero]
    constructor
    · intro e; exact ⟨h, (List.cons.inj e).1⟩
    · rintro ⟨_, e⟩; rw [e]
  · rw [List.drop_eq_nil_of_le h]
    constructor
    · intro e; cases e
    · intro e; lia
theorem pk_lt {data : List UInt8} {p : Nat} (h : p < data.length) : pk data p = (data.getD p 0).toNat := by unfold pk; rw [if_pos h]
theorem pk_ge {data : List UInt8} {p : Nat} (h : data.length ≤ p) : pk data p = -1 := by unfold pk; rw [if_neg (by walk_at "w a")]
theorem pk_eq {data : List UInt8} {p : Nat} {c : UInt8} : pk data p = c.toNat ↔ has data p [c] = true := by
  rw [has_one, decide_eq_true_eq]
  rcases Nat.lt_or_ge p data.length with h | h
  · rw [pk_lt h]
    constructor
    · intro e; exact ⟨h, UInt8.toNat_inj.mp (by walk_at "w a")⟩
    · rintro ⟨_, e⟩; rw [e]
  · rw [pk_ge h]
    constructor
    · intro e; lia
    · rintro ⟨e, _⟩; lia
theorem nof_nonneg {b : List UInt8} (h : ∀ c ∈ b, isFg c.toNat = true) : 0 ≤ nof b := by
  have key : ∀ (b : List UInt8) (n : Int), 0 ≤ n → (∀ c ∈ b, isFg c.toNat = true) → 0 ≤ b.foldl (fun (n : Int) (c : UInt8) => n * 10 + c.toNat - 48) n := by
    intro b
    induction b with
    | nil => intro n hn _; exact hn
    | cons a r ih =>
      intro n hn h
      refine ih _ ?_ fun c hc => h c (List.mem_cons_of_mem _ hc)
      have := of_decide_eq_true (h a List.mem_cons_self)
      show 0 ≤ n * 10 + (a.toNat : Int) - 48
      lia
  exact key b 0 (Int.le_refl _) h
section
variable {n : Nat} {σ σ₀ : St} {Q : Kt} {X : Xt} {C : Ct} {cl : Option Addr} {L w d : Addr} {m : N → Option V} {data : List UInt8} {p : Nat}
theorem e_peek (hn : 1 ≤ n) (J : In σ₀ σ L w d data p m) (q : Q (.int (pk data p)) σ) : WE (WC n) cl (sm .wPeek []) L σ Q X := by
  refine e_sm J rfl ?_
  (walk_at "w v")
  exact w_peek hn J.W q
theorem w_quoted (hn : 4 ≤ n) (H : W0 σ w d data p) (q : RB Q X σ d data (if has data p [34] then rdQ (data.drop (p + 1)) (p + 1) [] else .bad p)) : WC n .wQuoted [.ref w] σ Q X := by
  refine enterR [(nSelf, .ref w)] (by walk_at "w a") rfl rfl rfl fun L hL => ?_
  have J := In.enter (m := mk [(nSelf, .ref w)]) H hL rfl
  generalize σ.set L (.ns true (mk [(nSelf, .ref w)])) = σ₁ at J
  have hl := H.len
  have hle := H.le
  (walk_at "w s0")
  refine e_sm J rfl ?_
  (walk_at "w v"; walk_at "w e"; walk_at "w v"; walk_at "w e"; walk_at "w v")
  refine w_need (by walk_at "w a") J.W (by decide) (fun h => ⟨rfl, ?_⟩) fun h => ?_
  rotate_left
  · rw [h] at q; exact Fault.in q J.F
  rw [h] at q
  have J := J.move (has_le h hle)
  generalize σ₁.set d (wns data ((p + [34].length : Nat) : Int)) = σ₂ at J
  (walk_at "w s"; walk_at "w e"; walk_at "w e"; walk_at "w v")
  refine fun a ha => (.mk ((J.new ha).bset) ?_)
  have haL : a ≠ L := by first | exact neN ha J.F.fr | exact neS J.F.fr ha | exact fun z => by subst z; rw [J.F.fr] at ha; cases ha
  have had : a ≠ d := by first | exact neN ha J.W.d | exact neS J.W.d ha | exact fun z => by subst z; rw [J.W.d] at ha; cases ha
  have haw : a ≠ w := by first | exact neN ha J.W.w | exact neS J.W.w ha | exact fun z => by subst z; rw [J.W.w] at ha; cases ha
  have ha0 : σ a = none := by
    cases e : σ a with
    | none => rfl
    | some o => have := J.F.keep a o had e; rw [ha] at this; cases this
  have J := (J.new (o := .barr []) ha).asg (x := nFound) (v := .ref a) (by decide)
  have hb : (setLoc (σ₂.set a (.barr [])) L nFound (.ref a)) a = some (.barr []) := by
    rw [setLoc_ne haL, St.set_same]
  generalize hm : upd (mk [(nSelf, V.ref w)]) nFound (.ref a) = m at J
  generalize setLoc (σ₂.set a (.barr [])) L nFound (.ref a) = σ₃ at J hb
  have m1 : m nFound = some (.ref a) := by subst hm; rfl
  generalize hr : rdQ (data.drop (p + 1)) (p + 1) [] = r at q
  (walk_at "w s")
  refine ⟨fun k τ => ∃ p' acc, In σ τ L w d data p' m ∧ τ a = some (.barr acc) ∧ rdQ (data.drop p') p' acc = r ∧ acc.length ≤ p' ∧ k = data.length + 1 - p', ⟨_, p + 1, [], J, hb, hr, Nat.zero_le _, rfl⟩, fun k τ hI => ?_⟩
  clear hr hb
  obtain ⟨p', acc, J, hb, hr, hac, hk⟩ := hI
  have hle := J.W.le
  (walk_at "w e")
  refine e_peek (by walk_at "w a") J ?_
  (walk_at "w e")
  refine (.mk (fun h => ?_) (fun h => ?_))
  rotate_left
  · -- the closing quote
    have e : has data p' [34] = true := pk_eq.mp (by simpa using h)
    have e' := e
    rw [has_one, decide_eq_true_eq] at e'
    rw [drop_cons e'.1, rdQ_cons, if_pos e'.2] at hr
    (walk_at "w n")
    refine s_at1 J ?_
    have J := J.move (has_le e hle)
    have hb' : (τ.set d (wns data ((p' + 1 : Nat) : Int))) a = some (.barr acc) := by first | exact (St.set_ne _ _ had).trans hb | (rw [St.set_ne _ _ had]; exact hb)
    (walk_at "w s"; walk_at "w e"; walk_at "w e"; walk_at "w v")
    refine J.loc m1 ?_
    (walk_at "w v")
    refine .inr ⟨acc, hb', by lia, J.ret ?_⟩
    rw [← hr] at q; exact q
  -- the turn, from the offset p'' of the octet that is kept
  have tail : ∀ (p'' : Nat) (τ' : St) (Qt : Ft), p' ≤ p'' → p'' ≤ data.length → In σ τ' L w d data p'' m → τ' a = some (.barr acc) → (p'' < data.length → okQ (data.getD p'' 0) = true → rdQ (data.drop (p'' + 1)) (p'' + 1) (acc ++ [data.getD p'' 0]) = r) →
      (p'' < data.length → okQ (data.getD p'' 0) = false → r = .bad p'') → (p'' = data.length → r = .bad p'') → (∀ ρ j, j < k → (∃ p' acc, In σ ρ L w d data p' m ∧ ρ a = some (.barr acc) ∧ rdQ (data.drop p') p' acc = r ∧ acc.length ≤ p' ∧ j = data.length + 1 - p') → Qt .next ρ) →
      WS (WC (n - 1)) none [.iff (.bop false [.cmp .Lt (sm .wPeek []) (.ki 1), .cmp .Gt (sm .wPeek []) (.ki 127), .cmp .In (sm .wPeek []) CRLF]) [raiseF "no octet of a quoted string"] [],
        .expr (.bmeth (Mine.L nFound) (S "append") [sm .wPeek []]), setAt (plus1 atE)] L τ' Qt (fun e τ => ∃ ρ, ρ.le (τ.del L) ∧ X e ρ) := by
    intro p'' τ' Qt h1 h2 J hb g1 g2 g3 nx
    have bad : r = .bad p'' → WS (WC (n - 1)) none [raiseF "no octet of a quoted string"] L τ' (fun fl σ => match fl with
        | .next => WS (WC (n - 1)) none [.expr (.bmeth (Mine.L nFound) (S "append") [sm .wPeek []]), setAt (plus1 atE)] L σ Qt (fun e τ => ∃ ρ, ρ.le (τ.del L) ∧ X e ρ)
        | .ret v => Qt (.ret v) σ) (fun e τ => ∃ ρ, ρ.le (τ.del L) ∧ X e ρ) := fun e => by
      rw [e] at q
      (walk_at "w n")
      exact s_raiseF (by walk_at "w a") J (Fault.in q J.F)
    have good : p'' < data.length → okQ (data.getD p'' 0) = true → WS (WC (n - 1)) none [.expr (.bmeth (Mine.L nFound) (S "append") [sm .wPeek []]), setAt (plus1 atE)] L τ' Qt (fun e τ => ∃ ρ, ρ.le (τ.del L) ∧ X e ρ) := fun hlt hok => by
      (walk_at "w s"; walk_at "w e")
      refine J.loc m1 ⟨"bytearray.append", by unfold methId; dsimp only; rw [if_pos rfl, hb], ?_⟩
      (walk_at "w v")
      refine e_peek (by walk_at "w a") J ?_
      (walk_at "w v")
      rw [pk_lt hlt]
      have hc : (data.getD p'' 0).toNat < 256 := (data.getD p'' 0).toNat_lt
      refine ⟨acc, hb, by lia, by lia, by lia, rfl, ?_⟩
      have J := J.put (o := .barr (acc ++ [(data.getD p'' 0)])) ha0 haw had haL
      have e : (((data.getD p'' 0).toNat : Nat) : Int).toNat.toUInt8 = data.getD p'' 0 := by simp
      rw [e]
      (walk_at "w n")
      refine s_at1 J ?_
      (walk_at "w n")
      refine nx _ (data.length + 1 - (p'' + 1)) (by walk_at "w a") ⟨p'' + 1, acc ++ [data.getD p'' 0], J.move hlt, ?_, g1 hlt hok, by rw [List.length_append]; show acc.length + 1 ≤ _; lia, rfl⟩
      rw [St.set_ne _ _ had, St.set_same]
    rcases Nat.lt_or_ge p'' data.length with hlt | hge
    · have hpk := pk_lt hlt
      have hc : (data.getD p'' 0).toNat < 256 := (data.getD p'' 0).toNat_lt
      (walk_at "w s"; walk_at "w e"; walk_at "w b"; walk_at "w e")
      refine e_peek (by walk_at "w a") J ?_
      rw [hpk]
      (walk_at "w e")
      refine (.mk (fun h => ?_) (fun h => ?_))
      · have z : ¬ (data.getD p'' 0).toNat < 1 := by have := of_decide_eq_false h; lia
        (walk_at "w b"; walk_at "w e")
        refine e_peek (by walk_at "w a") J ?_
        rw [hpk]
        (walk_at "w e")
        refine (.mk (fun h => ?_) (fun h => ?_))
        · have z2 : ¬ 127 < (data.getD p'' 0).toNat := by have := of_decide_eq_false h; lia
          (walk_at "w b"; walk_at "w e")
          refine e_peek (by walk_at "w a") J ?_
          rw [hpk]
          (walk_at "w e")
          refine ⟨⟨by lia, by lia, by decide⟩, _, rfl, fun h => ?_, fun h => ?_⟩
          · (walk_at "w b")
            refine (.mk (fun h => (by cases h)) (fun _ => ?_))
            (walk_at "w n")
            refine good hlt ?_
            exact okQ_true z z2 (by have := of_decide_eq_false h; rw [toU] at this; exact this)
          · refine (.mk (fun _ => bad ?_) (fun e => by rw [e] at h; exact absurd rfl h))
            refine g2 hlt ?_
            exact okQ_false (.inr (.inr (by
              have h' := Bool.of_not_eq_false h
              have := of_decide_eq_true h'; rw [toU] at this; exact this)))
        · refine (.mk (fun _ => bad ?_) (fun e => by rw [e] at h; exact absurd rfl h))
          exact g2 hlt (okQ_false (.inr (.inl (by
            have h' := of_decide_eq_true (Bool.of_not_eq_false h); lia))))
      · refine (.mk (fun _ => bad ?_) (fun e => by rw [e] at h; exact absurd rfl h))
        exact g2 hlt (okQ_false (.inl (by
          have h' := of_decide_eq_true (Bool.of_not_eq_false h); lia)))
    · have hpk := pk_ge hge
      (walk_at "w s"; walk_at "w e"; walk_at "w b"; walk_at "w e")
      refine e_peek (by walk_at "w a") J ?_
      rw [hpk]
      (walk_at "w e")
      refine (.mk (fun h => absurd h (by decide)) (fun _ => (.mk (fun _ => bad (g3 (by walk_at "w a"))) (fun h => absurd h (by decide)))))
  have hne : ¬ has data p' [34] = true := fun e => by have := pk_eq.mpr e; rw [this] at h; exact absurd h (by decide)
  rw [has_one, decide_eq_true_eq] at hne
  (walk_at "w s"; walk_at "w e")
  refine e_peek (by walk_at "w a") J ?_
  (walk_at "w e")
  refine (.mk (fun h => ?_) (fun h => ?_))
  · have e : has data p' [92] = true := pk_eq.mp (by simpa using h)
    have e' := e
    rw [has_one, decide_eq_true_eq] at e'
    have hne' : ¬ data.getD p' 0 = 34 := fun z => hne ⟨e'.1, z⟩
    rw [drop_cons e'.1, rdQ_cons, if_neg hne', if_pos e'.2] at hr
    (walk_at "w n")
    refine s_at1 J ?_
    have J : In σ (τ.set d (wns data ((p' + 1 : Nat) : Int))) L w d data (p' + 1) m := J.move (has_le e hle)
    have hb' : (τ.set d (wns data ((p' + 1 : Nat) : Int))) a = some (.barr acc) := by first | exact (St.set_ne _ _ had).trans hb | (rw [St.set_ne _ _ had]; exact hb)
    generalize τ.set d (wns data ((p' + 1 : Nat) : Int)) = τ' at J hb'
    have bad : r = .bad (p' + 1) → ∀ Qt, WS (WC (n - 1)) none [raiseF "a backslash ahead of another sign"] L τ' Qt (fun e τ => ∃ ρ, ρ.le (τ.del L) ∧ X e ρ) := fun e Qt => by
      rw [e] at q
      (walk_at "w n")
      exact s_raiseF (by walk_at "w a") J (Fault.in q J.F)
    rcases Nat.lt_or_ge (p' + 1) data.length with hlt | hge
    · have hpk := pk_lt hlt
      rw [drop_cons hlt] at hr
      dsimp only at hr
      have go : (data.getD (p' + 1) 0 = 34 ∨ data.getD (p' + 1) 0 = 92) → ∀ Qt : Ft, (∀ ρ j, j < k → (∃ p' acc, In σ ρ L w d data p' m ∧ ρ a = some (.barr acc) ∧ rdQ (data.drop p') p' acc = r ∧ acc.length ≤ p' ∧ j = data.length + 1 - p') → Qt .next ρ) → WS (WC (n - 1)) none
          [.iff (.bop false [.cmp .Lt (sm .wPeek []) (.ki 1), .cmp .Gt (sm .wPeek []) (.ki 127), .cmp .In (sm .wPeek []) CRLF]) [raiseF "no octet of a quoted string"] [],
            .expr (.bmeth (Mine.L nFound) (S "append") [sm .wPeek []]), setAt (plus1 atE)] L τ' Qt (fun e τ => ∃ ρ, ρ.le (τ.del L) ∧ X e ρ) := fun hc Qt nx => by
        rw [if_pos hc] at hr
        refine tail (p' + 1) τ' Qt (by walk_at "w a") (by walk_at "w a") J hb' (fun h1 h2 => hr) (fun h1 h2 => ?_) (fun h1 => by lia) nx
        rcases hc with e | e <;> rw [e] at h2 <;> cases h2
      (walk_at "w s"; walk_at "w e"; walk_at "w b"; walk_at "w e")
      refine e_peek (by walk_at "w a") J ?_
      rw [hpk]
      (walk_at "w e")
      refine (.mk (fun h => ?_) (fun h => ?_))
      · have z1 : data.getD (p' + 1) 0 ≠ 34 := fun e => by rw [e] at h; exact absurd h (by decide)
        (walk_at "w b"; walk_at "w e")
        refine e_peek (by walk_at "w a") J ?_
        rw [hpk]
        (walk_at "w e")
        refine (.mk (fun h => ?_) (fun h => ?_))
        · have z2 : data.getD (p' + 1) 0 ≠ 92 := fun e => by rw [e] at h; exact absurd h (by decide)
          (walk_at "w b")
          rw [if_neg (fun e => e.elim z1 z2)] at hr
          exact (.mk (fun _ => bad hr.symm _) (fun h => by cases h))
        · have z2 : data.getD (p' + 1) 0 = 92 := by
            have : ((data.getD (p' + 1) 0).toNat : Int) = 92 := notNe h
            exact UInt8.toNat_inj.mp (by show _ = 92; lia)
          exact (.mk (fun e => absurd e h) (fun _ => go (.inr z2) _ fun ρ j hj hI => ⟨j, ρ, hj, St.le_refl _, hI⟩))
      · have z1 : data.getD (p' + 1) 0 = 34 := by
          have : ((data.getD (p' + 1) 0).toNat : Int) = 34 := notNe h
          exact UInt8.toNat_inj.mp (by show _ = 34; lia)
        exact (.mk (fun e => absurd e h) (fun _ => go (.inl z1) _ fun ρ j hj hI => ⟨j, ρ, hj, St.le_refl _, hI⟩))
    · have hpk := pk_ge hge
      rw [List.drop_eq_nil_of_le hge] at hr
      dsimp only at hr
      (walk_at "w s"; walk_at "w e"; walk_at "w b"; walk_at "w e")
      refine e_peek (by walk_at "w a") J ?_
      rw [hpk]
      (walk_at "w e")
      refine (.mk (fun _ => ?_) (fun h => absurd rfl h))
      (walk_at "w b"; walk_at "w e")
      refine e_peek (by walk_at "w a") J ?_
      rw [hpk]
      (walk_at "w e")
      refine (.mk (fun _ => ?_) (fun h => absurd rfl h))
      (walk_at "w b")
      exact (.mk (fun _ => bad hr.symm _) (fun h => by cases h))
  · have hne2 : ¬ has data p' [92] = true := fun e => by have := pk_eq.mpr e; rw [this] at h; exact absurd h (by decide)
    rw [has_one, decide_eq_true_eq] at hne2
    (walk_at "w n")
    refine tail p' τ _ (Nat.le_refl _) hle J hb (fun h1 h2 => ?_) (fun h1 h2 => ?_) (fun h1 => ?_) fun ρ j hj hI => ⟨j, ρ, hj, St.le_refl _, hI⟩
    · rw [drop_cons h1, rdQ_cons, if_neg (fun z => hne ⟨h1, z⟩), if_neg (fun z => hne2 ⟨h1, z⟩), if_pos h2] at hr; exact hr
    · rw [drop_cons h1, rdQ_cons, if_neg (fun z => hne ⟨h1, z⟩), if_neg (fun z => hne2 ⟨h1, z⟩), if_neg (by rw [h2]; decide)] at hr; exact hr.symm
    · rw [List.drop_eq_nil_of_le (by walk_at "w a"), rdQ_nil] at hr; exact hr.symm
end
end Mine
-- D6
namespace Mine
open IE IS N
section
variable {n : Nat} {σ σ₀ : St} {Q : Kt} {X : Xt} {C : Ct} {cl : Option Addr} {L w d : Addr} {m : N → Option V} {data : List UInt8} {p : Nat}
theorem fit_fig {k : Nat} (hk : 1 ≤ k) : ∀ c σ (Q : Kt) (X : Xt), 0 ≤ c → c ≤ 255 → Q (.bool (isFg c)) σ → WC k .isFigure [.int c] σ Q X := fun c σ Q X _ _ q => w_isFigure hk q
theorem fit_atom {k : Nat} (hk : 2 ≤ k) : ∀ c σ (Q : Kt) (X : Xt), 0 ≤ c → c ≤ 255 → Q (.bool (isAt c)) σ → WC k .isAtomCode [.int c] σ Q X := fun c σ Q X h0 h1 q => w_isAtomCode hk h0 h1 q
theorem fit_val {k : Nat} (hk : 2 ≤ k) : ∀ c σ (Q : Kt) (X : Xt), 0 ≤ c → c ≤ 255 → Q (.bool (isVa c)) σ → WC k .isValueCode [.int c] σ Q X := fun c σ Q X h0 h1 q => w_isValueCode hk h0 h1 q
theorem fit_ast {k : Nat} (hk : 3 ≤ k) : ∀ c σ (Q : Kt) (X : Xt), 0 ≤ c → c ≤ 255 → Q (.bool (isAs c)) σ → WC k .isAstringCode [.int c] σ Q X := fun c σ Q X h0 h1 q => w_isAstringCode hk h0 h1 q
theorem fit_set {k : Nat} (hk : 1 ≤ k) : ∀ c σ (Q : Kt) (X : Xt), 0 ≤ c → c ≤ 255 → Q (.bool (isSe c)) σ → WC k .isSetCode [.int c] σ Q X := fun c σ Q X h0 h1 q => w_isSetCode hk h0 h1 q
theorem isPr_le {c : Int} (h : isPr c = true) : 33 ≤ c ∧ c ≤ 126 := of_decide_eq_true h
theorem isAt_le {c : Int} (h : isAt c = true) : c ≤ 127 := by have := isPr_le (Bool.and_eq_true_iff.mp h).1; lia
theorem isVa_le {c : Int} (h : isVa c = true) : c ≤ 127 := by have := isPr_le (Bool.and_eq_true_iff.mp h).1; lia
theorem isFg_le {c : Int} (h : isFg c = true) : 48 ≤ c ∧ c ≤ 57 := of_decide_eq_true h
theorem isSe_le {c : Int} (h0 : 0 ≤ c) (h1 : c ≤ 255) (h : isSe c = true) : c ≤ 127 := by
  rcases Bool.or_eq_true_iff.mp h with h | h
  · have := isFg_le h; lia
  · have h := of_decide_eq_true h
    simp only [List.mem_cons, List.not_mem_nil, or_false] at h
    have key : ∀ k : UInt8, c.toNat.toUInt8 = k → c = k.toNat := fun k e => by
      have : c.toNat.toUInt8.toNat = k.toNat := by rw [e]
      have h2 : c.toNat.toUInt8.toNat = c.toNat % 256 := by simp
      lia
    rcases h with h | h | h <;> (have := key _ h; rw [this]; decide)
theorem strOf_app (a b : List UInt8) : strOf a ++ strOf b = strOf (a ++ b) := by
  show Str.mk ((strOf a).cps ++ (strOf b).cps) = _
  unfold strOf
  simp
/-- a call of word_of -/
theorem w_atom (hn : 5 ≤ n) (H : W0 σ w d data p)
    (q1 : p < runTo isAt data p → Q (.str (strOf ((data.take (runTo isAt data p)).drop p))) (σ.set d (wns data (runTo isAt data p : Nat)))) (q2 : runTo isAt data p = p → Fault X σ d p) : WC n .wAtom [.ref w] σ Q X := by
  refine enterR [(nSelf, .ref w)] (by walk_at "w a") rfl rfl rfl fun L hL => ?_
  have J := In.enter (m := mk [(nSelf, .ref w)]) H hL rfl
  generalize σ.set L (.ns true (mk [(nSelf, .ref w)])) = σ₁ at J
  (walk_at "w s0")
  refine e_sm J rfl ?_
  (walk_at "w v"; walk_at "w e"; walk_at "w v"; walk_at "w e"; walk_at "w v")
  exact w_wordOf (f := .isAtomCode) (by walk_at "w a") rfl (fit_atom (by walk_at "w a")) (fun c _ _ h => isAt_le h) J.W (fun h => (J.move (runTo_le isAt H.le).2).ret (q1 h)) fun h => (q2 h).in J.F
theorem w_setText (hn : 4 ≤ n) (H : W0 σ w d data p)
    (q1 : p < runTo isSe data p → Q (.str (strOf ((data.take (runTo isSe data p)).drop p))) (σ.set d (wns data (runTo isSe data p : Nat)))) (q2 : runTo isSe data p = p → Fault X σ d p) : WC n .wSetText [.ref w] σ Q X := by
  refine enterR [(nSelf, .ref w)] (by walk_at "w a") rfl rfl rfl fun L hL => ?_
  have J := In.enter (m := mk [(nSelf, .ref w)]) H hL rfl
  generalize σ.set L (.ns true (mk [(nSelf, .ref w)])) = σ₁ at J
  (walk_at "w s0")
  refine e_sm J rfl ?_
  (walk_at "w v"; walk_at "w e"; walk_at "w v"; walk_at "w e"; walk_at "w v")
  exact w_wordOf (f := .isSetCode) (by walk_at "w a") rfl (fit_set (by walk_at "w a")) (fun c h0 h1 h => isSe_le h0 h1 h) J.W (fun h => (J.move (runTo_le isSe H.le).2).ret (q1 h)) fun h => (q2 h).in J.F
theorem w_flag (hn : 6 ≤ n) (H : W0 σ w d data p)
    (q : let b := if has data p [92] then p + 1 else p
      if b < runTo isAt data b then Q (.str (strOf ((data.take (runTo isAt data b)).drop p))) (σ.set d (wns data (runTo isAt data b : Nat))) else Fault X σ d b) : WC n .wFlag [.ref w] σ Q X := by
  refine enterR [(nSelf, .ref w)] (by walk_at "w a") rfl rfl rfl fun L hL => ?_
  have J := In.enter (m := mk [(nSelf, .ref w)]) H hL rfl
  generalize σ.set L (.ns true (mk [(nSelf, .ref w)])) = σ₁ at J
  have hl := H.len
  have hle := H.le
  -- from the offset b on
  have tail : ∀ (b : Nat) (τ : St) (pre : List UInt8) (Qt : Ft), In σ τ L w d data b (upd (mk [(nSelf, .ref w)]) nAhead (.str (strOf pre))) → pre.length ≤ 1 → (∀ v ρ, Q v (σ.set d (wns data (runTo isAt data b : Nat))) → (∃ ρ', ρ'.le (ρ.del L) ∧ Q v ρ') → Qt (.ret v) ρ) →
      (if b < runTo isAt data b then Q (.str (strOf (pre ++ (data.take (runTo isAt data b)).drop b))) (σ.set d (wns data (runTo isAt data b : Nat))) else Fault X σ d b) →
      WS (WC (n - 1)) none [.ret (add (Mine.L nAhead) (sm .wAtom []))] L τ Qt (fun e τ => ∃ ρ, ρ.le (τ.del L) ∧ X e ρ) := by
    intro b τ pre Qt J hp nx q
    (walk_at "w s"; walk_at "w e")
    refine J.loc rfl (e_sm J rfl ?_)
    (walk_at "w v")
    have hr := runTo_le isAt J.W.le
    refine w_atom (by walk_at "w a") J.W (fun h => ?_) fun h => ?_
    · rw [if_pos h] at q
      rw [b_addS]
      refine ⟨?_, nx _ _ ?_ ((J.move hr.2).ret ?_)⟩
      · have h1 : ∀ l : List UInt8, (strOf l).length = l.length := fun l => by simp [strOf, Str.length]
        rw [h1, h1]
        have := run_len_le (P := isAt) (data := data) (p := b)
        lia
      · have e : strOf pre ++ strOf ((data.take (runTo isAt data b)).drop b) = strOf (pre ++ (data.take (runTo isAt data b)).drop b) := strOf_app _ _
        rw [e]; exact q
      · have e : strOf pre ++ strOf ((data.take (runTo isAt data b)).drop b) = strOf (pre ++ (data.take (runTo isAt data b)).drop b) := strOf_app _ _
        rw [e]; exact q
    · rw [if_neg (by walk_at "w a")] at q
      exact Fault.in q J.F
  (walk_at "w s0"; walk_at "w e")
  refine e_sm J rfl ?_
  (walk_at "w v"; walk_at "w e"; walk_at "w v")
  refine w_skip (by walk_at "w a") J.W (by decide) (fun h => (.mk (fun _ => ?_) (fun z => by cases z))) fun h => (.mk (fun z => by cases z) (fun _ => ?_))
  · have J : In σ (σ₁.set d (wns data ((p + 1 : Nat) : Int))) L w d data (p + 1) _ := J.move (has_le h hle)
    (walk_at "w e")
    refine ⟨J.bset, tail (p + 1) _ [92] _ (J.asg (by decide)) (by decide) (fun v ρ _ h => h) ?_⟩
    rw [h] at q
    rw [show (if (true = true) then p + 1 else p) = p + 1 from rfl] at q
    have hh := h
    rw [has_one, decide_eq_true_eq] at hh
    by_cases hb : p + 1 < runTo isAt data (p + 1)
    · rw [if_pos hb] at q ⊢
      have hr := runTo_le isAt (show p + 1 ≤ data.length by lia)
      have e : [92] ++ (data.take (runTo isAt data (p + 1))).drop (p + 1) = (data.take (runTo isAt data (p + 1))).drop p := by
        rw [drop_cons (data := data.take (runTo isAt data (p + 1))) (p := p) (by rw [List.length_take]; lia)]
        have : (data.take (runTo isAt data (p + 1))).getD p 0 = 92 := by
          rw [List.getD_eq_getElem?_getD, List.getElem?_take_of_lt (by walk_at "w a"), ← List.getD_eq_getElem?_getD]; exact hh.2
        rw [this]; rfl
      rw [e]; exact q
    · rw [if_neg hb] at q ⊢; exact q
  · (walk_at "w e")
    refine ⟨J.bset, tail p _ [] _ (J.asg (by decide)) (by decide) (fun v ρ _ h => h) ?_⟩
    rw [h] at q
    exact q
theorem w_number (hn : 3 ≤ n) (H : W0 σ w d data p)
    (q : let e := runTo isFg data p
      if 1 ≤ e - p ∧ e - p ≤ 19 then Q (.int (nof ((data.take e).drop p))) (σ.set d (wns data (e : Nat))) else Fault X σ d p) : WC n .wNumber [.ref w] σ Q X := by
  refine enterR [(nSelf, .ref w)] (by walk_at "w a") rfl rfl rfl fun L hL => ?_
  have J := In.enter (m := mk [(nSelf, .ref w)]) H hL rfl
  generalize σ.set L (.ns true (mk [(nSelf, .ref w)])) = σ₁ at J
  have hl := H.len
  have hle := H.le
  have hr := runTo_le isFg H.le
  (walk_at "w s0")
  refine e_at J ⟨J.bset, ?_⟩
  have J := J.asg (x := nFirst) (v := .int p) (by decide)
  generalize setLoc σ₁ L nFirst (.int p) = σ₂ at J
  (walk_at "w s")
  refine e_sm J rfl ?_
  (walk_at "w v"; walk_at "w e"; walk_at "w v")
  refine w_run (by walk_at "w a") rfl (fit_fig (by walk_at "w a")) J.W (.mk ((J.move hr.2).bset) ?_)
  have J := (J.move hr.2).asg (x := nOctets) (v := .bytes ((data.take (runTo isFg data p)).drop p)) (by decide)
  generalize setLoc (σ₂.set d (wns data (runTo isFg data p : Nat))) L nOctets (.bytes ((data.take (runTo isFg data p)).drop p)) = σ₃ at J
  have hlen := run_len (P := isFg) (data := data) (p := p)
  have hlen' := run_len_le (P := isFg) (data := data) (p := p)
  have bad : ¬ (1 ≤ runTo isFg data p - p ∧ runTo isFg data p - p ≤ 19) → ∀ Qt, WS (WC (n - 1)) none [raiseW "no number"] L σ₃ Qt (fun e τ => ∃ ρ, ρ.le (τ.del L) ∧ X e ρ) := fun h Qt => by
    have F : Fault X σ d p := by have := q; dsimp only at this; rw [if_neg h] at this; exact this
    (walk_at "w n")
    exact s_raiseW (i := p) J.F.fr rfl (F.in J.F)
  (walk_at "w s"; walk_at "w e"; walk_at "w b"; walk_at "w e")
  refine e_lenL J.F.fr rfl (by walk_at "w a") ?_
  (walk_at "w e")
  refine (.mk (fun h => ?_) (fun h => ?_))
  · have h1 : 1 ≤ runTo isFg data p - p := by have := of_decide_eq_false h; lia
    (walk_at "w b"; walk_at "w e")
    refine e_lenL J.F.fr rfl (by walk_at "w a") ?_
    (walk_at "w e")
    refine (.mk (fun h => ?_) (fun h => ?_))
    · have h2 : runTo isFg data p - p ≤ 19 := by have := of_decide_eq_false h; lia
      (walk_at "w b")
      refine (.mk (fun h => (by cases h)) (fun _ => ?_))
      (walk_at "w n"; walk_at "w s"; walk_at "w e"; walk_at "w e"; walk_at "w v")
      refine J.loc rfl ?_
      (walk_at "w v")
      refine to_f rfl (w_nof (by walk_at "w a") (by walk_at "w a") (J.ret ?_))
      have := q; dsimp only at this; rw [if_pos ⟨h1, h2⟩] at this; exact this
    · have h2 : ¬ runTo isFg data p - p ≤ 19 := by have := of_decide_eq_true (Bool.of_not_eq_false h); lia
      exact (.mk (fun _ => bad (fun h => h2 h.2) _) (fun e => by rw [e] at h; exact absurd rfl h))
  · have h2 : ¬ 1 ≤ runTo isFg data p - p := by have := of_decide_eq_true (Bool.of_not_eq_false h); lia
    exact (.mk (fun _ => bad (fun h => h2 h.1) _) (fun e => by rw [e] at h; exact absurd rfl h))
end
end Mine
-- D7
namespace Mine
open IE IS N
theorem rdQ_le : ∀ (l : List UInt8) (p : Nat) (acc b : List UInt8) (k : Nat), rdQ l p acc = .ok b k → k ≤ p + l.length ∧ p < k
  | [], p, acc, b, k, h => by rw [rdQ_nil] at h; cases h
  | [c], p, acc, b, k, h => by
    rw [rdQ_cons] at h
    split at h
    · cases h; exact ⟨by simp, by lia⟩
    · split at h
      · cases h
      · split at h
        · have := rdQ_le [] _ _ _ _ h; simp at this ⊢; lia
        · cases h
  | c :: e :: r, p, acc, b, k, h => by
    rw [rdQ_cons] at h
    split at h
    · cases h; exact ⟨by simp, by lia⟩
    · split at h
      · dsimp only at h
        split at h
        · have := rdQ_le r _ _ _ _ h; simp only [List.length_cons] at this ⊢; lia
        · cases h
      · split at h
        · have := rdQ_le (e :: r) _ _ _ _ h; simp only [List.length_cons] at this ⊢; lia
        · cases h
theorem rdL_le {data : List UInt8} {p : Nat} {b : List UInt8} {k : Nat} (h : rdL data p = .ok b k) : k ≤ data.length ∧ p < k := by
  unfold rdL at h
  dsimp only at h
  have h0 : p + 1 ≤ runTo isFg data (p + 1) := by unfold runTo; lia
  generalize runTo isFg data (p + 1) = e at h h0
  have h1 : e ≤ if has data e [43] = true then e + 1 else e := by split <;> lia
  generalize (if has data e [43] = true then e + 1 else e) = e1 at h h1
  split at h
  · cases h
  · split at h
    · cases h
    · split at h
      · cases h
      · cases h; lia
theorem rdS'_le {data : List UInt8} {p : Nat} {b : List UInt8} {k : Nat} (h : (if has data p [34] then rdQ (data.drop (p + 1)) (p + 1) [] else .bad p) = .ok b k) : k ≤ data.length ∧ p < k := by
  split at h
  · rename_i z
    have z' := z
    rw [has_one, decide_eq_true_eq] at z'
    have := rdQ_le _ _ _ _ _ h
    rw [List.length_drop] at this
    lia
  · cases h
theorem rdS_le {data : List UInt8} {p : Nat} {b : List UInt8} {k : Nat} (h : rdS data p = .ok b k) : k ≤ data.length ∧ p < k := by
  unfold rdS at h
  split at h
  · exact rdL_le h
  · exact rdS'_le h
section
variable {n : Nat} {σ σ₀ : St} {Q : Kt} {X : Xt} {C : Ct} {cl : Option Addr} {L w d : Addr} {m : N → Option V} {data : List UInt8} {p : Nat}
theorem w_literal (hn : 4 ≤ n) (H : W0 σ w d data p) (q : RB Q X σ d data (if has data p [123] then rdL data p else .bad p)) : WC n .wLiteral [.ref w] σ Q X := by
  refine enterR [(nSelf, .ref w)] (by walk_at "w a") rfl rfl rfl fun L hL => ?_
  have J := In.enter (m := mk [(nSelf, .ref w)]) H hL rfl
  generalize σ.set L (.ns true (mk [(nSelf, .ref w)])) = σ₁ at J
  have hl := H.len
  have hle := H.le
  (walk_at "w s0")
  refine e_sm J rfl ?_
  (walk_at "w v"; walk_at "w e"; walk_at "w v"; walk_at "w e"; walk_at "w v")
  refine w_need (by walk_at "w a") J.W (by decide) (fun h => ⟨rfl, ?_⟩) fun h => ?_
  rotate_left
  · rw [h] at q; exact Fault.in q J.F
  have h1 : p + 1 ≤ data.length := has_le h hle
  rw [h] at q
  have J : In σ (σ₁.set d (wns data ((p + 1 : Nat) : Int))) L w d data (p + 1) _ := J.move h1
  have q : RB Q X σ d data (rdL data p) := q
  unfold rdL at q
  dsimp only at q
  have hr := runTo_le isFg h1
  have hlen := run_len (P := isFg) (data := data) (p := p + 1)
  have hlen' := run_len_le (P := isFg) (data := data) (p := p + 1)
  have hdig : ∀ c ∈ (data.take (runTo isFg data (p + 1))).drop (p + 1), isFg c.toNat = true := fun c hc => run_all hc
  generalize hD : (data.take (runTo isFg data (p + 1))).drop (p + 1) = D at q hlen hlen' hdig
  generalize he : runTo isFg data (p + 1) = e at q hlen hr hD
  (walk_at "w s")
  refine e_sm J rfl ?_
  (walk_at "w v"; walk_at "w e"; walk_at "w v")
  refine w_run (by walk_at "w a") rfl (fit_fig (by walk_at "w a")) J.W ?_
  rw [he, hD]
  refine (.mk ((J.move hr.2).bset) ?_)
  have J := (J.move hr.2).asg (x := nOctets) (v := .bytes D) (by decide)
  generalize setLoc ((σ₁.set d (wns data ((p + 1 : Nat) : Int))).set d (wns data (e : Nat))) L nOctets (.bytes D) = σ₃ at J
  generalize hm : upd (mk [(nSelf, V.ref w)]) nOctets (.bytes D) = m at J
  have m1 : m nOctets = some (.bytes D) := by subst hm; rfl
  have bad : e - (p + 1) = 0 ∨ 10 < e - (p + 1) → ∀ Qt, WS (WC (n - 1)) none [raiseF "no count of a literal"] L σ₃ Qt (fun e τ => ∃ ρ, ρ.le (τ.del L) ∧ X e ρ) := fun h Qt => by
    rw [if_pos h] at q
    (walk_at "w n")
    exact s_raiseF (by walk_at "w a") J (Fault.in q J.F)
  (walk_at "w s"; walk_at "w e"; walk_at "w b"; walk_at "w e")
  refine e_lenL J.F.fr m1 (by walk_at "w a") ?_
  (walk_at "w e")
  refine (.mk (fun h => ?_) (fun h => ?_))
  rotate_left
  · have h2 : e - (p + 1) = 0 := by have := of_decide_eq_true (Bool.of_not_eq_false h); lia
    exact (.mk (fun _ => bad (.inl h2) _) (fun e => by rw [e] at h; exact absurd rfl h))
  have z1 : ¬ e - (p + 1) = 0 := by have := of_decide_eq_false h; lia
  (walk_at "w b"; walk_at "w e")
  refine e_lenL J.F.fr m1 (by walk_at "w a") ?_
  (walk_at "w e")
  refine (.mk (fun h => ?_) (fun h => ?_))
  rotate_left
  · have h2 : 10 < e - (p + 1) := by have := of_decide_eq_true (Bool.of_not_eq_false h); lia
    exact (.mk (fun _ => bad (.inr h2) _) (fun e => by rw [e] at h; exact absurd rfl h))
  have z2 : ¬ 10 < e - (p + 1) := by have := of_decide_eq_false h; lia
  rw [if_neg (fun h => h.elim z1 z2)] at q
  (walk_at "w b")
  refine (.mk (fun h => (by cases h)) (fun _ => ?_))
  (walk_at "w n")
  -- behind the plus
  have tail : ∀ (e1 : Nat) (τ : St) (Qt : Ft), In σ τ L w d data e1 m → (∀ v ρ, (∃ ρ', ρ'.le (ρ.del L) ∧ Q v ρ') → Qt (.ret v) ρ) →
      RB Q X σ d data (if has data e1 [125, 13, 10] = false then .bad e1 else if data.length < e1 + 3 + (nof D).toNat then .bad (e1 + 3) else .ok ((data.take (e1 + 3 + (nof D).toNat)).drop (e1 + 3)) (e1 + 3 + (nof D).toNat)) →
      WS (WC (n - 1)) none [.expr (sm .wNeed [add (.kx [125]) CRLF, .ks (S "no head of a literal")]),
        .asg nEnd (add atE (ntup .numberOfFigures "number_of_figures" [Mine.L nOctets])),
        .iff (.cmp .Gt (Mine.L nEnd) (lenE dataE)) [raiseF "octets of a literal are missing"] [],
        .asg nFound (sl dataE atE (Mine.L nEnd)),
        setAt (Mine.L nEnd),
        .ret (.call (tyE "bytes") [Mine.L nFound])] L τ Qt (fun e τ => ∃ ρ, ρ.le (τ.del L) ∧ X e ρ) := by
    intro e1 τ Qt J nx q
    (walk_at "w s")
    refine e_sm J rfl ?_
    (walk_at "w v"; walk_at "w e"; walk_at "w e"; walk_at "w e")
    refine ⟨by decide, ?_⟩
    (walk_at "w v"; walk_at "w e"; walk_at "w v")
    refine w_need (o := [125, 13, 10]) (by walk_at "w a") J.W (by decide) (fun h => ⟨rfl, ?_⟩) fun h => ?_
    rotate_left
    · rw [if_pos h] at q; exact Fault.in q J.F
    have hle1 : e1 + 3 ≤ data.length := has_le h J.W.le
    rw [if_neg (by rw [h]; decide)] at q
    have J : In σ (τ.set d (wns data ((e1 + 3 : Nat) : Int))) L w d data (e1 + 3) m := J.move hle1
    have e33 : ((e1 + ([125, 13, 10] : List UInt8).length : Nat) : Int) = ((e1 + 3 : Nat) : Int) := rfl
    rw [e33]
    generalize τ.set d (wns data ((e1 + 3 : Nat) : Int)) = τ' at J
    have hnn := nof_nonneg hdig
    generalize hz : e1 + 3 + (nof D).toNat = z at q
    (walk_at "w s"; walk_at "w e")
    refine e_at J ?_
    (walk_at "w e"; walk_at "w e"; walk_at "w v")
    refine J.loc m1 ?_
    (walk_at "w v")
    refine to_f rfl (w_nof (by walk_at "w a") (by walk_at "w a") (.mk J.bset ?_))
    have ez : ((e1 + 3 : Nat) : Int) + nof D = (z : Int) := by lia
    rw [ez]
    have J := J.asg (x := nEnd) (v := .int z) (by decide)
    generalize setLoc τ' L nEnd (.int z) = τ₂ at J
    (walk_at "w s"; walk_at "w e")
    refine J.loc rfl (e_lenD J (.mk (fun h => ?_) (fun h => ?_)))
    · have h2 : data.length < z := by have := of_decide_eq_true h; lia
      rw [if_pos h2] at q
      (walk_at "w n")
      exact s_raiseF (by walk_at "w a") J (Fault.in q J.F)
    · have h2 : ¬ data.length < z := by have := of_decide_eq_false h; lia
      rw [if_neg h2] at q
      (walk_at "w n"; walk_at "w s"; walk_at "w e")
      refine e_data J ?_
      (walk_at "w o")
      refine e_at J ?_
      (walk_at "w o")
      refine J.loc rfl ⟨⟨by lia, by lia, by lia⟩, .mk J.bset ?_⟩
      have eb : (data.take ((z : Nat) : Int).toNat).drop ((e1 + 3 : Nat) : Int).toNat = (data.take z).drop (e1 + 3) := rfl
      rw [eb]
      have J := J.asg (x := nFound) (v := .bytes ((data.take z).drop (e1 + 3))) (by decide)
      generalize setLoc τ₂ L nFound (.bytes ((data.take z).drop (e1 + 3))) = τ₃ at J
      (walk_at "w n")
      refine s_atLoc J rfl ?_
      have J := J.move (show z ≤ data.length by lia)
      (walk_at "w s"; walk_at "w e"; walk_at "w e"; walk_at "w v")
      refine J.loc rfl ?_
      (walk_at "w v")
      refine ⟨by rw [List.length_drop, List.length_take]; lia, nx _ _ (J.ret ?_)⟩
      exact q
  (walk_at "w s")
  refine e_sm J rfl ?_
  (walk_at "w v"; walk_at "w e"; walk_at "w v")
  refine w_skip (by walk_at "w a") J.W (by decide) (fun h => ⟨rfl, ?_⟩) fun h => ⟨rfl, ?_⟩
  · rw [h] at q
    exact tail (e + 1) _ _ (J.move (has_le h J.W.le)) (fun v ρ h => h) q
  · rw [h] at q
    exact tail e _ _ J (fun v ρ h => h) q
/-- the reading of `string` -/
theorem w_string (hn : 5 ≤ n) (H : W0 σ w d data p) (q : RB Q X σ d data (rdS data p)) : WC n .wString [.ref w] σ Q X := by
  refine enterR [(nSelf, .ref w)] (by walk_at "w a") rfl rfl rfl fun L hL => ?_
  have J := In.enter (m := mk [(nSelf, .ref w)]) H hL rfl
  generalize σ.set L (.ns true (mk [(nSelf, .ref w)])) = σ₁ at J
  have hl := H.len
  have hle := H.le
  have conv : ∀ r : R (List UInt8), RB Q X σ d data r → (∀ b k, r = .ok b k → k ≤ data.length) → RB (fun v τ => ∃ ρ, ρ.le (τ.del L) ∧ Q v ρ) (fun e τ => ∃ ρ, ρ.le (τ.del L) ∧ X e ρ) σ₁ d data r := by
    intro r q hk
    cases r with
    | ok b k => exact (J.move (hk b k rfl)).ret q
    | bad i => exact Fault.in q J.F
  (walk_at "w s0"; walk_at "w e"; walk_at "w e")
  refine e_peek (by walk_at "w a") J ?_
  (walk_at "w e")
  unfold rdS at q
  refine (.mk (fun h => ?_) (fun h => ?_))
  · have e : has data p [123] = true := pk_eq.mp (of_decide_eq_true h)
    refine e_sm J rfl ?_
    (walk_at "w v")
    refine w_literal (by walk_at "w a") J.W ?_
    rw [if_pos e] at q ⊢
    exact conv _ q fun b k h => (rdL_le h).1
  · have e : has data p [123] = false := by
      cases z : has data p [123] with
      | false => rfl
      | true => exact absurd (pk_eq.mpr z) (of_decide_eq_false h)
    refine e_sm J rfl ?_
    (walk_at "w v")
    refine w_quoted (by walk_at "w a") J.W ?_
    rw [e] at q
    exact conv _ q fun b k h => (rdS'_le h).1
/-- string_or: what a string is not -/
theorem w_stringOr {f : F} {P : Int → Bool} (hn : 6 ≤ n) (hf : isP f = true) (fit : ∀ c σ (Q : Kt) (X : Xt), 0 ≤ c → c ≤ 255 → Q (.bool (P c)) σ → WC (n - 2) f [.int c] σ Q X) (H : W0 σ w d data p)
    (q : RB Q X σ d data (if has data p [34] || has data p [123] then rdS data p else let e := runTo P data p; if e = p then .bad p else .ok ((data.take e).drop p) e)) : WC n .wStringOr [.ref w, .ref f.addr] σ Q X := by
  refine enterR [(nFits, .ref f.addr), (nSelf, .ref w)] (by walk_at "w a") rfl rfl rfl fun L hL => ?_
  have J := In.enter (m := mk [(nFits, .ref f.addr), (nSelf, .ref w)]) H hL rfl
  generalize σ.set L (.ns true (mk [(nFits, .ref f.addr), (nSelf, .ref w)])) = σ₁ at J
  have hl := H.len
  have hle := H.le
  have hr := runTo_le P H.le
  have conv : ∀ r : R (List UInt8), RB Q X σ d data r → (∀ b k, r = .ok b k → k ≤ data.length) → RB (fun v τ => ∃ ρ, ρ.le (τ.del L) ∧ Q v ρ) (fun e τ => ∃ ρ, ρ.le (τ.del L) ∧ X e ρ) σ₁ d data r := by
    intro r q hk
    cases r with
    | ok b k => exact (J.move (hk b k rfl)).ret q
    | bad i => exact Fault.in q J.F
  have str : (has data p [34] || has data p [123]) = true → ∀ Qt : Ft, (∀ v ρ, (∃ ρ', ρ'.le (ρ.del L) ∧ Q v ρ') → Qt (.ret v) ρ) → WS (WC (n - 1)) none [.ret (sm .wString [])] L σ₁ Qt (fun e τ => ∃ ρ, ρ.le (τ.del L) ∧ X e ρ) := fun h Qt nx => by
    rw [if_pos h] at q
    (walk_at "w s")
    refine e_sm J rfl ?_
    (walk_at "w v")
    refine w_string (by walk_at "w a") J.W ?_
    have := conv _ q fun b k h => (rdS_le h).1
    cases hz : rdS data p with
    | ok b k => rw [hz] at this; exact nx _ _ this
    | bad i => rw [hz] at this; exact this
  (walk_at "w s0"; walk_at "w e"; walk_at "w b"; walk_at "w e")
  refine e_peek (by walk_at "w a") J ?_
  (walk_at "w e")
  refine (.mk (fun h => ?_) (fun h => ?_))
  rotate_left
  · have e : has data p [34] = true := pk_eq.mp (of_decide_eq_true (Bool.of_not_eq_false h))
    exact ⟨_, rfl, fun _ => str (by rw [e]; rfl) _ fun v ρ h => h, fun e => by rw [e] at h; exact absurd rfl h⟩
  have e1 : has data p [34] = false := by
    cases z : has data p [34] with
    | false => rfl
    | true => exact absurd (pk_eq.mpr z) (of_decide_eq_false h)
  (walk_at "w b"; walk_at "w e")
  refine e_peek (by walk_at "w a") J ?_
  (walk_at "w e")
  refine (.mk (fun h => ?_) (fun h => ?_))
  rotate_left
  · have e : has data p [123] = true := pk_eq.mp (of_decide_eq_true (Bool.of_not_eq_false h))
    exact ⟨_, rfl, fun _ => str (by rw [e, Bool.or_true]) _ fun v ρ h => h, fun e => by rw [e] at h; exact absurd rfl h⟩
  have e2 : has data p [123] = false := by
    cases z : has data p [123] with
    | false => rfl
    | true => exact absurd (pk_eq.mpr z) (of_decide_eq_false h)
  (walk_at "w b")
  refine ⟨_, rfl, fun h => (by cases h), fun _ => ?_⟩
  rw [if_neg (by rw [e1, e2]; decide)] at q
  dsimp only at q
  (walk_at "w n"; walk_at "w s")
  refine e_sm J rfl ?_
  (walk_at "w v")
  refine J.loc rfl ?_
  (walk_at "w v")
  refine w_run (by walk_at "w a") hf (fun c σ Q X => fit c σ Q X) J.W (.mk ((J.move hr.2).bset) ?_)
  have J := (J.move hr.2).asg (x := nOctets) (v := .bytes ((data.take (runTo P data p)).drop p)) (by decide)
  generalize setLoc (σ₁.set d (wns data (runTo P data p : Nat))) L nOctets (.bytes ((data.take (runTo P data p)).drop p)) = σ₂ at J
  have hlen := run_len (P := P) (data := data) (p := p)
  have hlen' := run_len_le (P := P) (data := data) (p := p)
  (walk_at "w s"; walk_at "w e")
  refine e_lenL J.F.fr rfl (by walk_at "w a") ?_
  (walk_at "w e")
  refine (.mk (fun h => ?_) (fun h => ?_))
  · have he : runTo P data p = p := by have := of_decide_eq_true h; lia
    rw [if_pos he] at q
    (walk_at "w n")
    refine s_raiseF (by walk_at "w a") J ?_
    rw [he]
    exact Fault.in q J.F
  · have he : ¬ runTo P data p = p := by have := of_decide_eq_false h; lia
    rw [if_neg he] at q
    (walk_at "w n"; walk_at "w s"; walk_at "w e"; walk_at "w e"; walk_at "w v")
    refine J.loc rfl ?_
    (walk_at "w v")
    exact ⟨by lia, J.ret q⟩
noncomputable def rdA (data : List UInt8) (p : Nat) : R (List UInt8) := if has data p [34] || has data p [123] then rdS data p else let e := runTo isAs data p; if e = p then .bad p else .ok ((data.take e).drop p) e
theorem w_astring (hn : 7 ≤ n) (H : W0 σ w d data p) (q : RB Q X σ d data (rdA data p)) : WC n .wAstring [.ref w] σ Q X := by
  refine enterR [(nSelf, .ref w)] (by walk_at "w a") rfl rfl rfl fun L hL => ?_
  have J := In.enter (m := mk [(nSelf, .ref w)]) H hL rfl
  generalize σ.set L (.ns true (mk [(nSelf, .ref w)])) = σ₁ at J
  (walk_at "w s0")
  refine e_sm J rfl ?_
  (walk_at "w v"; walk_at "w e"; walk_at "w v")
  refine w_stringOr (f := .isAstringCode) (by walk_at "w a") rfl (fit_ast (by walk_at "w a")) J.W ?_
  show RB _ _ _ _ _ (rdA data p)
  have hk : ∀ b k, rdA data p = .ok b k → k ≤ data.length := fun b k h => by
    unfold rdA at h
    split at h
    · exact (rdS_le h).1
    · dsimp only at h
      split at h
      · cases h
      · cases h; exact (runTo_le isAs H.le).2
  cases hz : rdA data p with
  | ok b k => rw [hz] at q; exact (J.move (hk b k hz)).ret q
  | bad i => rw [hz] at q; exact Fault.in q J.F
/-- the reading of `nstring`: none for NIL -/
noncomputable def rdN (data : List UInt8) (p : Nat) : R (Option (List UInt8)) := if has data p [34] || has data p [123] then (match rdS data p with | .ok b k => .ok (some b) k | .bad i => .bad i)
  else let e := runTo isAt data p; if low8 ((data.take e).drop p) = [110, 105, 108] then .ok none e else .bad p
noncomputable def vN : Option (List UInt8) → V | none => .none | some b => .bytes b
noncomputable def RN (Q : Kt) (X : Xt) (σ : St) (d : Addr) (data : List UInt8) : R (Option (List UInt8)) → Prop
  | .ok b q => Q (vN b) (σ.set d (wns data (q : Int)))
  | .bad i => Fault X σ d i
theorem w_nstring (hn : 6 ≤ n) (H : W0 σ w d data p) (q : RN Q X σ d data (rdN data p)) : WC n .wNstring [.ref w] σ Q X := by
  refine enterR [(nSelf, .ref w)] (by walk_at "w a") rfl rfl rfl fun L hL => ?_
  have J := In.enter (m := mk [(nSelf, .ref w)]) H hL rfl
  generalize σ.set L (.ns true (mk [(nSelf, .ref w)])) = σ₁ at J
  have hl := H.len
  have hle := H.le
  have hr := runTo_le isAt H.le
  unfold rdN at q
  (walk_at "w s0")
  refine e_at J ⟨J.bset, ?_⟩
  have J := J.asg (x := nFirst) (v := .int p) (by decide)
  generalize setLoc σ₁ L nFirst (.int p) = σ₂ at J
  have str : (has data p [34] || has data p [123]) = true → ∀ Qt : Ft, (∀ v ρ, (∃ ρ', ρ'.le (ρ.del L) ∧ Q v ρ') → Qt (.ret v) ρ) → WS (WC (n - 1)) none [.ret (sm .wString [])] L σ₂ Qt (fun e τ => ∃ ρ, ρ.le (τ.del L) ∧ X e ρ) := fun h Qt nx => by
    rw [if_pos h] at q
    (walk_at "w s")
    refine e_sm J rfl ?_
    (walk_at "w v")
    refine w_string (by walk_at "w a") J.W ?_
    cases hz : rdS data p with
    | ok b k => rw [hz] at q; exact nx _ _ ((J.move (rdS_le hz).1).ret q)
    | bad i => rw [hz] at q; exact Fault.in q J.F
  (walk_at "w s"; walk_at "w e"; walk_at "w b"; walk_at "w e")
  refine e_peek (by walk_at "w a") J ?_
  (walk_at "w e")
  refine (.mk (fun h => ?_) (fun h => ?_))
  rotate_left
  · have e : has data p [34] = true := pk_eq.mp (of_decide_eq_true (Bool.of_not_eq_false h))
    exact (.mk (fun _ => str (by rw [e]; rfl) _ fun v ρ h => h) (fun e => by rw [e] at h; exact absurd rfl h))
  have e1 : has data p [34] = false := by
    cases z : has data p [34] with
    | false => rfl
    | true => exact absurd (pk_eq.mpr z) (of_decide_eq_false h)
  (walk_at "w b"; walk_at "w e")
  refine e_peek (by walk_at "w a") J ?_
  (walk_at "w e")
  refine (.mk (fun h => ?_) (fun h => ?_))
  rotate_left
  · have e : has data p [123] = true := pk_eq.mp (of_decide_eq_true (Bool.of_not_eq_false h))
    exact (.mk (fun _ => str (by rw [e, Bool.or_true]) _ fun v ρ h => h) (fun e => by rw [e] at h; exact absurd rfl h))
  have e2 : has data p [123] = false := by
    cases z : has data p [123] with
    | false => rfl
    | true => exact absurd (pk_eq.mpr z) (of_decide_eq_false h)
  (walk_at "w b")
  refine (.mk (fun h => (by cases h)) (fun _ => ?_))
  rw [if_neg (by rw [e1, e2]; decide)] at q
  dsimp only at q
  have hlen := run_len (P := isAt) (data := data) (p := p)
  have hlen' := run_len_le (P := isAt) (data := data) (p := p)
  (walk_at "w n"; walk_at "w s"; walk_at "w e"; walk_at "w e"; walk_at "w e"; walk_at "w v")
  refine e_sm J rfl ?_
  (walk_at "w v"; walk_at "w e"; walk_at "w v")
  refine w_run (by walk_at "w a") rfl (fit_atom (by walk_at "w a")) J.W ?_
  (walk_at "w v")
  refine to_f rfl (w_lower (by walk_at "w a") (by walk_at "w a") ?_)
  have J := J.move hr.2
  (walk_at "w e")
  refine (.mk (fun h => ?_) (fun h => ?_))
  · have hz : ¬ low8 ((data.take (runTo isAt data p)).drop p) = [110, 105, 108] := by
      intro z; rw [z] at h; exact absurd h (by decide)
    rw [if_neg hz] at q
    (walk_at "w n")
    exact s_raiseW (i := p) J.F.fr rfl (Fault.in q J.F)
  · have hz : low8 ((data.take (runTo isAt data p)).drop p) = [110, 105, 108] := by
      cases z : decide (low8 ((data.take (runTo isAt data p)).drop p) = [110, 105, 108]) with
      | true => exact of_decide_eq_true z
      | false => rw [z] at h; exact absurd h (by decide)
    rw [if_pos hz] at q
    (walk_at "w n"; walk_at "w s"; walk_at "w e")
    exact J.ret q
end
end Mine
-- D8
set_option genSizeOf false
set_option genInjectivity false
namespace Mine
open IE IS N
/-! the values of the wire -/
inductive T where | nil | str (b : List UInt8) | num (i : Int) | atom (b : List UInt8) | lst (l : List T)
mutual
inductive IsVal (σ : St) : V → T → Prop where
  | nil : IsVal σ .none .nil
  | str (b : List UInt8) : IsVal σ (.bytes b) (.str b)
  | num (i : Int) : IsVal σ (.int i) (.num i)
  | atom {a d : Addr} {b : List UInt8} : σ a = some (.inst clsAtom d) → σ d = some (.ns false (mk [(nText, .str (strOf b))])) → IsVal σ (.ref a) (.atom b)
  | lst {a : Addr} {vs : List V} {ts : List T} : σ a = some (.list vs) → IsVals σ vs ts → IsVal σ (.ref a) (.lst ts)
inductive IsVals (σ : St) : List V → List T → Prop where
  | nil : IsVals σ [] []
  | cons {v : V} {t : T} {vs : List V} {ts : List T} : IsVal σ v t → IsVals σ vs ts → IsVals σ (v :: vs) (t :: ts)
end
theorem IsVal.mono {σ τ : St} (h : σ.le τ) {v : V} {t : T} (z : IsVal σ v t) : IsVal τ v t :=
  IsVal.rec (motive_1 := fun v t _ => IsVal τ v t) (motive_2 := fun v t _ => IsVals τ v t) .nil (fun b => .str b) (fun i => .num i) (fun h1 h2 => .atom (h _ _ h1) (h _ _ h2)) (fun h1 _ i => .lst (h _ _ h1) i) .nil (fun _ _ i j => .cons i j) z
theorem IsVals.mono {σ τ : St} (h : σ.le τ) {v : List V} {t : List T} (z : IsVals σ v t) : IsVals τ v t :=
  IsVals.rec (motive_1 := fun v t _ => IsVal τ v t) (motive_2 := fun v t _ => IsVals τ v t) .nil (fun b => .str b) (fun i => .num i) (fun h1 h2 => .atom (h _ _ h1) (h _ _ h2)) (fun h1 _ i => .lst (h _ _ h1) i) .nil (fun _ _ i j => .cons i j) z
theorem IsVals.ind {σ : St} {P : List V → List T → Prop} (h0 : P [] []) (h1 : ∀ {v : V} {t : T} {vs : List V} {ts : List T}, IsVal σ v t → P vs ts → P (v :: vs) (t :: ts)) {vs : List V} {ts : List T} (h : IsVals σ vs ts) : P vs ts :=
  IsVals.rec (motive_1 := fun _ _ _ => True) (motive_2 := fun vs ts _ => P vs ts) trivial (fun _ => trivial) (fun _ => trivial) (fun _ _ => trivial) (fun _ _ _ => trivial) h0 (fun a _ _ i => h1 a i) h
theorem IsVals.snoc {σ : St} {vs : List V} {ts : List T} {v : V} {t : T} (z : IsVals σ vs ts) (h : IsVal σ v t) : IsVals σ (vs ++ [v]) (ts ++ [t]) :=
  IsVals.ind (P := fun vs ts => IsVals σ (vs ++ [v]) (ts ++ [t])) (.cons h .nil) (fun a i => .cons a i) z
theorem IsVals.len {σ : St} {vs : List V} {ts : List T} (z : IsVals σ vs ts) : vs.length = ts.length :=
  IsVals.ind (P := fun vs ts => vs.length = ts.length) rfl (fun _ i => congrArg Nat.succ i) z
/-- what is new -/
noncomputable def St.off (τ σ : St) : St := fun b => match σ b with | none => τ b | some _ => none
theorem off_none {τ σ : St} {b : Addr} (h : σ b = none) : (τ.off σ) b = τ b := by unfold St.off; rw [h]
theorem off_some {τ σ : St} {b : Addr} {o : AO} (h : (τ.off σ) b = some o) : σ b = none ∧ τ b = some o := by
  unfold St.off at h
  split at h
  · rename_i e; exact ⟨e, h⟩
  · cases h
/-! the reading of values -/
noncomputable def rdP (data : List UInt8) (p : Nat) : R T :=
  let e := runTo isVa data p
  if e = p then .bad p else
  let o := (data.take e).drop p
  if low8 o = [110, 105, 108] then .ok .nil e else
  if (o.all fun c => isFg c.toNat) then (if 19 < o.length then .bad p else .ok (.num (nof o)) e) else .ok (.atom o) e
noncomputable def rdI (data : List UInt8) (rd : Nat → R T) : Nat → Nat → List T → R T
  | 0, p, acc => .bad p
  | f + 1, p, acc => if has data p [41] then .ok (.lst acc) (p + 1) else
    if acc.isEmpty = false ∧ has data p [32] = false then .bad p else
    match rd (if acc.isEmpty then p else p + 1) with
    | .bad i => .bad i
    | .ok t q => rdI data rd f q (acc ++ [t])
noncomputable def rdV (data : List UInt8) : Nat → Nat → R T
  | k, p => if has data p [34] || has data p [123] then (match rdS data p with | .ok b q => .ok (.str b) q | .bad i => .bad i) else
    if has data p [40] = false then rdP data p else
    match k with
    | 0 => .bad p
    | k + 1 => rdI data (rdV data k) (data.length - p) (p + 1) []
@[elab_as_elim] theorem okE {α : Type} {P : α → Nat → Prop} {a : α} {b : Nat} {t : α} {k : Nat} (h : R.ok a b = R.ok t k) (z : P a b) : P t k := by cases h; exact z
theorem badE {α : Type} {P : Prop} {i : Nat} {t : α} {k : Nat} (h : R.bad i = R.ok t k) : P := nomatch h
theorem rdP_le {data : List UInt8} {p : Nat} {t : T} {k : Nat} (hp : p ≤ data.length) (h : rdP data p = .ok t k) : k ≤ data.length ∧ p < k := by
  have hr := runTo_le isVa hp
  refine iteE h (fun _ h => badE h) fun hn h => ?_
  have hr : runTo isVa data p ≤ data.length ∧ p < runTo isVa data p := ⟨hr.2, Nat.lt_of_le_of_ne hr.1 (Ne.symm hn)⟩
  exact iteE h (fun _ h => okE h hr) fun _ h => iteE h (fun _ h => iteE h (fun _ h => badE h) fun _ h => okE h hr) fun _ h => okE h hr
/-- where the next item of a list begins -/
theorem next_le {data : List UInt8} {p : Nat} {e : Bool} (hp : p ≤ data.length) (hs : ¬ (e = false ∧ has data p [32] = false)) : (if e then p else p + 1) ≤ data.length ∧ p ≤ (if e then p else p + 1) := by
  cases e with
  | true => exact ⟨hp, Nat.le_refl _⟩
  | false => exact ⟨has_le ((Bool.not_eq_false _).mp fun z => hs ⟨rfl, z⟩) hp, Nat.le_succ _⟩
theorem rdI_le {data : List UInt8} {rd : Nat → R T} (hrd : ∀ p t k, p ≤ data.length → rd p = .ok t k → k ≤ data.length ∧ p < k) : ∀ (f p : Nat) (acc : List T) (t : T) (k : Nat), p ≤ data.length → rdI data rd f p acc = .ok t k → k ≤ data.length ∧ p < k := by
  intro f
  induction f with
  | zero => exact fun p acc t k hp h => badE h
  | succ f ih =>
    intro p acc t k hp h
    refine iteE h (fun e h => okE h ⟨has_le e hp, Nat.lt_succ_self _⟩) fun _ h => iteE h (fun _ h => badE h) fun hs h => ?_
    have hq := next_le hp hs
    cases hz : rd (if acc.isEmpty then p else p + 1) with
    | bad i => rw [hz] at h; exact badE h
    | ok t' q =>
      rw [hz] at h
      have h1 := hrd _ _ _ hq.1 hz
      have h2 := ih q _ _ _ h1.1 h
      exact ⟨h2.1, Nat.lt_trans (Nat.lt_of_le_of_lt hq.2 h1.2) h2.2⟩
theorem rdV_le {data : List UInt8} (k : Nat) : ∀ (p : Nat) (t : T) (q : Nat), p ≤ data.length → rdV data k p = .ok t q → q ≤ data.length ∧ p < q := by
  induction k with
  | zero =>
    intro p t q hp h
    unfold rdV at h
    refine iteE h (fun _ h => ?_) fun _ h => iteE h (fun _ h => rdP_le hp h) fun _ h => badE h
    cases hz : rdS data p with
    | bad i => rw [hz] at h; exact badE h
    | ok b j => rw [hz] at h; exact okE h (rdS_le hz)
  | succ k ih =>
    intro p t q hp h
    unfold rdV at h
    refine iteE h (fun _ h => ?_) fun _ h => iteE h (fun _ h => rdP_le hp h) fun e h => ?_
    · cases hz : rdS data p with
      | bad i => rw [hz] at h; exact badE h
      | ok b j => rw [hz] at h; exact okE h (rdS_le hz)
    · have e1 := has_le ((Bool.not_eq_false _).mp e) hp
      have := rdI_le ih _ _ _ _ _ e1 h
      exact ⟨this.1, Nat.lt_of_succ_lt this.2⟩
section
variable {n : Nat} {σ σ₀ : St} {Q : Kt} {X : Xt} {C : Ct} {cl : Option Addr} {L w d : Addr} {m : N → Option V} {data : List UInt8} {p : Nat}
/-- what a method that reads a value gives -/
noncomputable def RV (Q : Kt) (X : Xt) (σ : St) (d : Addr) (data : List UInt8) : R T → Prop
  | .ok t q => ∀ v τ, (∀ b o, b ≠ d → σ b = some o → τ b = some o) → τ d = some (wns data (q : Int)) → IsVal (τ.off σ) v t → Q v τ
  | .bad i => Fault X σ d i
/-- the end of a method that has made new objects -/
theorem In.retV {v : V} {t : T} {q : Nat} {ρ : St} (J : In σ₀ σ L w d data q m) (hv : IsVal ((σ.del L).off σ₀) v t) (h : ∀ v τ, (∀ b o, b ≠ d → σ₀ b = some o → τ b = some o) → τ d = some (wns data (q : Int)) → IsVal (τ.off σ₀) v t → Q v τ) : ∃ ρ, ρ.le (σ.del L) ∧ Q v ρ :=
  ⟨_, St.le_refl _, h v _ (fun b o hb h => by
    rw [St.del_ne _ (by first | exact neN h J.F.L0 | exact neS J.F.L0 h | exact fun z => by subst z; rw [J.F.L0] at h; cases h)]; exact J.F.keep b o hb h) (by first | exact (St.del_ne _ J.F.ne).trans J.W.d | (rw [St.del_ne _ J.F.ne]; exact J.W.d)) hv⟩
theorem callV_atom {x : V} (h : ∀ dd a, σ dd = none → σ a = none → dd ≠ a → Q (.ref a) ((σ.set dd (.ns false (mk [(nText, x)]))).set a (.inst clsAtom dd))) : callV C (.ref clsAtom) [x] σ Q X := by
  have e : callV C (.ref clsAtom) [x] σ Q X = ∃ x', [x] = [x'] ∧ ∀ dd a, σ dd = none → σ a = none → dd ≠ a → Q (.ref a) ((σ.set dd (.ns false (mk [(nText, x')]))).set a (.inst clsAtom dd)) := rfl
  rw [e]
  exact ⟨_, rfl, h⟩
theorem w_plain (hn : 4 ≤ n) (H : W0 σ w d data p) (q : RV Q X σ d data (rdP data p)) : WC n .wPlain [.ref w] σ Q X := by
  refine enterR [(nSelf, .ref w)] (by walk_at "w a") rfl rfl rfl fun L hL => ?_
  have J := In.enter (m := mk [(nSelf, .ref w)]) H hL rfl
  generalize σ.set L (.ns true (mk [(nSelf, .ref w)])) = σ₁ at J
  have hl := H.len
  have hle := H.le
  have hr := runTo_le isVa H.le
  (walk_at "w s0")
  refine e_at J ⟨J.bset, ?_⟩
  have J := J.asg (x := nFirst) (v := .int p) (by decide)
  generalize setLoc σ₁ L nFirst (.int p) = σ₂ at J
  (walk_at "w s")
  refine e_sm J rfl ?_
  (walk_at "w v"; walk_at "w e"; walk_at "w v")
  refine w_run (by walk_at "w a") rfl (fit_val (by walk_at "w a")) J.W (.mk ((J.move hr.2).bset) ?_)
  have hlen := run_len (P := isVa) (data := data) (p := p)
  have hlen' := run_len_le (P := isVa) (data := data) (p := p)
  have hall : ∀ c ∈ (data.take (runTo isVa data p)).drop p, isVa c.toNat = true := fun c hc => run_all hc
  unfold rdP at q
  dsimp only at q
  have J := (J.move hr.2).asg (x := nOctets) (v := .bytes ((data.take (runTo isVa data p)).drop p)) (by decide)
  generalize setLoc (σ₂.set d (wns data (runTo isVa data p : Nat))) L nOctets (.bytes ((data.take (runTo isVa data p)).drop p)) = σ₃ at J
  generalize hm : upd (upd (mk [(nSelf, V.ref w)]) nFirst (.int p)) nOctets (.bytes ((data.take (runTo isVa data p)).drop p)) = m at J
  have m1 : m nOctets = some (.bytes ((data.take (runTo isVa data p)).drop p)) := by subst hm; rfl
  have m2 : m nFirst = some (.int p) := by subst hm; rfl
  generalize (data.take (runTo isVa data p)).drop p = o at *
  (walk_at "w s"; walk_at "w e")
  refine e_lenL J.F.fr m1 (by walk_at "w a") ?_
  (walk_at "w e")
  refine (.mk (fun h => ?_) (fun h => ?_))
  · have he : runTo isVa data p = p := by have := of_decide_eq_true h; lia
    rw [if_pos he] at q
    (walk_at "w n")
    refine s_raiseF (by walk_at "w a") J ?_
    rw [he]
    exact Fault.in q J.F
  have he : ¬ runTo isVa data p = p := by have := of_decide_eq_false h; lia
  rw [if_neg he] at q
  (walk_at "w n"; walk_at "w s"; walk_at "w e"; walk_at "w e"; walk_at "w e"; walk_at "w v")
  refine J.loc m1 ?_
  (walk_at "w v")
  refine to_f rfl (w_lower (by walk_at "w a") (by walk_at "w a") ?_)
  (walk_at "w e")
  refine (.mk (fun h => ?_) (fun h => ?_))
  · have hz := of_decide_eq_true h
    rw [if_pos hz] at q
    (walk_at "w s"; walk_at "w e")
    exact J.retV (ρ := σ) .nil q
  have hz : ¬ low8 o = [110, 105, 108] := of_decide_eq_false h
  rw [if_neg hz] at q
  (walk_at "w n"; walk_at "w s"; walk_at "w e"; walk_at "w e"; walk_at "w v")
  refine comp_bytes (b := o) (g := fun c => .bool (isFg c)) (fun Q h => J.loc m1 h) (by walk_at "w a") (fun D ρ m c Q X hD hm h => ?_) fun A hA => ?_
  · (walk_at "w e"; walk_at "w e"; walk_at "w v")
    refine f_loc hD hm ?_
    (walk_at "w v")
    exact to_f rfl (w_isFigure (by walk_at "w a") h)
  have J := J.new (o := .list (o.map fun c => .bool (isFg c.toNat))) hA
  (walk_at "w v")
  refine ⟨_, _, St.set_same .., bools_map (fun c : UInt8 => isFg c.toNat) o, by rw [List.length_map]; lia, _, rfl, fun h => ?_, fun h => ?_⟩
  · have ha : (o.all fun c => isFg c.toNat) = true := by rw [List.all_map] at h; exact h
    rw [if_pos ha] at q
    (walk_at "w s"; walk_at "w e")
    refine e_lenL J.F.fr m1 (by walk_at "w a") ?_
    (walk_at "w e")
    refine (.mk (fun h => ?_) (fun h => ?_))
    · have h19 : 19 < o.length := by have := of_decide_eq_true h; lia
      rw [if_pos h19] at q
      (walk_at "w n")
      exact s_raiseW (i := p) J.F.fr m2 (Fault.in q J.F)
    · have h19 : ¬ 19 < o.length := by have := of_decide_eq_false h; lia
      rw [if_neg h19] at q
      (walk_at "w n"; walk_at "w s"; walk_at "w e"; walk_at "w e"; walk_at "w v")
      refine J.loc m1 ?_
      (walk_at "w v")
      exact to_f rfl (w_nof (by walk_at "w a") (by walk_at "w a") (J.retV (ρ := σ) (.num _) q))
  · have ha : ¬ (o.all fun c => isFg c.toNat) = true := by
      intro z
      rw [List.all_map] at h
      have : (o.all fun c => isFg c.toNat) = false := h
      rw [z] at this; cases this
    rw [if_neg ha] at q
    (walk_at "w n"; walk_at "w s"; walk_at "w e"; walk_at "w e"; walk_at "w v"; walk_at "w e"; walk_at "w e"; walk_at "w v")
    refine J.loc m1 ?_
    (walk_at "w v")
    refine to_f rfl (w_ascii (by walk_at "w a") (by walk_at "w a") (fun c hc => by
      have := isVa_le (hall c hc); lia) ?_)
    (walk_at "w v")
    refine callV_atom fun dd a h1 h2 h3 => ?_
    have K := (J.new (o := .ns false (mk [(nText, .str (strOf o))])) h1)
    have h2' : ((σ₃.set A (.list (o.map fun c => .bool (isFg c.toNat)))).set dd (.ns false (mk [(nText, .str (strOf o))]))) a = none := by first | exact (St.set_ne _ _ h3.symm).trans h2 | (rw [St.set_ne _ _ h3.symm]; exact h2)
    have K := K.new (o := .inst clsAtom dd) h2'
    have f0 : ∀ b, (σ₃.set A (.list (o.map fun c => .bool (isFg c.toNat)))) b = none → σ b = none ∧ b ≠ L := fun b hb => by
      refine ⟨?_, by first | exact neN hb J.F.fr | exact neS J.F.fr hb | exact fun z => by subst z; rw [J.F.fr] at hb; cases hb⟩
      cases z : σ b with
      | none => rfl
      | some o' =>
        by_cases hbd : b = d
        · subst hbd; rw [J.W.d] at hb; cases hb
        · rw [J.F.keep b o' hbd z] at hb; cases hb
    refine K.retV (ρ := σ) (.atom (d := dd) ?_ ?_) q
    · rw [off_none (f0 a h2).1, St.del_ne _ (f0 a h2).2, St.set_same]
    · rw [off_none (f0 dd h1).1, St.del_ne _ (f0 dd h1).2, St.set_ne _ _ h3, St.set_same]
end
end Mine
-- D9
namespace Mine
open IE IS N
section
variable {n : Nat} {σ σ₀ : St} {Q : Kt} {X : Xt} {C : Ct} {cl : Option Addr} {L w d : Addr} {m : N → Option V} {data : List UInt8} {p : Nat}
theorem In.after {τ : St} {q : Nat} (J : In σ₀ σ L w d data p m) (h : ∀ b o, b ≠ d → σ b = some o → τ b = some o) (hd : τ d = some (wns data (q : Int))) (hq : q ≤ data.length) : In σ₀ τ L w d data q m :=
  ⟨⟨h _ _ J.W.ne.symm J.W.w, hd, J.W.len, hq⟩, ⟨h _ _ J.F.ne.symm J.F.fr, fun b o hb h' => h b o hb (J.F.keep b o hb h'), J.F.L0, J.F.ne⟩, J.self⟩
/-- the objects of the elements: neither old, nor the list, nor the frame -/
noncomputable def St.mask (τ σ : St) (a L : Addr) : St := ((τ.off σ).del a).del L
theorem mask_get {τ σ : St} {a L b : Addr} (h0 : σ b = none) (h1 : b ≠ a) (h2 : b ≠ L) : (τ.mask σ a L) b = τ b := by
  unfold St.mask; rw [St.del_ne _ h2, St.del_ne _ h1, off_none h0]
theorem mask_some {τ σ : St} {a L b : Addr} {o : AO} (h : (τ.mask σ a L) b = some o) : σ b = none ∧ b ≠ a ∧ b ≠ L ∧ τ b = some o := by
  unfold St.mask at h
  have h2 : b ≠ L := fun z => by subst z; rw [St.del_same] at h; cases h
  rw [St.del_ne _ h2] at h
  have h1 : b ≠ a := fun z => by subst z; rw [St.del_same] at h; cases h
  rw [St.del_ne _ h1] at h
  exact ⟨(off_some h).1, h1, h2, (off_some h).2⟩
theorem mask_le {τ τ' σ : St} {a L : Addr} (h : ∀ b o, σ b = none → b ≠ a → b ≠ L → τ b = some o → τ' b = some o) : (τ.mask σ a L).le (τ'.mask σ a L) := fun b o e => by
  obtain ⟨h0, h1, h2, h3⟩ := mask_some e
  rw [mask_get h0 h1 h2]; exact h b o h0 h1 h2 h3
theorem value_dflt (h : WC n .wValue [.ref w, .int 0] σ Q X) : WC n .wValue [.ref w] σ Q X := by
  cases n with
  | zero => exact h
  | succ n =>
    have h : _ ∧ _ ∧ ∀ L, σ L = none → WS (WC n) none (body .wValue) L (σ.set L (.ns true (mk [(nDepth, .int 0), (nSelf, .ref w)]))) (fun fl τ => ∃ ρ, ρ.le (τ.del L) ∧ Q (retV fl) ρ) (fun e τ => ∃ ρ, ρ.le (τ.del L) ∧ X e ρ) := h
    exact ⟨Nat.le_refl 2, Nat.le_succ 1, h.2.2⟩
theorem w_value : ∀ (k : Nat) {n dd : Nat} {σ : St} {Q : Kt} {X : Xt} {w d : Addr} {data : List UInt8} {p : Nat}, dd + k = 30 → k + 8 ≤ n → W0 σ w d data p → RV Q X σ d data (rdV data k p) → WC n .wValue [.ref w, .int dd] σ Q X := by
  intro k
  induction k using Nat.strongRecOn with
  | ind k ih => ?_
  intro n dd σ Q X w d data p hdd hn H q
  refine enterR [(nDepth, .int dd), (nSelf, .ref w)] (by walk_at "w a") rfl rfl rfl fun L hL => ?_
  have J := In.enter (m := mk [(nDepth, .int dd), (nSelf, .ref w)]) H hL rfl
  generalize σ.set L (.ns true (mk [(nDepth, .int dd), (nSelf, .ref w)])) = σ₁ at J
  have hl := H.len
  have hle := H.le
  unfold rdV at q
  have str : (has data p [34] || has data p [123]) = true → ∀ Qt : Ft, (∀ v ρ, (∃ ρ', ρ'.le (ρ.del L) ∧ Q v ρ') → Qt (.ret v) ρ) → WS (WC (n - 1)) none [.ret (sm .wString [])] L σ₁ Qt (fun e τ => ∃ ρ, ρ.le (τ.del L) ∧ X e ρ) := fun h Qt nx => by
    rw [if_pos h] at q
    (walk_at "w s")
    refine e_sm J rfl ?_
    (walk_at "w v")
    refine w_string (by walk_at "w a") J.W ?_
    cases hz : rdS data p with
    | ok b k => rw [hz] at q; exact nx _ _ ((J.move (rdS_le hz).1).retV (ρ := σ) (.str b) q)
    | bad i => rw [hz] at q; exact Fault.in q J.F
  (walk_at "w s0"; walk_at "w e"; walk_at "w b"; walk_at "w e")
  refine e_peek (by walk_at "w a") J ?_
  (walk_at "w e")
  refine (.mk (fun h => ?_) (fun h => ?_))
  rotate_left
  · have e : has data p [34] = true := pk_eq.mp (of_decide_eq_true (Bool.of_not_eq_false h))
    exact ⟨_, rfl, fun _ => str (by rw [e]; rfl) _ fun v ρ h => h, fun e => by rw [e] at h; exact absurd rfl h⟩
  have e1 : has data p [34] = false := by
    cases z : has data p [34] with
    | false => rfl
    | true => exact absurd (pk_eq.mpr z) (of_decide_eq_false h)
  (walk_at "w b"; walk_at "w e")
  refine e_peek (by walk_at "w a") J ?_
  (walk_at "w e")
  refine (.mk (fun h => ?_) (fun h => ?_))
  rotate_left
  · have e : has data p [123] = true := pk_eq.mp (of_decide_eq_true (Bool.of_not_eq_false h))
    exact ⟨_, rfl, fun _ => str (by rw [e, Bool.or_true]) _ fun v ρ h => h, fun e => by rw [e] at h; exact absurd rfl h⟩
  have e2 : has data p [123] = false := by
    cases z : has data p [123] with
    | false => rfl
    | true => exact absurd (pk_eq.mpr z) (of_decide_eq_false h)
  (walk_at "w b")
  refine ⟨_, rfl, fun h => (by cases h), fun _ => ?_⟩
  rw [if_neg (by rw [e1, e2]; decide)] at q
  (walk_at "w n"; walk_at "w s"; walk_at "w e")
  refine e_peek (by walk_at "w a") J ?_
  (walk_at "w e")
  refine (.mk (fun h => ?_) (fun h => ?_))
  · -- no bracket
    have e : has data p [40] = false := by
      cases z : has data p [40] with
      | false => rfl
      | true => have := pk_eq.mpr z; rw [this] at h; exact absurd h (by decide)
    rw [if_pos e] at q
    (walk_at "w s")
    refine e_sm J rfl ?_
    (walk_at "w v")
    refine w_plain (by walk_at "w a") J.W ?_
    cases hz : rdP data p with
    | ok t k =>
      rw [hz] at q
      intro v τ h1 h2 h3
      refine (J.after h1 h2 (rdP_le hle hz).1).retV (ρ := σ) (h3.mono fun b o hb => ?_) q
      obtain ⟨g1, g2⟩ := off_some hb
      have gd : b ≠ d := by first | exact neN g1 J.W.d | exact neS J.W.d g1 | exact fun z => by subst z; rw [J.W.d] at g1; cases g1
      have gL : b ≠ L := by first | exact neN g1 J.F.fr | exact neS J.F.fr g1 | exact fun z => by subst z; rw [J.F.fr] at g1; cases g1
      have g0 : σ b = none := by
        cases z : σ b with
        | none => rfl
        | some o' => rw [J.F.keep b o' gd z] at g1; cases g1
      rw [off_none g0, St.del_ne _ gL]; exact g2
    | bad i => rw [hz] at q; exact Fault.in q J.F
  have e3 : has data p [40] = true := by
    refine pk_eq.mp ?_
    cases z : decide (pk data p = 40) with
    | true => exact of_decide_eq_true z
    | false => rw [z] at h; exact absurd h (by decide)
  have hp1 : p + 1 ≤ data.length := has_le e3 hle
  rw [if_neg (by rw [e3]; decide)] at q
  (walk_at "w n"; walk_at "w s"; walk_at "w e")
  refine J.loc rfl ?_
  (walk_at "w e")
  refine (.mk (fun h => ?_) (fun h => ?_))
  · have hk : k = 0 := by have := of_decide_eq_true h; lia
    subst hk
    (walk_at "w n")
    exact s_raiseF (by walk_at "w a") J (Fault.in q J.F)
  have hk : k ≠ 0 := by have := of_decide_eq_false h; lia
  obtain ⟨k, rfl⟩ : ∃ j, k = j + 1 := ⟨k - 1, by lia⟩
  dsimp only at q
  generalize hr : rdI data (rdV data k) (data.length - p) (p + 1) [] = r at q
  (walk_at "w n"; walk_at "w s")
  refine e_sm J rfl ?_
  (walk_at "w v"; walk_at "w e"; walk_at "w v")
  refine w_skip (by walk_at "w a") J.W (by decide) (fun _ => ⟨rfl, ?_⟩) fun h => by rw [e3] at h; cases h
  have J : In σ (σ₁.set d (wns data ((p + 1 : Nat) : Int))) L w d data (p + 1) _ := J.move hp1
  have ep : ((p + ([40] : List UInt8).length : Nat) : Int) = ((p + 1 : Nat) : Int) := rfl
  rw [ep]
  generalize σ₁.set d (wns data ((p + 1 : Nat) : Int)) = σ₂ at J
  (walk_at "w s"; walk_at "w e"; walk_at "w v")
  refine fun a ha => (.mk ((J.new ha).bset) ?_)
  have haL : a ≠ L := by first | exact neN ha J.F.fr | exact neS J.F.fr ha | exact fun z => by subst z; rw [J.F.fr] at ha; cases ha
  have had : a ≠ d := by first | exact neN ha J.W.d | exact neS J.W.d ha | exact fun z => by subst z; rw [J.W.d] at ha; cases ha
  have haw : a ≠ w := by first | exact neN ha J.W.w | exact neS J.W.w ha | exact fun z => by subst z; rw [J.W.w] at ha; cases ha
  have ha0 : σ a = none := by
    cases e : σ a with
    | none => rfl
    | some o => have := J.F.keep a o had e; rw [ha] at this; cases this
  have J := (J.new (o := .list []) ha).asg (x := nFound) (v := .ref a) (by decide)
  have hb : (setLoc (σ₂.set a (.list [])) L nFound (.ref a)) a = some (.list []) := by
    rw [setLoc_ne haL, St.set_same]
  generalize hm : upd (mk [(nDepth, V.int dd), (nSelf, V.ref w)]) nFound (.ref a) = m at J
  generalize setLoc (σ₂.set a (.list [])) L nFound (.ref a) = σ₃ at J hb
  have m1 : m nFound = some (.ref a) := by subst hm; rfl
  have m2 : m nDepth = some (.int dd) := by subst hm; rfl
  (walk_at "w s")
  refine ⟨fun f τ => ∃ p' vs ts, In σ τ L w d data p' m ∧ τ a = some (.list vs) ∧ IsVals (τ.mask σ a L) vs ts ∧ rdI data (rdV data k) f p' ts = r ∧ data.length < p' + f ∧ vs.length ≤ p',
    ⟨_, p + 1, [], [], J, hb, .nil, hr, by lia, Nat.zero_le _⟩, fun f τ hI => ?_⟩
  clear hr hb
  obtain ⟨p', vs, ts, J, hb, hv, hr, hf, hvl⟩ := hI
  have hle' := J.W.le
  obtain ⟨f, rfl⟩ : ∃ j, f = j + 1 := ⟨f - 1, by lia⟩
  unfold rdI at hr
  have hemp : ts.isEmpty = vs.isEmpty := by
    have := hv.len
    cases vs <;> cases ts <;> first | rfl | cases this
  (walk_at "w e")
  refine e_sm J rfl ?_
  (walk_at "w v"; walk_at "w e"; walk_at "w v")
  refine w_skip (by walk_at "w a") J.W (by decide) (fun h => ⟨_, rfl, _, rfl, (fun z => by cases z), fun _ => ?_⟩) fun h => ⟨_, rfl, _, rfl, fun _ => ?_, fun z => by cases z⟩
  · -- the end of the list
    rw [if_pos h] at hr
    have J : In σ (τ.set d (wns data ((p' + 1 : Nat) : Int))) L w d data (p' + 1) m := J.move (has_le h hle')
    rw [← hr] at q
    (walk_at "w s")
    refine J.loc m1 (J.retV (ρ := σ) (.lst (vs := vs) ?_ (hv.mono fun b o hb' => ?_)) q)
    · rw [off_none ha0, St.del_ne _ haL, St.set_ne _ _ had]; exact hb
    · obtain ⟨g0, g1, g2, g3⟩ := mask_some hb'
      rw [off_none g0, St.del_ne _ g2, St.set_ne _ _ (by first | exact neN g0 H.d | exact neS H.d g0 | exact fun z => by subst z; rw [H.d] at g0; cases g0)]; exact g3
  rw [if_neg (by rw [h]; decide)] at hr
  -- behind the blank
  have tail : ∀ (p'' : Nat) (τ' : St) (Qt : Ft), p' ≤ p'' → p'' ≤ data.length → In σ τ' L w d data p'' m → τ' a = some (.list vs) → IsVals (τ'.mask σ a L) vs ts →
      (match rdV data k p'' with | .bad i => R.bad i | .ok t q => rdI data (rdV data k) f q (ts ++ [t])) = r →
      (∀ ρ, (∃ p' vs ts, In σ ρ L w d data p' m ∧ ρ a = some (.list vs) ∧ IsVals (ρ.mask σ a L) vs ts ∧ rdI data (rdV data k) f p' ts = r ∧ data.length < p' + f ∧ vs.length ≤ p') → Qt .next ρ) →
      WS (WC (n - 1)) none [.expr (.bmeth (Mine.L nFound) (S "append") [sm .wValue [plus1 (Mine.L nDepth)]])] L τ' Qt (fun e τ => ∃ ρ, ρ.le (τ.del L) ∧ X e ρ) := by
    intro p'' τ' Qt h1 h2 J hb hv hr nx
    (walk_at "w s"; walk_at "w e")
    refine J.loc m1 ⟨"list.append", by unfold methId; dsimp only; rw [if_pos rfl, hb], ?_⟩
    (walk_at "w v")
    refine e_sm J rfl ?_
    (walk_at "w v"; walk_at "w e")
    refine J.loc m2 ?_
    (walk_at "w e")
    show WC (n - 1) .wValue [.ref w, .int ((dd + 1 : Nat) : Int)] τ' _ _
    refine ih k (by walk_at "w a") (by walk_at "w a") (by walk_at "w a") J.W ?_
    cases hz : rdV data k p'' with
    | bad i => rw [hz] at hr; rw [← hr] at q; exact Fault.in q J.F
    | ok t q' =>
      rw [hz] at hr
      dsimp only at hr
      intro v τ₃ k1 k2 k3
      have hq' := rdV_le _ _ _ _ h2 hz
      have K := J.after k1 k2 hq'.1
      have hb3 : τ₃ a = some (.list vs) := k1 _ _ had hb
      (walk_at "w v")
      refine ⟨vs, hb3, by lia, rfl, ?_⟩
      (walk_at "w n")
      refine nx _ ⟨q', vs ++ [v], ts ++ [t], K.put ha0 haw had haL, St.set_same .., ?_, hr, by lia, by rw [List.length_append]; show vs.length + 1 ≤ q'; lia⟩
      refine IsVals.snoc (hv.mono (mask_le fun b o g0 g1 g2 g3 => ?_)) (k3.mono fun b o hb' => ?_)
      · rw [St.set_ne _ _ g1]; exact k1 b o (by first | exact neN g0 H.d | exact neS H.d g0 | exact fun z => by subst z; rw [H.d] at g0; cases g0) g3
      · obtain ⟨g1, g2⟩ := off_some hb'
        have gd : b ≠ d := by first | exact neN g1 J.W.d | exact neS J.W.d g1 | exact fun z => by subst z; rw [J.W.d] at g1; cases g1
        have gL : b ≠ L := by first | exact neN g1 J.F.fr | exact neS J.F.fr g1 | exact fun z => by subst z; rw [J.F.fr] at g1; cases g1
        have ga : b ≠ a := by first | exact neN g1 hb | exact neS hb g1 | exact fun z => by subst z; rw [hb] at g1; cases g1
        have g0 : σ b = none := by
          cases z : σ b with
          | none => rfl
          | some o' => rw [J.F.keep b o' gd z] at g1; cases g1
        rw [mask_get g0 ga gL, St.set_ne _ _ ga]; exact g2
  (walk_at "w s"; walk_at "w e"; walk_at "w e"; walk_at "w e"; walk_at "w v")
  refine J.loc m1 ?_
  (walk_at "w v")
  refine ⟨vs, hb, by lia, ?_⟩
  (walk_at "w e")
  refine (.mk (fun h0 => ?_) (fun h0 => ?_))
  · have hne : vs.isEmpty = false := by
      have := of_decide_eq_true h0
      cases vs with
      | nil => exact absurd this (by decide)
      | cons _ _ => rfl
    rw [hemp, hne] at hr
    (walk_at "w s")
    refine e_sm J rfl ?_
    (walk_at "w v")
    refine w_space (by walk_at "w a") J.W (fun h32 => ⟨rfl, ?_⟩) fun h32 => ?_
    · rw [if_neg (fun z => by rw [h32] at z; exact absurd z.2 (by decide))] at hr
      have J : In σ (τ.set d (wns data ((p' + 1 : Nat) : Int))) L w d data (p' + 1) m := J.move (has_le h32 hle')
      (walk_at "w n")
      refine tail (p' + 1) _ _ (by walk_at "w a") J.W.le J (by first | exact (St.set_ne _ _ had).trans hb | (rw [St.set_ne _ _ had]; exact hb)) (hv.mono (mask_le fun b o g0 g1 g2 g3 => ?_)) hr fun ρ hI => ⟨f, ρ, by lia, St.le_refl _, hI⟩
      rw [St.set_ne _ _ (by first | exact neN g0 H.d | exact neS H.d g0 | exact fun z => by subst z; rw [H.d] at g0; cases g0)]; exact g3
    · rw [if_pos ⟨rfl, h32⟩] at hr
      rw [← hr] at q
      exact Fault.in q J.F
  · have hne : vs.isEmpty = true := by
      have := of_decide_eq_false h0
      cases vs with
      | nil => rfl
      | cons _ _ => exact absurd (by simp) this
    rw [hemp, hne, if_neg (fun z => absurd z.1 (by decide))] at hr
    (walk_at "w n")
    exact tail p' _ _ (Nat.le_refl _) hle' J hb hv hr fun ρ hI => ⟨f, ρ, by lia, St.le_refl _, hI⟩
end
end Mine
-- D10
set_option genSizeOf false
set_option genInjectivity false
namespace Mine
open IE IS N
/-! told values -/
mutual
inductive IsTd (σ : St) : V → T → Prop where
  | nil {a : Addr} : σ a = some (.tup [.str (S "nil")]) → IsTd σ (.ref a) .nil
  | str {a : Addr} {b : List UInt8} : σ a = some (.tup [.str (S "string"), .bytes b]) → IsTd σ (.ref a) (.str b)
  | num {a : Addr} {i : Int} : σ a = some (.tup [.str (S "number"), .int i]) → IsTd σ (.ref a) (.num i)
  | atom {a : Addr} {b : List UInt8} : σ a = some (.tup [.str (S "atom"), .str (strOf b)]) → IsTd σ (.ref a) (.atom b)
  | lst {a c : Addr} {vs : List V} {ts : List T} : σ a = some (.tup [.str (S "list"), .ref c]) → σ c = some (.tup vs) → IsTds σ vs ts → IsTd σ (.ref a) (.lst ts)
inductive IsTds (σ : St) : List V → List T → Prop where
  | nil : IsTds σ [] []
  | cons {v : V} {t : T} {vs : List V} {ts : List T} : IsTd σ v t → IsTds σ vs ts → IsTds σ (v :: vs) (t :: ts)
end
noncomputable def TupLe (σ τ : St) : Prop := ∀ a vs, σ a = some (.tup vs) → τ a = some (.tup vs)
theorem TupLe.of {σ τ : St} (h : σ.le τ) : TupLe σ τ := fun a vs e => h _ _ e
theorem IsTd.mono {σ τ : St} (h : TupLe σ τ) {v : V} {t : T} (z : IsTd σ v t) : IsTd τ v t :=
  IsTd.rec (motive_1 := fun v t _ => IsTd τ v t) (motive_2 := fun v t _ => IsTds τ v t) (fun e => .nil (h _ _ e)) (fun e => .str (h _ _ e)) (fun e => .num (h _ _ e)) (fun e => .atom (h _ _ e)) (fun e1 e2 _ i => .lst (h _ _ e1) (h _ _ e2) i) .nil (fun _ _ i j => .cons i j) z
theorem IsTds.mono {σ τ : St} (h : TupLe σ τ) {v : List V} {t : List T} (z : IsTds σ v t) : IsTds τ v t :=
  IsTds.rec (motive_1 := fun v t _ => IsTd τ v t) (motive_2 := fun v t _ => IsTds τ v t) (fun e => .nil (h _ _ e)) (fun e => .str (h _ _ e)) (fun e => .num (h _ _ e)) (fun e => .atom (h _ _ e)) (fun e1 e2 _ i => .lst (h _ _ e1) (h _ _ e2) i) .nil (fun _ _ i j => .cons i j) z
theorem IsTds.ind {σ : St} {P : List V → List T → Prop} (h0 : P [] []) (h1 : ∀ {v : V} {t : T} {vs : List V} {ts : List T}, IsTd σ v t → P vs ts → P (v :: vs) (t :: ts)) {vs : List V} {ts : List T} (h : IsTds σ vs ts) : P vs ts :=
  IsTds.rec (motive_1 := fun _ _ _ => True) (motive_2 := fun vs ts _ => P vs ts) (fun _ => trivial) (fun _ => trivial) (fun _ => trivial) (fun _ => trivial) (fun _ _ _ _ => trivial) h0 (fun a _ _ i => h1 a i) h
theorem IsTds.snoc {σ : St} {vs : List V} {ts : List T} {v : V} {t : T} (z : IsTds σ vs ts) (h : IsTd σ v t) : IsTds σ (vs ++ [v]) (ts ++ [t]) :=
  IsTds.ind (P := fun vs ts => IsTds σ (vs ++ [v]) (ts ++ [t])) (.cons h .nil) (fun a i => .cons a i) z
/-- the nesting of a value -/
noncomputable def dp : Nat → T → Bool
  | 0, .lst _ => false
  | k + 1, .lst l => Nat.ble l.length 1000000 && l.all (dp k)
  | _, _ => true
noncomputable def isLst : T → Bool | .lst _ => true | _ => false
theorem dp_leaf {k : Nat} {t : T} (h : isLst t = false) : dp k t = true := by
  cases t <;> first | (cases k <;> rfl) | cases h
mutual
noncomputable def toD : T → D
  | .nil => .tup [.str (S "nil")] | .str b => .tup [.str (S "string"), .bytes b] | .num i => .tup [.str (S "number"), .int i] | .atom b => .tup [.str (S "atom"), .str (strOf b)]
  | .lst l => .tup [.str (S "list"), .tup (toDs l)]
noncomputable def toDs : List T → List D
  | [] => []
  | t :: l => toD t :: toDs l
end
theorem got_cons {α β : Type} {P : α → β → Prop} {v : α} {t : β} {vs : List α} {ts : List β} (h : P v t) (ih : ∀ (i : Nat) (v : α), vs[i]? = some v → ∃ t, ts[i]? = some t ∧ P v t) (i : Nat) (u : α) (e : (v :: vs)[i]? = some u) : ∃ t', (t :: ts)[i]? = some t' ∧ P u t' := by
  cases i with
  | zero => cases e; exact ⟨_, rfl, h⟩
  | succ i => exact ih i u e
theorem got_nil {α β : Type} {P : α → β → Prop} (i : Nat) (u : α) (e : ([] : List α)[i]? = some u) : ∃ t', ([] : List β)[i]? = some t' ∧ P u t' := nomatch e
theorem IsTds_get {σ : St} {vs : List V} {ts : List T} (z : IsTds σ vs ts) : vs.length = ts.length ∧ ∀ (i : Nat) (v : V), vs[i]? = some v → ∃ t, ts[i]? = some t ∧ IsTd σ v t :=
  IsTds.ind (P := fun vs ts => vs.length = ts.length ∧ ∀ (i : Nat) (v : V), vs[i]? = some v → ∃ t, ts[i]? = some t ∧ IsTd σ v t) ⟨rfl, got_nil⟩ (fun h i => ⟨congrArg Nat.succ i.1, got_cons h i.2⟩) z
theorem IsVals_get {σ : St} {vs : List V} {ts : List T} (z : IsVals σ vs ts) : ∀ (i : Nat) (v : V), vs[i]? = some v → ∃ t, ts[i]? = some t ∧ IsVal σ v t :=
  IsVals.ind (P := fun vs ts => ∀ (i : Nat) (v : V), vs[i]? = some v → ∃ t, ts[i]? = some t ∧ IsVal σ v t) got_nil (fun h i => got_cons h i) z
theorem td_dat {σ : St} (k : Nat) {v : V} {t : T} (hd : dp k t = true) (z : IsTd σ v t) : IsDat σ (2 * k + 1) v (toD t) := by
  refine IsTd.rec (motive_1 := fun v t _ => ∀ k, dp k t = true → IsDat σ (2 * k + 1) v (toD t)) (motive_2 := fun vs ts _ => ∀ k, ts.all (dp k) = true → IsDats σ (2 * k + 1) vs (toDs ts)) ?_ ?_ ?_ ?_ ?_ ?_ ?_ z k hd
  · exact fun e k _ => .tup e (.cons (.str _ _) (.nil _))
  · exact fun e k _ => .tup e (.cons (.str _ _) (.cons (.bytes _ _) (.nil _)))
  · exact fun e k _ => .tup e (.cons (.str _ _) (.cons (.int _ _) (.nil _)))
  · exact fun e k _ => .tup e (.cons (.str _ _) (.cons (.str _ _) (.nil _)))
  · intro a c vs ts e1 e2 _ i k hd
    cases k with
    | zero => cases hd
    | succ k => exact .tup (n := 2 * k + 2) e1 (.cons (.str _ _) (.cons (.tup (n := 2 * k + 1) e2 (i k (Bool.and_eq_true_iff.mp hd).2)) (.nil _)))
  · exact fun k _ => .nil _
  · intro v t vs ts _ _ i j k hd
    have hd := Bool.and_eq_true_iff.mp hd
    exact .cons (i k hd.1) (j k hd.2)
theorem rdI_dp {data : List UInt8} {rd : Nat → R T} {j : Nat} (hl : data.length ≤ 1000000) (hrd : ∀ p t k, p ≤ data.length → rd p = .ok t k → dp j t = true ∧ k ≤ data.length ∧ p < k) :
    ∀ (f p : Nat) (acc : List T) (t : T) (k : Nat), p ≤ data.length → acc.length ≤ p → acc.all (dp j) = true → rdI data rd f p acc = .ok t k → dp (j + 1) t = true := by
  intro f
  induction f with
  | zero => exact fun p acc t k hp ha hd h => badE h
  | succ f ih =>
    intro p acc t k hp ha hd h
    have hk : dp (j + 1) (.lst acc) = true := by
      show (Nat.ble acc.length 1000000 && acc.all (dp j)) = true
      rw [hd, Bool.and_true]; exact Nat.ble_eq_true_of_le (Nat.le_trans ha (Nat.le_trans hp hl))
    refine iteE h (fun e h => okE h hk) fun _ h => iteE h (fun _ h => badE h) fun hs h => ?_
    have hq := next_le hp hs
    cases hz : rd (if acc.isEmpty then p else p + 1) with
    | bad i => rw [hz] at h; exact badE h
    | ok t' q =>
      rw [hz] at h
      have h1 := hrd _ _ _ hq.1 hz
      refine ih q _ _ _ h1.2.1 (by rw [List.length_append]; exact Nat.succ_le_of_lt (Nat.lt_of_le_of_lt (Nat.le_trans ha hq.2) h1.2.2)) ?_ h
      rw [List.all_append, hd, List.all_cons, h1.1]; rfl
theorem rdP_dp {data : List UInt8} {k p : Nat} {t : T} {q : Nat} (h : rdP data p = .ok t q) : dp k t = true :=
  iteE h (fun _ h => badE h) fun _ h => iteE h (fun _ h => okE h (dp_leaf rfl)) fun _ h => iteE h (fun _ h => iteE h (fun _ h => badE h) fun _ h => okE h (dp_leaf rfl)) fun _ h => okE h (dp_leaf rfl)
theorem rdV_dp {data : List UInt8} (hl : data.length ≤ 1000000) (k : Nat) : ∀ (p : Nat) (t : T) (q : Nat), p ≤ data.length → rdV data k p = .ok t q → dp k t = true := by
  induction k with
  | zero =>
    intro p t q hp h
    unfold rdV at h
    refine iteE h (fun _ h => ?_) fun _ h => iteE h (fun _ h => rdP_dp h) fun _ h => badE h
    cases hz : rdS data p with
    | bad i => rw [hz] at h; exact badE h
    | ok b j => rw [hz] at h; exact okE h (dp_leaf rfl)
  | succ k ih =>
    intro p t q hp h
    unfold rdV at h
    refine iteE h (fun _ h => ?_) fun _ h => iteE h (fun _ h => rdP_dp h) fun e h => ?_
    · cases hz : rdS data p with
      | bad i => rw [hz] at h; exact badE h
      | ok b j => rw [hz] at h; exact okE h (dp_leaf rfl)
    · exact rdI_dp hl (fun p t q hp h => ⟨ih p t q hp h, rdV_le k p t q hp h⟩) _ _ _ _ _ (has_le ((Bool.not_eq_false _).mp e) hp) (Nat.zero_le _) rfl h
section
variable {n : Nat} {σ σ₀ : St} {Q : Kt} {X : Xt} {C : Ct} {cl : Option Addr} {L : Addr} {m : N → Option V}
theorem funOf_big {a : Addr} (h : 472 ≤ a) : funOf a = none := by
  unfold funOf
  rw [List.find?_eq_none]
  intro f _ e
  have e : f.addr = a := beq_iff_eq.mp e
  have h2 : f.addr < 472 := Nat.le_of_ble_eq_true (n := f.addr + 1) (m := 472) (by cases f <;> rfl)
  rw [e] at h2
  exact absurd h2 (Nat.not_lt.mpr h)
theorem ne_cls {a : Addr} (h : 472 ≤ a) : a ≠ clsWire ∧ a ≠ clsAtom ∧ a ≠ clsFault := ⟨fun e => by rw [e] at h; exact absurd h (by decide), fun e => by rw [e] at h; exact absurd h (by decide), fun e => by rw [e] at h; exact absurd h (by decide)⟩
theorem callV_meth {b w : Addr} {f : F} {args : List V} (hb : 472 ≤ b) (hs : σ b = some (.meth f.addr w)) (hf : isP f = true) (h : C f (.ref w :: args) σ Q X) : callV C (.ref b) args σ Q X := by
  obtain ⟨n1, n2, n3⟩ := ne_cls hb
  unfold callV
  dsimp only
  rw [funOf_big hb]
  dsimp only
  rw [if_neg n1, if_neg n2, if_neg n3, hs]
  exact ⟨f, addr_fun f hf, h⟩
theorem e_tup {es : List IE} (h : WEs C cl es L σ (fun vs σ => ∀ a, σ a = none → 472 ≤ a → Q (.ref a) (σ.set a (.tup vs))) X) : WE C cl (.tup es) L σ Q X := by
  exact h
theorem w_atomTold {a d : Addr} {b : List UInt8} (hn : 1 ≤ n) (ha : σ a = some (.inst clsAtom d)) (hd : σ d = some (.ns false (mk [(nText, .str (strOf b))]))) (q : ∀ r τ, σ.le τ → IsTd τ r (.atom b) → Q r τ) : WC n .atomTold [.ref a] σ Q X := by
  refine enterR [(nSelf, .ref a)] (by walk_at "w a") rfl rfl rfl fun L hL => ?_
  have aL : a ≠ L := by first | exact neN ha hL | exact fun z => by rw [z, hL] at ha; cases ha
  have dL : d ≠ L := by first | exact neN hd hL | exact fun z => by rw [z, hL] at hd; cases hd
  (walk_at "w s0")
  refine e_tup ?_
  (walk_at "w v"; walk_at "w e"; walk_at "w v"; walk_at "w e"; walk_at "w e")
  refine ⟨_, by rw [St.set_same]; rfl, .str (strOf b), ?_, rfl, ?_⟩
  · unfold attrOf
    dsimp only
    rw [St.set_ne _ _ aL, ha]
    dsimp only
    rw [St.set_ne _ _ dL, hd]
    rfl
  (walk_at "w v")
  intro r hr _
  have rL : r ≠ L := fun z => by rw [z, St.set_same] at hr; cases hr
  refine ⟨_, St.le_refl _, q _ _ ?_ (.atom ?_)⟩
  · rw [St.del_set_ne _ _ rL, St.del_set _ _ hL]
    exact St.le_set (by rw [St.set_ne _ _ rL] at hr; exact hr)
  · rw [St.del_ne _ rL, St.set_same]
/-- the tests of told_value -/
theorem e_isinst {c : IE} {v cv : V} {r : Bool} (hL : σ L = some (.ns true m)) (hm : m nValue = some v) (hc : ∀ (Q : Kt), Q cv σ → WE C cl c L σ Q X) (hr : Isi σ v cv r) (q : Q (.bool r) σ) : WE C cl (.call (blE "isinstance") [Mine.L nValue, c]) L σ Q X := by
  (walk_at "w e"; walk_at "w e"; walk_at "w v")
  refine f_loc hL hm ?_
  (walk_at "w v")
  refine hc _ ?_
  (walk_at "w v")
  exact ⟨r, hr, q⟩
theorem Fp.retT {ρ : St} {v : V} {t : T} (J : Fp σ₀ σ L m) (hv : IsTd (σ.del L) v t) (h : ∀ r τ, σ₀.le τ → IsTd τ r t → Q r τ) : ∃ ρ, ρ.le (σ.del L) ∧ Q v ρ := ⟨_, St.le_refl _, h _ _ J.le hv⟩
end
end Mine
-- D11
namespace Mine
open IE IS N
section
variable {n : Nat} {σ σ₀ : St} {Q : Kt} {X : Xt} {C : Ct} {cl : Option Addr} {L : Addr} {m : N → Option V}
theorem ret_tup {r : Addr} {vs : List V} (J : Fp σ₀ σ L m) (hr : σ r = none) : ((σ.set r (.tup vs)).del L) r = some (.tup vs) := by
  rw [St.del_ne _ (by first | exact neN hr J.fr | exact fun z => by rw [z, J.fr] at hr; cases hr), St.set_same]
theorem isi_lb {a : Addr} {vs : List V} (h : σ a = some (.list vs)) : Isi σ (.ref a) (.type "bytes") false := .lb h
theorem w_told : ∀ (k : Nat) {n : Nat} {σ : St} {Q : Kt} {X : Xt} {v : V} {t : T}, dp k t = true → k + 3 ≤ n → IsVal σ v t → (∀ r τ, σ.le τ → IsTd τ r t → Q r τ) → WC n .toldValue [v] σ Q X := by
  intro k
  induction k using Nat.strongRecOn with
  | ind k ih => ?_
  intro n σ Q X v t hd hn hv q
  refine enterR [(nValue, v)] (by walk_at "w a") rfl rfl rfl fun L hL => ?_
  have J := Fp.enter (m := mk [(nValue, v)]) hL
  have hv1 := hv.mono (show σ.le (σ.set L (.ns true (mk [(nValue, v)]))) from St.le_set hL)
  generalize σ.set L (.ns true (mk [(nValue, v)])) = σ₁ at J hv1
  have ml : (mk [(nValue, v)]) nValue = some v := rfl
  (walk_at "w s0"; walk_at "w e")
  cases hv with
  | nil =>
    refine f_loc J.fr ml ⟨_, rfl, fun _ => ?_, fun h => by cases h⟩
    (walk_at "w s")
    refine e_tup ?_
    (walk_at "w v"; walk_at "w e"; walk_at "w v")
    exact fun r hr _ => (J.new hr).retT (ρ := σ) (.nil (ret_tup J hr)) q
  | str b =>
    refine f_loc J.fr ml ⟨_, rfl, (fun h => by cases h), fun _ => ?_⟩
    (walk_at "w n"; walk_at "w s")
    refine e_isinst (cv := .ref clsAtom) J.fr ml (fun Q h => h) .ba (.mk (fun h => by cases h) (fun _ => ?_))
    (walk_at "w n"; walk_at "w s")
    refine e_isinst (cv := .type "bytes") J.fr ml (fun Q h => h) .bb (.mk (fun _ => ?_) (fun h => by cases h))
    (walk_at "w s")
    refine e_tup ?_
    (walk_at "w v"; walk_at "w e"; walk_at "w v")
    refine f_loc J.fr ml ?_
    (walk_at "w v")
    exact fun r hr _ => (J.new hr).retT (ρ := σ) (.str (ret_tup J hr)) q
  | num i =>
    refine f_loc J.fr ml ⟨_, rfl, (fun h => by cases h), fun _ => ?_⟩
    (walk_at "w n"; walk_at "w s")
    refine e_isinst (cv := .ref clsAtom) J.fr ml (fun Q h => h) .ia (.mk (fun h => by cases h) (fun _ => ?_))
    (walk_at "w n"; walk_at "w s")
    refine e_isinst (cv := .type "bytes") J.fr ml (fun Q h => h) .ib (.mk (fun h => by cases h) (fun _ => ?_))
    (walk_at "w n"; walk_at "w s"; walk_at "w e"; walk_at "w e"; walk_at "w v")
    refine f_loc J.fr ml ?_
    (walk_at "w v")
    refine e_tup ?_
    (walk_at "w v"; walk_at "w e"; walk_at "w v"; walk_at "w e"; walk_at "w v")
    intro c hc h472
    (walk_at "w v")
    refine ⟨false, ?_, _, rfl, (fun h => by cases h), fun _ => ?_⟩
    · exact .il (St.set_same ..)
    have J := J.new (o := .tup [.type "list", .type "tuple"]) hc
    (walk_at "w n"; walk_at "w s")
    refine e_tup ?_
    (walk_at "w v"; walk_at "w e"; walk_at "w v")
    refine f_loc J.fr ml ?_
    (walk_at "w v")
    exact fun r hr _ => (J.new hr).retT (ρ := σ) (.num (ret_tup J hr)) q
  | @atom a d b h1 h2 =>
    refine f_loc J.fr ml ⟨_, rfl, (fun h => by cases h), fun _ => ?_⟩
    (walk_at "w n"; walk_at "w s")
    have k1 := J.keep _ _ h1
    have k2 := J.keep _ _ h2
    refine e_isinst (cv := .ref clsAtom) (r := true) J.fr ml (fun Q h => h) ?_ (.mk (fun _ => ?_) (fun h => by cases h))
    · exact .own k1 k2
    (walk_at "w s"; walk_at "w e")
    refine f_loc J.fr ml ⟨a, d, _, rfl, k1, k2, ?_, ?_⟩
    · exact lean_upd (.inr (.inr rfl)) fun k h => nomatch h
    (walk_at "w v")
    refine w_atomTold (by walk_at "w a") k1 k2 fun r τ hτ ht => (J.of_le hτ).retT (ρ := σ) (ht.mono fun a vs e => ?_) q
    rw [St.del_ne _ (fun z => by rw [z, hτ _ _ J.fr] at e; cases e)]; exact e
  | @lst b vs ts h1 h2 =>
    obtain ⟨k, rfl⟩ : ∃ j, k = j + 1 := by
      cases k with
      | zero => cases hd
      | succ k => exact ⟨k, rfl⟩
    obtain ⟨hz, hall⟩ := Bool.and_eq_true_iff.mp hd
    have hz := Nat.le_of_ble_eq_true hz
    have hlen := h2.len
    refine f_loc J.fr ml ⟨_, rfl, (fun h => by cases h), fun _ => ?_⟩
    have k1 := J.keep _ _ h1
    (walk_at "w n"; walk_at "w s")
    refine e_isinst (cv := .ref clsAtom) (r := false) J.fr ml (fun Q h => h) ?_ (.mk (fun h => by cases h) (fun _ => ?_))
    · exact .la k1
    (walk_at "w n"; walk_at "w s")
    refine e_isinst (cv := .type "bytes") (r := false) J.fr ml (fun Q h => h) ?_ (.mk (fun h => by cases h) (fun _ => ?_))
    · exact isi_lb k1
    (walk_at "w n"; walk_at "w s"; walk_at "w e"; walk_at "w e"; walk_at "w v")
    refine f_loc J.fr ml ?_
    (walk_at "w v")
    refine e_tup ?_
    (walk_at "w v"; walk_at "w e"; walk_at "w v"; walk_at "w e"; walk_at "w v")
    intro c hc h472
    (walk_at "w v")
    refine ⟨true, ?_, _, rfl, (fun _ => ?_), fun h => by cases h⟩
    · exact .ll (St.set_same ..) ((St.set_ne _ _ (by first | exact neN k1 hc | exact fun z => by rw [z, hc] at k1; cases k1)).trans k1)
    have J2 := J.new (o := .tup [.type "list", .type "tuple"]) hc
    have k2 := J2.keep _ _ h1
    generalize σ₁.set c (.tup [.type "list", .type "tuple"]) = σ₂ at J2 k2
    (walk_at "w s")
    refine e_tup ?_
    (walk_at "w v"; walk_at "w e"; walk_at "w v"; walk_at "w e"; walk_at "w e"; walk_at "w v"; walk_at "w e")
    refine f_loc J2.fr ml ⟨rfl, .ref b, vs, by unfold seqOf; dsimp only; rw [k2]; dsimp only; rw [if_pos (by walk_at "w a")], fun it A D g1 g2 g3 g4 g5 g6 => ?_⟩
    have nb : b ≠ it ∧ b ≠ A ∧ b ≠ D := ⟨(by first | exact neN k2 g1 | exact fun z => by rw [z, g1] at k2; cases k2), (by first | exact neN k2 g2 | exact fun z => by rw [z, g2] at k2; cases k2), by first | exact neN k2 g3 | exact fun z => by rw [z, g3] at k2; cases k2⟩
    have hk2 : ∀ a o, σ₂ a = some o → a ≠ it ∧ a ≠ A ∧ a ≠ D := fun a o e => ⟨(by first | exact neN e g1 | exact fun z => by rw [z, g1] at e; cases e), (by first | exact neN e g2 | exact fun z => by rw [z, g2] at e; cases e), by first | exact neN e g3 | exact fun z => by rw [z, g3] at e; cases e⟩
    refine ⟨fun i acc τ => τ it = some (.iter (.ref b) i) ∧ τ A = some (.list acc) ∧ (∃ m, τ D = some (.ns true m)) ∧ σ₂.le τ ∧ acc.length = i ∧ IsTds τ acc (ts.take i), ?_, ?_⟩
    · refine ⟨?_, ?_, ⟨_, St.set_same ..⟩, fun a o e => ?_, rfl, .nil⟩
      · rw [St.set_ne _ _ g5, St.set_ne _ _ g4, St.set_same]
      · rw [St.set_ne _ _ g6, St.set_same]
      · obtain ⟨e1, e2, e3⟩ := hk2 a o e
        rw [St.set_ne _ _ e3, St.set_ne _ _ e2, St.set_ne _ _ e1]; exact e
    · rintro i acc τ ⟨t1, t2, ⟨m', t3⟩, t4, t5, t6⟩ hi
      refine ⟨(fun l e => by cases e; exact t4 _ _ k2), t1, t2, ⟨m', t3⟩, t5, fun v hv => ?_, fun hi' => ?_⟩
      · obtain ⟨t, ht, hvt⟩ := IsVals_get h2 i v hv
        have hset : setLoc (τ.set it (.iter (.ref b) (i + 1))) D nOne v = (τ.set it (.iter (.ref b) (i + 1))).set D (.ns true (upd m' nOne v)) := by
          unfold setLoc; rw [St.set_ne _ _ (Ne.symm g5), t3]
        rw [hset]
        have hle : σ₂.le ((τ.set it (.iter (.ref b) (i + 1))).set D (.ns true (upd m' nOne v))) := fun a o e => by
          obtain ⟨e1, e2, e3⟩ := hk2 a o e
          rw [St.set_ne _ _ e3, St.set_ne _ _ e1]; exact t4 a o e
        have hle0 : σ.le ((τ.set it (.iter (.ref b) (i + 1))).set D (.ns true (upd m' nOne v))) := St.le_trans J2.keep hle
        have u1 : ((τ.set it (.iter (.ref b) (i + 1))).set D (.ns true (upd m' nOne v))) it = some (.iter (.ref b) (i + 1)) := by first | exact (St.set_ne _ _ g5).trans (St.set_same ..) | rw [St.set_ne _ _ g5, St.set_same]
        have u2 : ((τ.set it (.iter (.ref b) (i + 1))).set D (.ns true (upd m' nOne v))) A = some (.list acc) := by rw [St.set_ne _ _ g6, St.set_ne _ _ (Ne.symm g4)]; exact t2
        have u3 : ((τ.set it (.iter (.ref b) (i + 1))).set D (.ns true (upd m' nOne v))) D = some (.ns true (upd m' nOne v)) := St.set_same ..
        have u4 : TupLe τ ((τ.set it (.iter (.ref b) (i + 1))).set D (.ns true (upd m' nOne v))) := fun a ws e => by
          rw [St.set_ne _ _ (by first | exact neN e t3 | exact fun z => by rw [z, t3] at e; cases e), St.set_ne _ _ (by first | exact neN e t1 | exact fun z => by rw [z, t1] at e; cases e)]; exact e
        generalize (τ.set it (.iter (.ref b) (i + 1))).set D (.ns true (upd m' nOne v)) = ρ at hle hle0 u1 u2 u3 u4
        (walk_at "w e"; walk_at "w e"; walk_at "w v")
        refine f_loc u3 (by show upd m' nOne v nOne = some v; unfold upd; rw [if_pos rfl]) ?_
        (walk_at "w v")
        have hdt : dp k t = true := List.all_eq_true.mp hall t (List.mem_of_getElem? ht)
        refine to_f rfl (ih k (by walk_at "w a") hdt (by walk_at "w a") (hvt.mono hle0) fun r τ' hτ hr => ⟨hτ _ _ u2, _, St.le_refl _, ?_⟩)
        have hA := hτ _ _ u2
        refine ⟨by rw [St.set_ne _ _ g4]; exact hτ _ _ u1, St.set_same .., ⟨_, by rw [St.set_ne _ _ (Ne.symm g6)]; exact hτ _ _ u3⟩, fun a o e => ?_, by rw [List.length_append, t5]; rfl, ?_⟩
        · rw [St.set_ne _ _ (hk2 a o e).2.1]; exact hτ _ _ (hle a o e)
        · have hA' : TupLe τ' (τ'.set A (.list (acc ++ [r]))) := fun a ws e => by
            rw [St.set_ne _ _ (by first | exact neN e hA | exact fun z => by rw [z, hA] at e; cases e)]; exact e
          have et : ts.take (i + 1) = ts.take i ++ [t] := by rw [List.take_add_one, ht]; rfl
          rw [et]
          exact IsTds.snoc (t6.mono fun a ws e => hA' _ _ (hτ _ _ (u4 _ _ e))) (hr.mono hA')
      · rw [hlen] at hi'
        subst hi'
        rw [List.take_length] at t6
        have hle3 : σ₂.le ((τ.del it).del D) := fun a o e => by
          obtain ⟨e1, e2, e3⟩ := hk2 a o e
          rw [St.del_ne _ e3, St.del_ne _ e1]; exact t4 a o e
        have J3 := J2.of_le hle3
        have A3 : ((τ.del it).del D) A = some (.list acc) := by rw [St.del_ne _ g6, St.del_ne _ (Ne.symm g4)]; exact t2
        have T3 : TupLe τ ((τ.del it).del D) := fun a ws e => by
          rw [St.del_ne _ (by first | exact neN e t3 | exact fun z => by rw [z, t3] at e; cases e), St.del_ne _ (by first | exact neN e t1 | exact fun z => by rw [z, t1] at e; cases e)]; exact e
        generalize (τ.del it).del D = τ₃ at J3 A3 T3
        (walk_at "w v")
        refine ⟨acc, A3, by lia, fun c2 hc2 => ?_⟩
        (walk_at "w v")
        intro r hr _
        have J4 := J3.new (o := .tup acc) hc2
        refine (J4.new hr).retT (ρ := σ) (.lst (c := c2) (vs := acc) (ret_tup J4 hr) ?_ (t6.mono fun a ws e => ?_)) q
        · have n1 : c2 ≠ L := by first | exact neN hc2 J3.fr | exact fun z => by rw [z, J3.fr] at hc2; cases hc2
          have n2 : c2 ≠ r := fun z => by rw [← z, St.set_same] at hr; cases hr
          rw [St.del_ne _ n1, St.set_ne _ _ n2, St.set_same]
        · have e3 := T3 _ _ e
          have n1 : a ≠ L := by first | exact neN e3 J3.fr | exact fun z => by rw [z, J3.fr] at e3; cases e3
          have n2 : a ≠ c2 := by first | exact neN e3 hc2 | exact fun z => by rw [z, hc2] at e3; cases e3
          have n3 : a ≠ r := fun z => by
            rw [← z, St.set_ne _ _ n2, e3] at hr; cases hr
          rw [St.del_ne _ n1, St.set_ne _ _ n3, St.set_ne _ _ n2]; exact e3
end
end Mine
-- D12
namespace Mine
open IE IS N
noncomputable def rdNum (data : List UInt8) (p : Nat) : R Int := let e := runTo isFg data p; if 1 ≤ e - p ∧ e - p ≤ 19 then .ok (nof ((data.take e).drop p)) e else .bad p
noncomputable def rdNs (data : List UInt8) : Nat → Nat → List Int → R (List Int)
  | 0, p, acc => .bad p
  | f + 1, p, acc => if has data p [41] then .ok acc (p + 1) else
    if acc.isEmpty = false ∧ has data p [32] = false then .bad p else
    match rdNum data (if acc.isEmpty then p else p + 1) with
    | .bad i => .bad i
    | .ok t q => rdNs data f q (acc ++ [t])
noncomputable def rdNL (data : List UInt8) (p : Nat) : R (List Int) := if has data p [40] then rdNs data (data.length - p) (p + 1) [] else .bad p
theorem rdNum_le {data : List UInt8} {p q : Nat} {i : Int} (hp : p ≤ data.length) (h : rdNum data p = .ok i q) : q ≤ data.length ∧ p < q := by
  have := runTo_le isFg hp
  unfold rdNum at h
  dsimp only at h
  split at h
  · cases h; lia
  · cases h
section
variable {n : Nat} {σ σ₀ : St} {Q : Kt} {X : Xt} {C : Ct} {cl : Option Addr} {L w d : Addr} {m : N → Option V} {data : List UInt8} {p : Nat}
noncomputable def RI (Q : Kt) (X : Xt) (σ : St) (d : Addr) (data : List UInt8) : R Int → Prop
  | .ok i q => Q (.int i) (σ.set d (wns data (q : Int)))
  | .bad i => Fault X σ d i
theorem w_number' (hn : 3 ≤ n) (H : W0 σ w d data p) (q : RI Q X σ d data (rdNum data p)) : WC n .wNumber [.ref w] σ Q X := by
  refine w_number hn H ?_
  unfold rdNum at q
  dsimp only at q ⊢
  split
  · rename_i h; rw [if_pos h] at q; exact q
  · rename_i h; rw [if_neg h] at q; exact q
/-- the reading of a list of numbers -/
noncomputable def RNs (Q : Kt) (X : Xt) (σ : St) (d : Addr) (data : List UInt8) : R (List Int) → Prop
  | .ok l q => ∀ a τ, (∀ b o, b ≠ d → σ b = some o → τ b = some o) → τ d = some (wns data (q : Int)) → τ a = some (.list (l.map V.int)) → σ a = none → Q (.ref a) τ
  | .bad i => Fault X σ d i
theorem w_listOf {b : Addr} (hn : 5 ≤ n) (H : W0 σ w d data p) (hb : 472 ≤ b) (hs : σ b = some (.meth F.wNumber.addr w)) (q : RNs Q X σ d data (rdNL data p)) : WC n .wListOf [.ref w, .ref b] σ Q X := by
  refine enterR [(nRead, .ref b), (nSelf, .ref w)] (by walk_at "w a") rfl rfl rfl fun L hL => ?_
  have J := In.enter (m := mk [(nRead, .ref b), (nSelf, .ref w)]) H hL rfl
  generalize σ.set L (.ns true (mk [(nRead, .ref b), (nSelf, .ref w)])) = σ₁ at J
  have hl := H.len
  have hle := H.le
  have bd : b ≠ d := by first | exact neN hs H.d | exact fun z => by rw [z, H.d] at hs; cases hs
  unfold rdNL at q
  (walk_at "w s0")
  refine e_sm J rfl ?_
  (walk_at "w v"; walk_at "w e"; walk_at "w v"; walk_at "w e"; walk_at "w v")
  refine w_need (by walk_at "w a") J.W (by decide) (fun h => ⟨rfl, ?_⟩) fun h => ?_
  rotate_left
  · rw [h] at q; exact Fault.in q J.F
  rw [if_pos h] at q
  generalize hr : rdNs data (data.length - p) (p + 1) [] = r at q
  have hp1 : p + 1 ≤ data.length := has_le h hle
  have J : In σ (σ₁.set d (wns data ((p + 1 : Nat) : Int))) L w d data (p + 1) _ := J.move hp1
  have ep : ((p + ([40] : List UInt8).length : Nat) : Int) = ((p + 1 : Nat) : Int) := rfl
  rw [ep]
  generalize σ₁.set d (wns data ((p + 1 : Nat) : Int)) = σ₂ at J
  (walk_at "w s"; walk_at "w e"; walk_at "w v")
  refine fun a ha => (.mk ((J.new ha).bset) ?_)
  have haL : a ≠ L := by first | exact neN ha J.F.fr | exact neS J.F.fr ha | exact fun z => by subst z; rw [J.F.fr] at ha; cases ha
  have had : a ≠ d := by first | exact neN ha J.W.d | exact neS J.W.d ha | exact fun z => by subst z; rw [J.W.d] at ha; cases ha
  have haw : a ≠ w := by first | exact neN ha J.W.w | exact neS J.W.w ha | exact fun z => by subst z; rw [J.W.w] at ha; cases ha
  have ha0 : σ a = none := by
    cases e : σ a with
    | none => rfl
    | some o => have := J.F.keep a o had e; rw [ha] at this; cases this
  have J := (J.new (o := .list []) ha).asg (x := nFound) (v := .ref a) (by decide)
  have hA : (setLoc (σ₂.set a (.list [])) L nFound (.ref a)) a = some (.list []) := by
    rw [setLoc_ne haL, St.set_same]
  generalize hm : upd (mk [(nRead, V.ref b), (nSelf, V.ref w)]) nFound (.ref a) = m at J
  generalize setLoc (σ₂.set a (.list [])) L nFound (.ref a) = σ₃ at J hA
  have m1 : m nFound = some (.ref a) := by subst hm; rfl
  have m2 : m nRead = some (.ref b) := by subst hm; rfl
  obtain ⟨f, hf⟩ : ∃ f, data.length - p = f + 1 := ⟨data.length - p - 1, by lia⟩
  rw [hf] at hr
  -- the end
  have done : ∀ (p' : Nat) (τ : St) (ts : List Int), In σ τ L w d data p' m → τ a = some (.list (ts.map V.int)) → r = .ok ts p' → ∀ Qt : Ft, (∀ v ρ, (∃ ρ', ρ'.le (ρ.del L) ∧ Q v ρ') → Qt (.ret v) ρ) → WS (WC (n - 1)) none [.ret (Mine.L nFound)] L τ Qt (fun e τ => ∃ ρ, ρ.le (τ.del L) ∧ X e ρ) := by
    intro p' τ ts J hA hz Qt nx
    rw [hz] at q
    (walk_at "w s")
    refine J.loc m1 (nx _ _ ⟨_, St.le_refl _, q a _ (fun b o hb h => ?_) ?_ ?_ ha0⟩)
    · rw [St.del_ne _ (by first | exact neN h J.F.L0 | exact fun z => by rw [z, J.F.L0] at h; cases h)]; exact J.F.keep b o hb h
    · rw [St.del_ne _ J.F.ne]; exact J.W.d
    · rw [St.del_ne _ haL]; exact hA
  -- one number
  have one : ∀ (p' : Nat) (τ : St) (ts : List Int) (f : Nat) (Qt : Ft), In σ τ L w d data p' m → τ a = some (.list (ts.map V.int)) → ts.length ≤ p' → data.length < p' + (f + 1) →
      (match rdNum data p' with | .bad i => R.bad i | .ok t q => rdNs data f q (ts ++ [t])) = r →
      (∀ ρ p' ts, In σ ρ L w d data p' m → ρ a = some (.list (ts.map V.int)) → ts.length ≤ p' → data.length < p' + f → ts ≠ [] → rdNs data f p' ts = r → Qt .next ρ) →
      WS1 (WC (n - 1)) none (.expr (.bmeth (Mine.L nFound) (S "append") [.call (Mine.L nRead) []])) L τ Qt (fun e τ => ∃ ρ, ρ.le (τ.del L) ∧ X e ρ) := by
    intro p' τ ts f Qt J hA hts hf hr nx
    refine y_expr (u_bmeth ?_)
    refine J.loc m1 ⟨"list.append", by unfold methId; dsimp only; rw [if_pos rfl, hA], ?_⟩
    (walk_at "w v"; walk_at "w e")
    refine J.loc m2 ?_
    (walk_at "w v")
    refine callV_meth hb (J.F.keep _ _ bd hs) rfl (w_number' (by walk_at "w a") J.W ?_)
    cases hz : rdNum data p' with
    | bad i => rw [hz] at hr; rw [← hr] at q; exact Fault.in q J.F
    | ok t k =>
      rw [hz] at hr
      dsimp only at hr
      have hk := rdNum_le J.W.le hz
      have K := J.move hk.1
      have hA' : (τ.set d (wns data (k : Int))) a = some (.list (ts.map V.int)) := by first | exact (St.set_ne _ _ had).trans hA | (rw [St.set_ne _ _ had]; exact hA)
      unfold RI
      refine ⟨_, hA', by rw [List.length_map]; lia, rfl, ?_⟩
      refine nx _ k (ts ++ [t]) (K.put ha0 haw had haL) ?_ (by rw [List.length_append]; show ts.length + 1 ≤ k; lia) (by walk_at "w a") (by simp) hr
      rw [St.set_same, List.map_append]; rfl
  (walk_at "w s")
  refine e_sm J rfl ?_
  (walk_at "w v"; walk_at "w e"; walk_at "w v")
  unfold rdNs at hr
  refine w_skip (by walk_at "w a") J.W (by decide) (fun h => (.mk (fun _ => ?_) (fun z => by cases z))) fun h => (.mk (fun z => by cases z) (fun _ => ?_))
  · rw [if_pos h] at hr
    exact done (p + 1 + 1) _ [] (J.move (has_le h hp1)) (by first | exact (St.set_ne _ _ had).trans hA | (rw [St.set_ne _ _ had]; exact hA)) hr.symm _ fun v ρ h => h
  rw [if_neg (by rw [h]; decide), if_neg (fun z => absurd z.1 (by decide))] at hr
  (walk_at "w n"; walk_at "w n")
  refine one (p + 1) _ [] f _ J hA (Nat.zero_le _) (by walk_at "w a") hr fun ρ p' ts J hA hts hf hne hr => ?_
  (walk_at "w s")
  refine ⟨fun f τ => ∃ p' ts, In σ τ L w d data p' m ∧ τ a = some (.list (ts.map V.int)) ∧ ts.length ≤ p' ∧ data.length < p' + f ∧ ts ≠ [] ∧ rdNs data f p' ts = r, ⟨f, p', ts, J, hA, hts, hf, hne, hr⟩, fun f τ hI => ?_⟩
  clear hf hr hts hA hne
  obtain ⟨p', ts, J, hA, hts, hf, hne, hr⟩ := hI
  have hle' := J.W.le
  obtain ⟨f, rfl⟩ : ∃ j, f = j + 1 := ⟨f - 1, by lia⟩
  have hemp : ts.isEmpty = false := by cases ts <;> first | rfl | exact absurd rfl hne
  unfold rdNs at hr
  (walk_at "w e")
  refine e_sm J rfl ?_
  (walk_at "w v"; walk_at "w e"; walk_at "w v")
  refine w_skip (by walk_at "w a") J.W (by decide) (fun h => ⟨_, rfl, _, rfl, (fun z => by cases z), fun _ => ?_⟩) fun h => ⟨_, rfl, _, rfl, (fun _ => ?_), fun z => by cases z⟩
  · rw [if_pos h] at hr
    exact done (p' + 1) _ ts (J.move (has_le h hle')) (by first | exact (St.set_ne _ _ had).trans hA | (rw [St.set_ne _ _ had]; exact hA)) hr.symm _ fun v ρ h => h
  rw [if_neg (by rw [h]; decide), hemp] at hr
  (walk_at "w s")
  refine e_sm J rfl ?_
  (walk_at "w v")
  refine w_space (by walk_at "w a") J.W (fun h32 => ⟨rfl, ?_⟩) fun h32 => ?_
  · rw [if_neg (fun z => by rw [h32] at z; exact absurd z.2 (by decide))] at hr
    have J : In σ (τ.set d (wns data ((p' + 1 : Nat) : Int))) L w d data (p' + 1) m := J.move (has_le h32 hle')
    (walk_at "w n")
    refine one (p' + 1) _ ts f _ J (by first | exact (St.set_ne _ _ had).trans hA | (rw [St.set_ne _ _ had]; exact hA)) (by walk_at "w a") (by walk_at "w a") hr fun ρ p' ts J hA hts hf hne hr => ?_
    (walk_at "w n")
    exact ⟨f, ρ, by lia, St.le_refl _, p', ts, J, hA, hts, hf, hne, hr⟩
  · rw [if_pos ⟨rfl, h32⟩] at hr
    rw [← hr] at q
    exact Fault.in q J.F
end
end Mine
-- D13
namespace Mine
open IE IS N
section
variable {n : Nat} {σ σ₀ : St} {Q : Kt} {X : Xt} {C : Ct} {cl : Option Addr} {L : Addr} {m : N → Option V} {data : List UInt8} {p : Nat}
/-! the law's own functions -/
theorem w_take {a : Addr} {x k : Int} (hn : 1 ≤ n) (ha : σ a = some (.list [.int x])) (hx : 0 ≤ x) (h1 : 0 < k) (h2 : k < 2 ^ 20) (q : Q (.int (x % k)) (σ.set a (.list [.int (x / k)]))) : WC n .lTake [.ref a, .int k] σ Q X := by
  refine enterR [(nMany, .int k), (nBag, .ref a)] (by walk_at "w a") rfl rfl rfl fun L hL => ?_
  have aL : a ≠ L := by first | exact neN ha hL | exact fun z => by rw [z, hL] at ha; cases ha
  have J := Fp.enter (m := mk [(nMany, .int k), (nBag, .ref a)]) hL
  have ha1 : (σ.set L (.ns true (mk [(nMany, .int k), (nBag, .ref a)]))) a = some (.list [.int x]) := by first | exact (St.set_ne _ _ aL).trans ha | (rw [St.set_ne _ _ aL]; exact ha)
  (walk_at "w s0"; walk_at "w e"; walk_at "w e")
  refine f_loc J.fr rfl ?_
  (walk_at "w e")
  refine ⟨_, _, .inl ha1, by decide, by decide, rfl, f_loc J.fr rfl ⟨h1, J.bset, ?_⟩⟩
  have J := J.asg (x := nWorth) (v := .int (x % k))
  have ha2 : (setLoc (σ.set L (.ns true (mk [(nMany, .int k), (nBag, .ref a)]))) L nWorth (.int (x % k))) a = some (.list [.int x]) := by first | exact (setLoc_ne aL).trans ha1 | (rw [setLoc_ne aL]; exact ha1)
  have e2 : setLoc (σ.set L (.ns true (mk [(nMany, .int k), (nBag, .ref a)]))) L nWorth (.int (x % k)) = σ.set L (.ns true (upd (mk [(nMany, .int k), (nBag, .ref a)]) nWorth (.int (x % k)))) := setLoc_ns
  rw [e2] at J ha2 ⊢
  (walk_at "w s"; walk_at "w e"; walk_at "w e")
  refine f_loc J.fr rfl ?_
  (walk_at "w e")
  refine ⟨_, _, .inl ha2, by decide, by decide, rfl, f_loc J.fr rfl ⟨⟨hx, h1, h2⟩, f_loc J.fr rfl ?_⟩⟩
  (walk_at "w e")
  refine ⟨a, 0, _, rfl, rfl, ha2, by decide, (by show (0 : Int) < 1; decide), (by show 1 ≤ 1000000; decide), ?_⟩
  (walk_at "w s")
  refine f_loc (m := upd (mk [(nMany, .int k), (nBag, .ref a)]) nWorth (.int (x % k))) ?_ rfl (fin ?_ q)
  · rw [St.set_ne _ _ aL.symm, St.set_same]
  · rw [St.del_set_ne _ _ aL, St.del_set _ _ hL]; rfl
theorem e_dlen (J : Fp σ₀ σ L m) (h : m nData = some (.bytes data)) (hl : data.length ≤ 1000000) (q : Q (.int data.length) σ) : WE C cl (lenE (Mine.L nData)) L σ Q X := e_lenL J.fr h hl q
theorem e_dl (J : Fp σ₀ σ L m) (h : m nData = some (.bytes data)) (hl : data.length ≤ 1000000) {x : N} (hx : m x = some (.int p)) (hp : p < data.length) (q : Q (.int (cod data p)) σ) : WE C cl (dl (Mine.L x)) L σ Q X := by
  (walk_at "w e")
  exact f_loc J.fr h (f_loc J.fr hx ⟨⟨by lia, by lia, by lia⟩, q⟩)
/-- a run of codes, by the law's own loop -/
theorem w_lrun {P : Int → Bool} {barred : List UInt8} (hn : 1 ≤ n) (hl : data.length ≤ 100000) (hp : p ≤ data.length) (hb : barred.length ≤ 1000) (hP : ∀ c, 0 ≤ c → c ≤ 255 → P c = (isPr c && !decide (c.toNat.toUInt8 ∈ barred)))
    (q : Q (.int (runTo P data p : Nat)) σ) : WC n .lRun [.bytes data, .int p, .bytes barred] σ Q X := by
  refine enterR [(nBarred, .bytes barred), (nAt, .int p), (nData, .bytes data)] (by walk_at "w a") rfl rfl rfl fun L hL => ?_
  have J := Fp.enter (m := mk [(nBarred, .bytes barred), (nAt, .int p), (nData, .bytes data)]) hL
  generalize σ.set L (.ns true (mk [(nBarred, .bytes barred), (nAt, .int p), (nData, .bytes data)])) = σ₁ at J
  (walk_at "w s0")
  refine ⟨fun k τ => ∃ p' m, Fp σ τ L m ∧ m nData = some (.bytes data) ∧ m nBarred = some (.bytes barred) ∧ m nAt = some (.int (p' : Nat)) ∧ p' ≤ data.length ∧ runTo P data p' = runTo P data p ∧ k = data.length - p',
    ⟨_, p, _, J, rfl, rfl, rfl, hp, rfl, rfl⟩, fun k τ hI => ?_⟩
  obtain ⟨p', m, J, m1, m2, m3, hp', hr, hk⟩ := hI
  have out : (p' < data.length → P (cod data p') = false) → WS (WC (n - 1)) none [.ret (Mine.L nAt)] L τ (fun fl τ => ∃ ρ, ρ.le (τ.del L) ∧ Q (retV fl) ρ) (fun e τ => ∃ ρ, ρ.le (τ.del L) ∧ X e ρ) := fun h => by
    have he : runTo P data p = p' := by
      rw [← hr]
      rcases Nat.lt_or_ge p' data.length with h1 | h1
      · exact runTo_stop h1 (h h1)
      · exact runTo_end h1
    (walk_at "w s")
    refine f_loc J.fr m3 (J.ret ?_)
    rw [he] at q; exact q
  (walk_at "w e"; walk_at "w b"; walk_at "w e")
  refine f_loc J.fr m3 (e_dlen J m1 (by walk_at "w a") ⟨_, rfl, fun h => ?_, fun h => ⟨_, rfl, fun e => absurd e h, fun _ => out fun h1 => absurd (decide_eq_true (show (p' : Int) < data.length by lia)) h⟩⟩)
  have hlt : p' < data.length := by have := of_decide_eq_true h; lia
  have c0 := cod_lo (data := data) p'
  have c1 := cod_hi (data := data) p'
  have hPc := hP _ c0 c1
  (walk_at "w b"; walk_at "w e"; walk_at "w e")
  refine e_dl J m1 (by walk_at "w a") m3 hlt ?_
  refine ⟨fun h33 => ?_, fun h33 => ⟨_, rfl, (fun e => by cases e), fun _ => ⟨_, rfl, (fun e => by cases e), fun _ => out fun _ => ?_⟩⟩⟩
  rotate_left
  · rw [hPc]
    have : isPr (cod data p') = false := by unfold isPr; have := of_decide_eq_false h33; exact decide_eq_false (fun z => this z.1)
    rw [this]; rfl
  (walk_at "w e")
  refine ⟨_, rfl, fun h126 => ?_, fun h126 => ⟨_, rfl, fun e => absurd e h126, fun _ => out fun _ => ?_⟩⟩
  rotate_left
  · rw [hPc]
    have : isPr (cod data p') = false := by unfold isPr; exact decide_eq_false (fun z => h126 (decide_eq_true z.2))
    rw [this]; rfl
  have hpr : isPr (cod data p') = true := decide_eq_true ⟨of_decide_eq_true h33, of_decide_eq_true h126⟩
  (walk_at "w b"; walk_at "w e")
  refine e_dl J m1 (by walk_at "w a") m3 hlt (f_loc J.fr m2 ⟨⟨c0, c1, hb⟩, _, rfl, fun hin => ?_, fun hin => ⟨_, rfl, fun e => absurd e hin, fun _ => out fun _ => ?_⟩⟩)
  rotate_left
  · rw [hPc, hpr, Bool.true_and]
    cases z : (!decide ((cod data p').toNat.toUInt8 ∈ barred)) with
    | false => rfl
    | true => exact absurd z hin
  (walk_at "w b")
  refine ⟨_, rfl, fun _ => ?_, fun e => by cases e⟩
  have hPt : P (cod data p') = true := by rw [hPc, hpr, Bool.true_and]; exact hin
  (walk_at "w s"; walk_at "w e")
  refine f_loc J.fr m3 ?_
  (walk_at "w e")
  refine (.mk J.bset ?_)
  (walk_at "w n")
  exact ⟨data.length - (p' + 1), _, by lia, St.le_refl _, p' + 1, _, J.asg (x := nAt) (v := .int ((p' + 1 : Nat) : Int)), m1, m2, rfl, by lia, by rw [← runTo_step hlt hPt, hr], rfl⟩
theorem w_lfig (hn : 1 ≤ n) (hl : data.length ≤ 100000) (hp : p ≤ data.length) (q : Q (.int (runTo isFg data p : Nat)) σ) : WC n .lFigures [.bytes data, .int p] σ Q X := by
  refine enterR [(nAt, .int p), (nData, .bytes data)] (by walk_at "w a") rfl rfl rfl fun L hL => ?_
  have J := Fp.enter (m := mk [(nAt, .int p), (nData, .bytes data)]) hL
  generalize σ.set L (.ns true (mk [(nAt, .int p), (nData, .bytes data)])) = σ₁ at J
  (walk_at "w s0")
  refine f_loc J.fr rfl ⟨J.bset, ?_⟩
  have J := J.asg (x := nEnd) (v := .int p)
  (walk_at "w s")
  refine ⟨fun k τ => ∃ p' m, Fp σ τ L m ∧ m nData = some (.bytes data) ∧ m nEnd = some (.int (p' : Nat)) ∧ p' ≤ data.length ∧ runTo isFg data p' = runTo isFg data p ∧ k = data.length - p',
    ⟨_, p, _, J, rfl, rfl, hp, rfl, rfl⟩, fun k τ hI => ?_⟩
  clear J
  obtain ⟨p', m, J, m1, m3, hp', hr, hk⟩ := hI
  have out : (p' < data.length → isFg (cod data p') = false) → WS (WC (n - 1)) none [.ret (Mine.L nEnd)] L τ (fun fl τ => ∃ ρ, ρ.le (τ.del L) ∧ Q (retV fl) ρ) (fun e τ => ∃ ρ, ρ.le (τ.del L) ∧ X e ρ) := fun h => by
    have he : runTo isFg data p = p' := by
      rw [← hr]
      rcases Nat.lt_or_ge p' data.length with h1 | h1
      · exact runTo_stop h1 (h h1)
      · exact runTo_end h1
    (walk_at "w s")
    refine f_loc J.fr m3 (J.ret ?_)
    rw [he] at q; exact q
  (walk_at "w e"; walk_at "w b"; walk_at "w e")
  refine f_loc J.fr m3 (e_dlen J m1 (by walk_at "w a") (.mk (fun h => ?_) (fun h => (.mk (fun e => absurd e h) (fun _ => out fun h1 => absurd (decide_eq_true (show (p' : Int) < data.length by lia)) h)))))
  have hlt : p' < data.length := by have := of_decide_eq_true h; lia
  (walk_at "w b"; walk_at "w e"; walk_at "w e")
  refine e_dl J m1 (by walk_at "w a") m3 hlt ?_
  refine ⟨fun h33 => ?_, fun h33 => (.mk (fun e => by cases e) (fun _ => (.mk (fun e => by cases e) (fun _ => out fun _ => ?_))))⟩
  rotate_left
  · unfold isFg; have := of_decide_eq_false h33; exact decide_eq_false (fun z => this z.1)
  (walk_at "w e")
  refine (.mk (fun h126 => ?_) (fun h126 => (.mk (fun e => absurd e h126) (fun _ => out fun _ => ?_))))
  rotate_left
  · unfold isFg; exact decide_eq_false (fun z => h126 (decide_eq_true z.2))
  have hPt : isFg (cod data p') = true := decide_eq_true ⟨of_decide_eq_true h33, of_decide_eq_true h126⟩
  (walk_at "w b")
  refine (.mk (fun _ => ?_) (fun e => by cases e))
  (walk_at "w s"; walk_at "w e")
  refine f_loc J.fr m3 ?_
  (walk_at "w e")
  refine (.mk J.bset ?_)
  (walk_at "w n")
  exact ⟨data.length - (p' + 1), _, by lia, St.le_refl _, p' + 1, _, J.asg (x := nEnd) (v := .int ((p' + 1 : Nat) : Int)), m1, rfl, by lia, by rw [← runTo_step hlt hPt, hr], rfl⟩
theorem e_ch (J : Fp σ₀ σ L m) (h : m nData = some (.bytes data)) (hl : data.length ≤ 1000000) {x y : N} {i j : Nat} (hx : m x = some (.int i)) (hy : m y = some (.int j)) (q : Q (.bytes ((data.take j).drop i)) σ) : WE C cl (ch (Mine.L x) (Mine.L y)) L σ Q X := by
  (walk_at "w e")
  refine f_loc J.fr h ?_
  (walk_at "w o")
  refine f_loc J.fr hx ?_
  (walk_at "w o")
  exact f_loc J.fr hy ⟨⟨by lia, by lia, by lia⟩, q⟩
theorem e_ch1 (J : Fp σ₀ σ L m) (h : m nData = some (.bytes data)) (hl : data.length ≤ 1000000) {x : N} {i : Nat} (hx : m x = some (.int i)) (q : Q (.bytes ((data.take (i + 1)).drop i)) σ) : WE C cl (ch (Mine.L x) (plus1 (Mine.L x))) L σ Q X := by
  (walk_at "w e")
  refine f_loc J.fr h ?_
  (walk_at "w o")
  refine f_loc J.fr hx ?_
  (walk_at "w o"; walk_at "w e")
  refine f_loc J.fr hx ?_
  (walk_at "w e")
  exact ⟨⟨by lia, by lia, by lia⟩, q⟩
/-- `data[x:y].decode('ascii')` -/
theorem e_dec (J : Fp σ₀ σ L m) (h : m nData = some (.bytes data)) (hl : data.length ≤ 1000000) {x y : N} {i j : Nat} (hx : m x = some (.int i)) (hy : m y = some (.int j)) (ha : ∀ c ∈ (data.take j).drop i, c.toNat < 128)
    (q : Q (.str (strOf ((data.take j).drop i))) σ) : WE C cl (dec (ch (Mine.L x) (Mine.L y))) L σ Q X := by
  (walk_at "w e")
  refine e_ch J h hl hx hy ⟨"bytes.decode", rfl, ?_⟩
  (walk_at "w v"; walk_at "w e"; walk_at "w v")
  exact ⟨rfl, by rw [List.length_drop, List.length_take]; lia, ha, q⟩
theorem digits_nof {b : List UInt8} : digitsVal (strOf b).cps.toList = nof b := by
  unfold strOf nof digitsVal
  simp only [List.foldl_map]
  congr 1
  funext k c
  lia
/-- `int(data[x:y].decode('ascii'))` -/
theorem e_intdec (J : Fp σ₀ σ L m) (h : m nData = some (.bytes data)) (hl : data.length ≤ 1000000) {x y : N} {i j : Nat} (hx : m x = some (.int i)) (hy : m y = some (.int j)) (ha : ∀ c ∈ (data.take j).drop i, isFg c.toNat = true)
    (h1 : 1 ≤ ((data.take j).drop i).length) (h2 : ((data.take j).drop i).length ≤ 600) (q : Q (.int (nof ((data.take j).drop i))) σ) : WE C cl (.call (tyE "int") [dec (ch (Mine.L x) (Mine.L y))]) L σ Q X := by
  (walk_at "w e"; walk_at "w e"; walk_at "w v")
  refine e_dec J h hl hx hy (fun c hc => by have := isFg_le (ha c hc); lia) ?_
  (walk_at "w v")
  have e : (strOf ((data.take j).drop i)).length = ((data.take j).drop i).length := by simp [strOf, Str.length]
  refine ⟨⟨by rw [e]; exact h1, by rw [e]; exact h2, fun c hc => ?_⟩, by rw [digits_nof]; exact q⟩
  unfold strOf at hc
  obtain ⟨k, hk, rfl⟩ := List.mem_map.mp (show c ∈ List.map _ _ from hc)
  have := isFg_le (ha k hk); lia
end
end Mine
-- D14
namespace Mine
open IE IS N
noncomputable def RTup (Q : Kt) (σ : St) (vs : List V) : Prop := ∀ a τ, σ.le τ → σ a = none → τ a = some (.tup vs) → Q (.ref a) τ
noncomputable def fV (i : Nat) : List V := [.str (S "fault"), .int i]
theorem asc_dec : ∀ c : UInt8, isAt c.toNat = true → c.toNat < 128 := fun c h => by have := isAt_le h; have := (isPr_le (Bool.and_eq_true_iff.mp h).1); lia
section
variable {n : Nat} {σ σ₀ : St} {Q : Kt} {X : Xt} {C : Ct} {cl : Option Addr} {L : Addr} {m : N → Option V} {data : List UInt8} {p : Nat}
theorem Fp.none0 (J : Fp σ₀ σ L m) {r : Addr} (h : σ r = none) : σ₀ r = none := by
  cases e : σ₀ r with
  | none => rfl
  | some o => have := J.keep _ _ e; rw [h] at this; cases this
theorem Fp.tupRet {vs : List V} (J : Fp σ₀ σ L m) (q : RTup Q σ₀ vs) : ∀ r, σ r = none → 472 ≤ r → ∃ ρ, ρ.le ((σ.set r (.tup vs)).del L) ∧ Q (.ref r) ρ := fun r hr _ =>
  ⟨_, St.le_refl _, q r _ (J.new hr).le (J.none0 hr) (ret_tup J hr)⟩
/-- `return ('fault', i)` -/
theorem e_fault {x : N} {i : Nat} {Q : Kt} (J : Fp σ₀ σ L m) (hx : m x = some (.int i)) (q : ∀ r, σ r = none → 472 ≤ r → Q (.ref r) (σ.set r (.tup (fV i)))) : WE C cl (fault (Mine.L x)) L σ Q X := by
  refine e_tup ?_
  (walk_at "w v"; walk_at "w e"; walk_at "w v")
  refine f_loc J.fr hx ?_
  (walk_at "w v")
  exact q
theorem s_fault {x : N} {i : Nat} {Qt : Ft} (J : Fp σ₀ σ L m) (hx : m x = some (.int i)) (q : RTup Q σ₀ (fV i)) (nx : ∀ v ρ, (∃ ρ', ρ'.le (ρ.del L) ∧ Q v ρ') → Qt (.ret v) ρ) : WS C cl [.ret (fault (Mine.L x))] L σ Qt X := by
  (walk_at "w s")
  exact e_fault J hx fun r hr h => nx _ _ (J.tupRet q r hr h)
theorem w_lnumber (hn : 2 ≤ n) (hl : data.length ≤ 100000) (hp : p ≤ data.length) (q : match rdNum data p with | .ok i k => RTup Q σ [.int i, .int (k : Nat)] | .bad i => RTup Q σ (fV i)) : WC n .lNumber [.bytes data, .int p] σ Q X := by
  refine enterR [(nAt, .int p), (nData, .bytes data)] (by walk_at "w a") rfl rfl rfl fun L hL => ?_
  have J := Fp.enter (m := mk [(nAt, .int p), (nData, .bytes data)]) hL
  generalize σ.set L (.ns true (mk [(nAt, .int p), (nData, .bytes data)])) = σ₁ at J
  have hr := runTo_le isFg hp
  unfold rdNum at q
  dsimp only at q
  (walk_at "w s0"; walk_at "w e"; walk_at "w e"; walk_at "w v")
  refine f_loc J.fr rfl ?_
  (walk_at "w v")
  refine f_loc J.fr rfl ?_
  (walk_at "w v")
  refine to_f rfl (w_lfig (by walk_at "w a") hl hp ⟨J.bset, ?_⟩)
  have hall : ∀ c ∈ (data.take (runTo isFg data p)).drop p, isFg c.toNat = true := fun c hc => run_all hc
  have hlen := run_len (P := isFg) (data := data) (p := p)
  have J := J.asg (x := nEnd) (v := .int (runTo isFg data p : Nat))
  generalize setLoc σ₁ L nEnd (.int (runTo isFg data p : Nat)) = σ₂ at J
  generalize hm : upd (mk [(nAt, .int p), (nData, .bytes data)]) nEnd (.int (runTo isFg data p : Nat)) = m at J
  have m1 : m nData = some (.bytes data) := by subst hm; rfl
  have m2 : m nAt = some (.int p) := by subst hm; rfl
  have m3 : m nEnd = some (.int (runTo isFg data p : Nat)) := by subst hm; rfl
  have bad : ¬ (1 ≤ runTo isFg data p - p ∧ runTo isFg data p - p ≤ 19) → WE (WC (n - 1)) none (fault (Mine.L nAt)) L σ₂ (fun v σ => ∃ ρ, ρ.le (σ.del L) ∧ Q v ρ) (fun e τ => ∃ ρ, ρ.le (τ.del L) ∧ X e ρ) := fun h => by
    rw [if_neg h] at q
    exact e_fault J m2 (J.tupRet q)
  (walk_at "w s"; walk_at "w e"; walk_at "w e"; walk_at "w e"; walk_at "w e")
  refine f_loc J.fr m3 (f_loc J.fr m2 ⟨fun h1 => ?_, fun h1 => (.mk (fun e => by cases e) (fun _ => bad fun z => ?_))⟩)
  rotate_left
  · have := of_decide_eq_false h1; lia
  (walk_at "w e")
  refine (.mk (fun h2 => ?_) (fun h2 => bad fun z => ?_))
  rotate_left
  · have := of_decide_eq_false h2; lia
  have z1 := of_decide_eq_true h1
  have z2 := of_decide_eq_true h2
  rw [if_pos ⟨by lia, by lia⟩] at q
  refine e_tup ?_
  (walk_at "w v")
  refine e_intdec J m1 (by walk_at "w a") m2 m3 hall (by walk_at "w a") (by walk_at "w a") ?_
  (walk_at "w v")
  refine f_loc J.fr m3 ?_
  (walk_at "w v")
  exact J.tupRet q
theorem key0 : ∀ n : Nat, n < 256 → ([[58], [44], [42], [48], [49], [50], [51], [52], [53], [54], [55], [56], [57]].map V.bytes).any (fun w => eqb w (V.bytes [n.toUInt8])) = isSe n := by decide +kernel
theorem w_lset (hn : 1 ≤ n) (hl : data.length ≤ 100000) (hp : p ≤ data.length) (q : if p < runTo isSe data p then RTup Q σ [.str (strOf ((data.take (runTo isSe data p)).drop p)), .int (runTo isSe data p : Nat)] else RTup Q σ (fV p)) : WC n .lSet [.bytes data, .int p] σ Q X := by
  refine enterR [(nAt, .int p), (nData, .bytes data)] (by walk_at "w a") rfl rfl rfl fun L hL => ?_
  have J := Fp.enter (m := mk [(nAt, .int p), (nData, .bytes data)]) hL
  generalize σ.set L (.ns true (mk [(nAt, .int p), (nData, .bytes data)])) = σ₁ at J
  have hr0 := runTo_le isSe hp
  (walk_at "w s0")
  refine f_loc J.fr rfl ⟨J.bset, ?_⟩
  have J := J.asg (x := nEnd) (v := .int p)
  (walk_at "w s")
  refine ⟨fun k τ => ∃ p' m, Fp σ τ L m ∧ m nData = some (.bytes data) ∧ m nAt = some (.int p) ∧ m nEnd = some (.int (p' : Nat)) ∧ p' ≤ data.length ∧ runTo isSe data p' = runTo isSe data p ∧ k = data.length - p',
    ⟨_, p, _, J, rfl, rfl, rfl, hp, rfl, rfl⟩, fun k τ hI => ?_⟩
  clear J
  obtain ⟨p', m, J, m1, m2, m3, hp', hr, hk⟩ := hI
  have out : (p' < data.length → isSe (cod data p') = false) → WS (WC (n - 1)) none [.ret (.ite (.cmp .Gt (Mine.L nEnd) (Mine.L nAt)) (.tup [dec (ch (Mine.L nAt) (Mine.L nEnd)), Mine.L nEnd]) (fault (Mine.L nAt)))] L τ (fun fl τ => ∃ ρ, ρ.le (τ.del L) ∧ Q (retV fl) ρ) (fun e τ => ∃ ρ, ρ.le (τ.del L) ∧ X e ρ) := fun h => by
    have he : runTo isSe data p = p' := by
      rw [← hr]
      rcases Nat.lt_or_ge p' data.length with h1 | h1
      · exact runTo_stop h1 (h h1)
      · exact runTo_end h1
    have hall : ∀ c ∈ (data.take p').drop p, c.toNat < 128 := fun c hc => by
      rw [← he] at hc
      have h0 : c.toNat < 256 := c.toNat_lt
      have := isSe_le (by walk_at "w a") (by walk_at "w a") (run_all hc); lia
    rw [he] at q
    (walk_at "w s"; walk_at "w e"; walk_at "w e")
    refine f_loc J.fr m3 (f_loc J.fr m2 (.mk (fun h1 => ?_) (fun h1 => ?_)))
    · have h2 : p < p' := by have := of_decide_eq_true h1; lia
      rw [if_pos h2] at q
      refine e_tup ?_
      (walk_at "w v")
      refine e_dec J m1 (by walk_at "w a") m2 m3 hall ?_
      (walk_at "w v")
      refine f_loc J.fr m3 ?_
      (walk_at "w v")
      exact J.tupRet q
    · have h2 : ¬ p < p' := by have := of_decide_eq_false h1; lia
      rw [if_neg h2] at q
      exact e_fault J m2 (J.tupRet q)
  (walk_at "w e"; walk_at "w b"; walk_at "w e")
  refine f_loc J.fr m3 (e_dlen J m1 (by walk_at "w a") (.mk (fun h => ?_) (fun h => (.mk (fun e => absurd e h) (fun _ => out fun h1 => absurd (decide_eq_true (show (p' : Int) < data.length by lia)) h)))))
  have hlt : p' < data.length := by have := of_decide_eq_true h; lia
  (walk_at "w b"; walk_at "w e")
  refine e_ch1 J m1 (by walk_at "w a") m3 ?_
  have e1 : (data.take (p' + 1)).drop p' = [data.getD p' 0] := by
    rw [List.drop_take, Nat.add_sub_cancel_left, drop_cons hlt]; rfl
  rw [e1]
  (walk_at "w v"; walk_at "w e"; walk_at "w v"; walk_at "w e"; walk_at "w v"; walk_at "w e"; walk_at "w v"; walk_at "w e"; walk_at "w v"; walk_at "w e"; walk_at "w v"; walk_at "w e"; walk_at "w v"; walk_at "w e"; walk_at "w v"; walk_at "w e"; walk_at "w v"; walk_at "w e"; walk_at "w v"; walk_at "w e"; walk_at "w v"; walk_at "w e"; walk_at "w v"; walk_at "w e"; walk_at "w v"; walk_at "w e"; walk_at "w v")
  have key : ∀ c : UInt8, ([[58], [44], [42], [48], [49], [50], [51], [52], [53], [54], [55], [56], [57]].map V.bytes).any (fun w => eqb w (V.bytes [c])) = isSe c.toNat := fun c => by
    have := key0 c.toNat c.toNat_lt
    rwa [show c.toNat.toUInt8 = c by simp] at this
  refine ⟨.inr ⟨⟨_, rfl⟩, fun w hw => ?_⟩, by show 13 ≤ 40; decide, ?_⟩
  · simp only [List.mem_cons, List.not_mem_nil, or_false] at hw
    rcases hw with rfl | rfl | rfl | rfl | rfl | rfl | rfl | rfl | rfl | rfl | rfl | rfl | rfl <;> exact ⟨_, rfl⟩
  have hk2 := key (data.getD p' 0)
  have hk3 : (false ^^ ([V.bytes [58], V.bytes [44], V.bytes [42], V.bytes [48], V.bytes [49], V.bytes [50], V.bytes [51], V.bytes [52], V.bytes [53], V.bytes [54], V.bytes [55], V.bytes [56], V.bytes [57]].any fun w => eqb w (V.bytes [data.getD p' 0]))) = isSe (cod data p') := by
    rw [Bool.false_xor]; exact hk2
  rw [hk3]
  refine (.mk (fun hPt => ?_) (fun hin => (.mk (fun e => absurd e hin) (fun _ => out fun _ => ?_))))
  rotate_left
  · cases z : isSe (cod data p') with
    | false => rfl
    | true => exact absurd z hin
  (walk_at "w b")
  refine (.mk (fun _ => ?_) (fun e => by cases e))
  (walk_at "w s"; walk_at "w e")
  refine f_loc J.fr m3 ?_
  (walk_at "w e")
  refine (.mk J.bset ?_)
  (walk_at "w n")
  exact ⟨data.length - (p' + 1), _, by lia, St.le_refl _, p' + 1, _, J.asg (x := nEnd) (v := .int ((p' + 1 : Nat) : Int)), m1, m2, rfl, by lia, by rw [← runTo_step hlt hPt, hr], rfl⟩
end
end Mine
-- D15
namespace Mine
open IE IS N
noncomputable def RTS (Q : Kt) (σ : St) : R (List UInt8) → Prop
  | .ok b k => RTup Q σ [.str (S "string"), .bytes b, .int (k : Nat)]
  | .bad i => RTup Q σ (fV i)
theorem at1_eq {data : List UInt8} {p : Nat} {c : UInt8} : decide ((data.take (p + 1)).drop p = [c]) = has data p [c] := rfl
section
variable {n : Nat} {σ σ₀ : St} {Q : Kt} {X : Xt} {C : Ct} {cl : Option Addr} {L : Addr} {m : N → Option V} {data : List UInt8} {p : Nat}
/-- `x = x + 1` -/
theorem s_inc {x : N} {i : Nat} {Qt : Ft} (J : Fp σ₀ σ L m) (hx : m x = some (.int i)) (q : Qt .next (setLoc σ L x (.int ((i + 1 : Nat) : Int)))) : WS1 C cl (.asg x (plus1 (Mine.L x))) L σ Qt X := by
  refine y_asg (u_bin (f_loc J.fr hx ?_))
  (walk_at "w e")
  exact ⟨J.bset, q⟩
theorem w_lquoted {a : Addr} {r : R (List UInt8)} (hl : data.length ≤ 100000) (J : Fp σ₀ σ L m) (m1 : m nData = some (.bytes data)) (m2 : m nAt = some (.int p)) (m3 : m nFound = some (.ref a)) (ha : σ a = some (.list [])) (ha0 : σ₀ a = none) (haL : a ≠ L) (hp : p ≤ data.length)
    (hr : rdQ (data.drop p) p [] = r) (q : RTS Q σ₀ r) :
    WS C none [
      .wh (.cmp .NotEq at1 (.kx [34])) [
        .iff (.cmp .Eq at1 (.kx [92])) [
          .asg nAt (plus1 (Mine.L nAt)),
          .iff (.inT false true at1 [.kx [34], .kx [92]]) [.ret (fault (Mine.L nAt))] []] [],
        .iff (.bop false [.cmp .Eq (Mine.L nAt) (lenE (Mine.L nData)), .cmp .Eq (dl (Mine.L nAt)) (.ki 0), .cmp .Gt (dl (Mine.L nAt)) (.ki 127), .inT false false (dl (Mine.L nAt)) [.ki 10, .ki 13]]) [.ret (fault (Mine.L nAt))] [],
        .expr (.bmeth (Mine.L nFound) (S "append") [dl (Mine.L nAt)]),
        .asg nAt (plus1 (Mine.L nAt))],
      .ret (.tup [.ks (S "string"), .call (tyE "bytes") [Mine.L nFound], plus1 (Mine.L nAt)])] L σ (fun fl τ => ∃ ρ, ρ.le (τ.del L) ∧ Q (retV fl) ρ) X := by
  (walk_at "w s")
  refine ⟨fun k τ => ∃ p' m acc, Fp σ₀ τ L m ∧ m nData = some (.bytes data) ∧ m nAt = some (.int (p' : Nat)) ∧ m nFound = some (.ref a) ∧ τ a = some (.list (bInt acc)) ∧ p' ≤ data.length ∧ rdQ (data.drop p') p' acc = r ∧ acc.length ≤ p' ∧ k = data.length + 1 - p',
    ⟨_, p, m, [], J, m1, m2, m3, ha, hp, hr, Nat.zero_le _, rfl⟩, fun k τ hI => ?_⟩
  clear J m1 m2 m3 ha hp hr
  obtain ⟨p', m, acc, J, m1, m2, m3, ha, hp, hr, hac, hk⟩ := hI
  -- the closing quote
  have fin : ∀ (b : List UInt8) (Qt : Ft), r = .ok acc (p' + 1) → (∀ v ρ, (∃ ρ', ρ'.le (ρ.del L) ∧ Q v ρ') → Qt (.ret v) ρ) → WS C none [.ret (.tup [.ks (S "string"), .call (tyE "bytes") [Mine.L nFound], plus1 (Mine.L nAt)])] L τ Qt X := fun _ Qt hz nx => by
    rw [hz] at q
    (walk_at "w s")
    refine e_tup ?_
    (walk_at "w v"; walk_at "w e"; walk_at "w v"; walk_at "w e"; walk_at "w e"; walk_at "w v")
    refine f_loc J.fr m3 ?_
    (walk_at "w v")
    refine .inl ⟨_, _, ha, ints_map (fun c : UInt8 => (c.toNat : Int)) acc, by rw [bInt_len]; lia, fun k hk => ?_, ?_⟩
    · obtain ⟨c, hc, rfl⟩ := List.mem_map.mp hk
      have : c.toNat < 256 := c.toNat_lt; lia
    have e : (acc.map (fun c : UInt8 => (c.toNat : Int))).map (fun n => n.toNat.toUInt8) = acc := by
      rw [List.map_map]
      conv => rhs; rw [← List.map_id acc]
      apply List.map_congr_left
      intro c _
      exact toU
    rw [e]
    (walk_at "w v"; walk_at "w e")
    refine f_loc J.fr m2 ?_
    (walk_at "w e")
    exact fun r hr h => nx _ _ (J.tupRet q r hr h)
  (walk_at "w e")
  refine e_ch1 J m1 (by walk_at "w a") m2 ?_
  (walk_at "w e")
  refine (.mk (fun h => ?_) (fun h => ?_))
  rotate_left
  · have e : has data p' [34] = true := by
      rw [← at1_eq]; cases z : decide ((data.take (p' + 1)).drop p' = [34]) with
      | true => rfl
      | false => rw [z] at h; exact absurd h (by decide)
    have e' := e
    rw [has_one, decide_eq_true_eq] at e'
    rw [drop_cons e'.1, rdQ_cons, if_pos e'.2] at hr
    exact fin [] _ hr.symm fun v ρ h => h
  have hne : ¬ has data p' [34] = true := fun z => by rw [← at1_eq] at z; rw [z] at h; exact absurd h (by decide)
  rw [has_one, decide_eq_true_eq] at hne
  -- the turn, from the offset p'' of the octet that is kept
  have tail : ∀ (p'' : Nat) (m : N → Option V) (τ' : St) (Qt : Ft), p' ≤ p'' → p'' ≤ data.length → Fp σ₀ τ' L m → m nData = some (.bytes data) → m nAt = some (.int (p'' : Nat)) → m nFound = some (.ref a) → τ' a = some (.list (bInt acc)) →
      (p'' < data.length → okQ (data.getD p'' 0) = true → rdQ (data.drop (p'' + 1)) (p'' + 1) (acc ++ [data.getD p'' 0]) = r) →
      (p'' < data.length → okQ (data.getD p'' 0) = false → r = .bad p'') → (p'' = data.length → r = .bad p'') →
      (∀ v ρ, (∃ ρ', ρ'.le (ρ.del L) ∧ Q v ρ') → Qt (.ret v) ρ) →
      (∀ ρ j, j < k → (∃ p' m acc, Fp σ₀ ρ L m ∧ m nData = some (.bytes data) ∧ m nAt = some (.int (p' : Nat)) ∧ m nFound = some (.ref a) ∧ ρ a = some (.list (bInt acc)) ∧ p' ≤ data.length ∧ rdQ (data.drop p') p' acc = r ∧ acc.length ≤ p' ∧ j = data.length + 1 - p') → Qt .next ρ) →
      WS C none [.iff (.bop false [.cmp .Eq (Mine.L nAt) (lenE (Mine.L nData)), .cmp .Eq (dl (Mine.L nAt)) (.ki 0), .cmp .Gt (dl (Mine.L nAt)) (.ki 127), .inT false false (dl (Mine.L nAt)) [.ki 10, .ki 13]]) [.ret (fault (Mine.L nAt))] [],
        .expr (.bmeth (Mine.L nFound) (S "append") [dl (Mine.L nAt)]),
        .asg nAt (plus1 (Mine.L nAt))] L τ' Qt X := by
    intro p'' m τ' Qt h1 h2 J m1 m2 m3 ha g1 g2 g3 nr nx
    have bad : r = .bad p'' → WS C none [.ret (fault (Mine.L nAt))] L τ' (fun fl σ => match fl with
        | .next => WS C none [.expr (.bmeth (Mine.L nFound) (S "append") [dl (Mine.L nAt)]), .asg nAt (plus1 (Mine.L nAt))] L σ Qt X
        | .ret v => Qt (.ret v) σ) X := fun e => by
      rw [e] at q
      exact s_fault J m2 q fun v ρ h => nr v ρ h
    have good : p'' < data.length → okQ (data.getD p'' 0) = true → WS C none [.expr (.bmeth (Mine.L nFound) (S "append") [dl (Mine.L nAt)]), .asg nAt (plus1 (Mine.L nAt))] L τ' Qt X := fun hlt hok => by
      (walk_at "w s"; walk_at "w e")
      refine f_loc J.fr m3 ⟨"list.append", by unfold methId; dsimp only; rw [if_pos rfl, ha], ?_⟩
      (walk_at "w v")
      refine e_dl J m1 (by walk_at "w a") m2 hlt ?_
      (walk_at "w v")
      refine ⟨_, ha, by rw [bInt_len]; lia, rfl, ?_⟩
      have J := J.put (o := .list (bInt acc ++ [.int (cod data p'')])) ha0 haL
      have eb : bInt acc ++ [V.int (cod data p'')] = bInt (acc ++ [data.getD p'' 0]) := by unfold bInt; rw [List.map_append]; rfl
      (walk_at "w n")
      refine s_inc J m2 ?_
      (walk_at "w n")
      refine nx _ (data.length + 1 - (p'' + 1)) (by walk_at "w a") ⟨p'' + 1, _, acc ++ [data.getD p'' 0], J.asg, m1, rfl, m3, ?_, hlt, g1 hlt hok, by rw [List.length_append]; show acc.length + 1 ≤ _; lia, rfl⟩
      rw [setLoc_ne haL, St.set_same, eb]
    rcases Nat.lt_or_ge p'' data.length with hlt | hge
    · have hc : (data.getD p'' 0).toNat < 256 := (data.getD p'' 0).toNat_lt
      (walk_at "w s"; walk_at "w e"; walk_at "w b"; walk_at "w e")
      refine f_loc J.fr m2 (e_dlen J m1 (by walk_at "w a") (.mk (fun h => ?_) (fun h => absurd (decide_eq_false (show ¬ (p'' : Int) = data.length by lia)) h)))
      (walk_at "w b"; walk_at "w e")
      refine e_dl J m1 (by walk_at "w a") m2 hlt ?_
      (walk_at "w e")
      refine (.mk (fun h => ?_) (fun h => (.mk (fun _ => bad (g2 hlt (okQ_false (.inl ?_)))) (fun e => by rw [e] at h; exact absurd rfl h))))
      rotate_left
      · have := of_decide_eq_true (Bool.of_not_eq_false h); unfold cod at this; lia
      have z0 : ¬ (data.getD p'' 0).toNat < 1 := by have := of_decide_eq_false h; unfold cod at this; lia
      (walk_at "w b"; walk_at "w e")
      refine e_dl J m1 (by walk_at "w a") m2 hlt ?_
      (walk_at "w e")
      refine (.mk (fun h => ?_) (fun h => (.mk (fun _ => bad (g2 hlt (okQ_false (.inr (.inl ?_))))) (fun e => by rw [e] at h; exact absurd rfl h))))
      rotate_left
      · have := of_decide_eq_true (Bool.of_not_eq_false h); unfold cod at this; lia
      have z1 : ¬ 127 < (data.getD p'' 0).toNat := by have := of_decide_eq_false h; unfold cod at this; lia
      (walk_at "w b"; walk_at "w e")
      refine e_dl J m1 (by walk_at "w a") m2 hlt ?_
      (walk_at "w v"; walk_at "w e"; walk_at "w v"; walk_at "w e"; walk_at "w v")
      refine ⟨.inl ⟨⟨_, rfl⟩, fun w hw => ?_⟩, by show 2 ≤ 40; decide, ?_⟩
      · simp only [List.mem_cons, List.not_mem_nil, or_false] at hw
        rcases hw with rfl | rfl <;> exact ⟨_, rfl⟩
      have kin : (false ^^ ([V.int 10, V.int 13].any fun w => eqb w (V.int (cod data p'')))) = decide (data.getD p'' 0 ∈ ([13, 10] : List UInt8)) := by
        have key : ∀ n : Nat, n < 256 → (false ^^ ([V.int 10, V.int 13].any fun w => eqb w (V.int (n : Int)))) = decide (n.toUInt8 ∈ ([13, 10] : List UInt8)) := by decide +kernel
        have := key _ hc
        rwa [show (data.getD p'' 0).toNat.toUInt8 = data.getD p'' 0 by simp] at this
      rw [kin]
      refine (.mk (fun h => ?_) (fun h => (.mk (fun _ => bad (g2 hlt (okQ_false (.inr (.inr ?_))))) (fun e => by rw [e] at h; exact absurd rfl h))))
      rotate_left
      · exact of_decide_eq_true (Bool.of_not_eq_false h)
      (walk_at "w b")
      refine (.mk (fun h => (by cases h)) (fun _ => ?_))
      (walk_at "w n")
      exact good hlt (okQ_true z0 z1 (of_decide_eq_false h))
    · (walk_at "w s"; walk_at "w e"; walk_at "w b"; walk_at "w e")
      refine f_loc J.fr m2 (e_dlen J m1 (by walk_at "w a") (.mk (fun h => absurd (show (p'' : Int) = data.length by lia) (of_decide_eq_false h)) (fun h => (.mk (fun _ => bad (g3 (by walk_at "w a"))) (fun e => by rw [e] at h; exact absurd rfl h)))))
  (walk_at "w s"; walk_at "w e")
  refine e_ch1 J m1 (by walk_at "w a") m2 ?_
  (walk_at "w e")
  refine (.mk (fun h => ?_) (fun h => ?_))
  · have e : has data p' [92] = true := h
    have e' := e
    rw [has_one, decide_eq_true_eq] at e'
    have hne' : ¬ data.getD p' 0 = 34 := fun z => hne ⟨e'.1, z⟩
    rw [drop_cons e'.1, rdQ_cons, if_neg hne', if_pos e'.2] at hr
    (walk_at "w n")
    refine s_inc J m2 ?_
    have J := J.asg (x := nAt) (v := .int ((p' + 1 : Nat) : Int))
    have ha' : (setLoc τ L nAt (.int ((p' + 1 : Nat) : Int))) a = some (.list (bInt acc)) := by first | exact (setLoc_ne haL).trans ha | (rw [setLoc_ne haL]; exact ha)
    generalize setLoc τ L nAt (.int ((p' + 1 : Nat) : Int)) = τ' at J ha'
    have k1 : upd m nAt (.int ((p' + 1 : Nat) : Int)) nData = some (.bytes data) := m1
    have k2 : upd m nAt (.int ((p' + 1 : Nat) : Int)) nAt = some (.int ((p' + 1 : Nat) : Int)) := rfl
    have k3 : upd m nAt (.int ((p' + 1 : Nat) : Int)) nFound = some (.ref a) := m3
    generalize upd m nAt (.int ((p' + 1 : Nat) : Int)) = m' at J k1 k2 k3
    (walk_at "w s"; walk_at "w e")
    refine e_ch1 J k1 (by walk_at "w a") k2 ?_
    (walk_at "w v"; walk_at "w e"; walk_at "w v"; walk_at "w e"; walk_at "w v")
    refine ⟨.inr ⟨⟨_, rfl⟩, fun w hw => ?_⟩, by show 2 ≤ 40; decide, _, rfl, fun h => ?_, fun h => ?_⟩
    · simp only [List.mem_cons, List.not_mem_nil, or_false] at hw
      rcases hw with rfl | rfl <;> exact ⟨_, rfl⟩
    · have hb : r = .bad (p' + 1) := by
        rcases Nat.lt_or_ge (p' + 1) data.length with hlt | hge
        · have e1 : (data.take (p' + 1 + 1)).drop (p' + 1) = [data.getD (p' + 1) 0] := by
            rw [List.drop_take, Nat.add_sub_cancel_left, drop_cons hlt]; rfl
          rw [e1] at h
          rw [drop_cons hlt] at hr
          dsimp only at hr
          rw [if_neg (fun z => by rcases z with z | z <;> rw [z] at h <;> exact absurd h (by decide))] at hr
          exact hr.symm
        · rw [List.drop_eq_nil_of_le hge] at hr
          exact hr.symm
      rw [hb] at q
      exact s_fault J k2 q fun v ρ h => h
    · have hlt : p' + 1 < data.length := by
        rcases Nat.lt_or_ge (p' + 1) data.length with hlt | hge
        · exact hlt
        · rw [List.drop_eq_nil_of_le (by rw [List.length_take]; lia)] at h
          exact absurd h (by decide)
      have e1 : (data.take (p' + 1 + 1)).drop (p' + 1) = [data.getD (p' + 1) 0] := by
        rw [List.drop_take, Nat.add_sub_cancel_left, drop_cons hlt]; rfl
      rw [e1] at h
      have hc : data.getD (p' + 1) 0 = 34 ∨ data.getD (p' + 1) 0 = 92 := by
        generalize data.getD (p' + 1) 0 = c at h
        simp only [List.any_cons, List.any_nil, eqb, Bool.or_false] at h
        have h' : (([34] : List UInt8) == [c] || ([92] : List UInt8) == [c]) = true := by
          revert h; cases (([34] : List UInt8) == [c] || ([92] : List UInt8) == [c]) <;> simp
        rcases Bool.or_eq_true_iff.mp h' with z | z
        · exact .inl ((List.cons.inj (beq_iff_eq.mp z)).1).symm
        · exact .inr ((List.cons.inj (beq_iff_eq.mp z)).1).symm
      rw [drop_cons hlt] at hr
      dsimp only at hr
      rw [if_pos hc] at hr
      (walk_at "w n"; walk_at "w n")
      refine tail (p' + 1) m' τ' _ (by walk_at "w a") (by walk_at "w a") J k1 k2 k3 ha' (fun h1 h2 => hr) (fun h1 h2 => ?_) (fun h1 => by lia) (fun v ρ h => h) fun ρ j hj hI => ⟨j, ρ, hj, St.le_refl _, hI⟩
      rcases hc with e | e <;> rw [e] at h2 <;> cases h2
  · have hne2 : ¬ has data p' [92] = true := fun z => by rw [← at1_eq] at z; rw [z] at h; cases h
    rw [has_one, decide_eq_true_eq] at hne2
    (walk_at "w n")
    refine tail p' m τ _ (Nat.le_refl _) hp J m1 m2 m3 ha (fun h1 h2 => ?_) (fun h1 h2 => ?_) (fun h1 => ?_) (fun v ρ h => h) fun ρ j hj hI => ⟨j, ρ, hj, St.le_refl _, hI⟩
    · rw [drop_cons h1, rdQ_cons, if_neg (fun z => hne ⟨h1, z⟩), if_neg (fun z => hne2 ⟨h1, z⟩), if_pos h2] at hr; exact hr
    · rw [drop_cons h1, rdQ_cons, if_neg (fun z => hne ⟨h1, z⟩), if_neg (fun z => hne2 ⟨h1, z⟩), if_neg (by rw [h2]; decide)] at hr; exact hr.symm
    · rw [List.drop_eq_nil_of_le (by walk_at "w a"), rdQ_nil] at hr; exact hr.symm
end
end Mine
-- D16
namespace Mine
open IE IS N
section
variable {n : Nat} {σ σ₀ : St} {Q : Kt} {X : Xt} {C : Ct} {cl : Option Addr} {L : Addr} {m : N → Option V} {data : List UInt8} {p : Nat}
theorem e_plus {x : N} {i j : Nat} (J : Fp σ₀ σ L m) (hx : m x = some (.int i)) (q : Q (.int ((i + j : Nat) : Int)) σ) : WE C cl (add (Mine.L x) (.ki (j : Nat))) L σ Q X := by
  (walk_at "w e")
  refine f_loc J.fr hx ?_
  (walk_at "w e")
  exact q
theorem w_lstring (hn : 2 ≤ n) (hl : data.length ≤ 100000) (hp : p ≤ data.length) (q : RTS Q σ (rdS data p)) : WC n .lString [.bytes data, .int p] σ Q X := by
  refine enterR [(nAt, .int p), (nData, .bytes data)] (by walk_at "w a") rfl rfl rfl fun L hL => ?_
  have J := Fp.enter (m := mk [(nAt, .int p), (nData, .bytes data)]) hL
  generalize σ.set L (.ns true (mk [(nAt, .int p), (nData, .bytes data)])) = σ₁ at J
  unfold rdS at q
  (walk_at "w s0"; walk_at "w e")
  refine e_ch1 (x := nAt) J rfl (by walk_at "w a") rfl ?_
  (walk_at "w e")
  refine ⟨_, rfl, fun h => ?_, fun h => ?_⟩
  · -- a literal
    have e : has data p [123] = true := h
    rw [if_pos e] at q
    have h1 : p + 1 ≤ data.length := has_le e hp
    unfold rdL at q
    dsimp only at q
    have hr := runTo_le isFg h1
    have hlen := run_len (P := isFg) (data := data) (p := p + 1)
    have hdig : ∀ c ∈ (data.take (runTo isFg data (p + 1))).drop (p + 1), isFg c.toNat = true := fun c hc => run_all hc
    (walk_at "w s"; walk_at "w e"; walk_at "w e"; walk_at "w v")
    refine f_loc J.fr rfl ?_
    (walk_at "w v")
    refine e_plus (x := nAt) (j := 1) J rfl ?_
    (walk_at "w v")
    refine to_f rfl (w_lfig (p := p + 1) (by walk_at "w a") hl h1 (.mk J.bset ?_))
    have J := J.asg (x := nEnd) (v := .int (runTo isFg data (p + 1) : Nat))
    generalize setLoc σ₁ L nEnd (.int (runTo isFg data (p + 1) : Nat)) = σ₂ at J
    generalize hm : upd (mk [(nAt, .int p), (nData, .bytes data)]) nEnd (.int (runTo isFg data (p + 1) : Nat)) = m at J
    have m1 : m nData = some (.bytes data) := by subst hm; rfl
    have m2 : m nAt = some (.int p) := by subst hm; rfl
    have m3 : m nEnd = some (.int (runTo isFg data (p + 1) : Nat)) := by subst hm; rfl
    clear hm
    generalize hD : (data.take (runTo isFg data (p + 1))).drop (p + 1) = D at q hlen hdig
    generalize runTo isFg data (p + 1) = e at q hlen hr m3 J hD
    have bad : e - (p + 1) = 0 ∨ 10 < e - (p + 1) → ∀ Qt : Ft, (∀ v ρ, (∃ ρ', ρ'.le (ρ.del L) ∧ Q v ρ') → Qt (.ret v) ρ) → WS (WC (n - 1)) none [.ret (fault (Mine.L nEnd))] L σ₂ Qt (fun e τ => ∃ ρ, ρ.le (τ.del L) ∧ X e ρ) := fun h Qt nx => by
      rw [if_pos h] at q
      exact s_fault J m3 q nx
    (walk_at "w s"; walk_at "w e"; walk_at "w e"; walk_at "w e"; walk_at "w e"; walk_at "w e")
    refine f_loc J.fr m3 (f_loc J.fr m2 ?_)
    refine ⟨fun g1 => ?_, fun g1 => ⟨_, rfl, _, rfl, (fun _ => bad (.inl ?_) _ fun v ρ h => h), fun z => by cases z⟩⟩
    rotate_left
    · have := of_decide_eq_false g1; lia
    (walk_at "w e")
    refine ⟨_, rfl, _, rfl, fun g2 => ?_, fun g2 => ?_⟩
    · have := of_decide_eq_true g1
      have g2' : decide ((e : Int) - p - 1 ≤ 10) = false := by cases z : decide ((e : Int) - p - 1 ≤ 10) <;> simp_all
      have := of_decide_eq_false g2'
      exact bad (.inr (by walk_at "w a")) _ fun v ρ h => h
    have z1 := of_decide_eq_true g1
    have g2' : decide ((e : Int) - p - 1 ≤ 10) = true := by cases z : decide ((e : Int) - p - 1 ≤ 10) <;> simp_all
    have z2 := of_decide_eq_true g2'
    rw [if_neg (by walk_at "w a")] at q
    (walk_at "w n"; walk_at "w s"; walk_at "w e"; walk_at "w e"; walk_at "w v"; walk_at "w e"; walk_at "w e")
    -- data[at + 1:end]
    refine f_loc J.fr m1 ?_
    (walk_at "w o")
    refine e_plus (j := 1) J m2 ?_
    (walk_at "w o")
    refine f_loc J.fr m3 ⟨⟨by lia, by lia, by lia⟩, "bytes.decode", rfl, ?_⟩
    have eD : (data.take ((e : Nat) : Int).toNat).drop ((p + 1 : Nat) : Int).toNat = D := by
      rw [← hD]; rfl
    rw [eD]
    (walk_at "w v"; walk_at "w e"; walk_at "w v")
    refine ⟨rfl, by lia, fun c hc => by have := isFg_le (hdig c hc); lia, ?_⟩
    (walk_at "w v")
    have eL : (strOf D).length = D.length := by simp [strOf, Str.length]
    refine ⟨⟨by rw [eL]; lia, by rw [eL]; lia, fun c hc => ?_⟩, .mk J.bset ?_⟩
    · unfold strOf at hc
      obtain ⟨k, hk, rfl⟩ := List.mem_map.mp (show c ∈ List.map _ _ from hc)
      have := isFg_le (hdig k hk); lia
    rw [digits_nof]
    have hnn := nof_nonneg hdig
    generalize hN : nof D = N₀ at q hnn
    obtain ⟨c, rfl⟩ := Int.eq_ofNat_of_zero_le hnn
    have J := J.asg (x := nCount) (v := .int c)
    generalize setLoc σ₂ L nCount (.int c) = σ₃ at J
    have k1 : upd m nCount (.int (c : Nat)) nData = some (.bytes data) := m1
    have k3 : upd m nCount (.int (c : Nat)) nEnd = some (.int (e : Nat)) := m3
    have k4 : upd m nCount (.int (c : Nat)) nCount = some (.int (c : Nat)) := rfl
    generalize upd m nCount (.int (c : Nat)) = m' at J k1 k3 k4
    clear m1 m2 m3
    -- behind the plus
    have tail : ∀ (e1 : Nat) (m : N → Option V) (τ : St) (Qt : Ft), e1 ≤ data.length → Fp σ τ L m → m nData = some (.bytes data) → m nEnd = some (.int (e1 : Nat)) → m nCount = some (.int (c : Nat)) → (∀ v ρ, (∃ ρ', ρ'.le (ρ.del L) ∧ Q v ρ') → Qt (.ret v) ρ) →
        RTS Q σ (if has data e1 [125, 13, 10] = false then .bad e1 else if data.length < e1 + 3 + c then .bad (e1 + 3) else .ok ((data.take (e1 + 3 + c)).drop (e1 + 3)) (e1 + 3 + c)) →
        WS (WC (n - 1)) none [
          .iff (.cmp .NotEq (ch (Mine.L nEnd) (add (Mine.L nEnd) (.ki 3))) (.kx [125, 13, 10])) [.ret (fault (Mine.L nEnd))] [],
          .iff (.cmp .Gt (add (add (Mine.L nEnd) (.ki 3)) (Mine.L nCount)) (lenE (Mine.L nData))) [.ret (fault (add (Mine.L nEnd) (.ki 3)))] [],
          .ret (.tup [.ks (S "string"), ch (add (Mine.L nEnd) (.ki 3)) (add (add (Mine.L nEnd) (.ki 3)) (Mine.L nCount)), add (add (Mine.L nEnd) (.ki 3)) (Mine.L nCount)])] L τ Qt (fun e τ => ∃ ρ, ρ.le (τ.del L) ∧ X e ρ) := by
      intro e1 m τ Qt he1 J m1 m3 m4 nx q
      have e3 : ∀ {Q : Kt} {X : Xt}, Q (.int ((e1 + 3 : Nat) : Int)) τ → WE (WC (n - 1)) none (add (Mine.L nEnd) (.ki 3)) L τ Q X := fun q => e_plus (j := 3) J m3 q
      have e3c : ∀ {Q : Kt} {X : Xt}, Q (.int ((e1 + 3 + c : Nat) : Int)) τ → WE (WC (n - 1)) none (add (add (Mine.L nEnd) (.ki 3)) (Mine.L nCount)) L τ Q X := fun q => by
        (walk_at "w e")
        exact e3 (f_loc J.fr m4 q)
      (walk_at "w s"; walk_at "w e"; walk_at "w e")
      refine f_loc J.fr m1 ?_
      (walk_at "w o")
      refine f_loc J.fr m3 ?_
      (walk_at "w o")
      refine e3 ⟨⟨by lia, by lia, by lia⟩, ?_⟩
      (walk_at "w e")
      refine (.mk (fun h => ?_) (fun h => ?_))
      · have e : has data e1 [125, 13, 10] = false := by
          have h' : (!has data e1 [125, 13, 10]) = true := h
          simpa using h'
        rw [if_pos e] at q
        exact s_fault J m3 q nx
      have e : has data e1 [125, 13, 10] = true := by
        have h' : (!has data e1 [125, 13, 10]) = false := h
        simpa using h'
      rw [if_neg (by rw [e]; decide)] at q
      (walk_at "w n"; walk_at "w s"; walk_at "w e")
      refine e3c (e_dlen J m1 (by walk_at "w a") (.mk (fun h => ?_) (fun h => ?_)))
      · have hlt : data.length < e1 + 3 + c := by have := of_decide_eq_true h; lia
        rw [if_pos hlt] at q
        (walk_at "w s")
        refine e_tup ?_
        (walk_at "w v"; walk_at "w e"; walk_at "w v")
        refine e3 ?_
        (walk_at "w v")
        exact fun r hr h => nx _ _ (J.tupRet q r hr h)
      · have hlt : ¬ data.length < e1 + 3 + c := by have := of_decide_eq_false h; lia
        rw [if_neg hlt] at q
        (walk_at "w n"; walk_at "w s")
        refine e_tup ?_
        (walk_at "w v"; walk_at "w e"; walk_at "w v"; walk_at "w e")
        refine f_loc J.fr m1 ?_
        (walk_at "w o")
        refine e3 ?_
        (walk_at "w o")
        refine e3c ⟨⟨by lia, by lia, by lia⟩, ?_⟩
        (walk_at "w v")
        refine e3c ?_
        (walk_at "w v")
        exact fun r hr h => nx _ _ (J.tupRet q r hr h)
    (walk_at "w s"; walk_at "w e")
    refine e_ch1 J k1 (by walk_at "w a") k3 ?_
    (walk_at "w e")
    refine (.mk (fun h => ?_) (fun h => ?_))
    · have h43 : has data e [43] = true := h
      rw [h43] at q
      (walk_at "w n")
      refine s_inc J k3 ?_
      (walk_at "w n")
      exact tail (e + 1) _ _ _ (has_le h43 hr.2) (J.asg (x := nEnd) (v := .int ((e + 1 : Nat) : Int))) k1 rfl k4 (fun v ρ h => h) q
    · have h43 : has data e [43] = false := h
      rw [h43] at q
      (walk_at "w n")
      exact tail e _ _ _ hr.2 J k1 k3 k4 (fun v ρ h => h) q
  · have e : has data p [123] = false := h
    rw [if_neg (by rw [e]; decide)] at q
    (walk_at "w n"; walk_at "w s"; walk_at "w e")
    refine e_ch1 (x := nAt) J rfl (by walk_at "w a") rfl ?_
    (walk_at "w e")
    refine (.mk (fun h => ?_) (fun h => ?_))
    · have e : has data p [34] = false := by
        rw [← at1_eq]; cases z : decide ((data.take (p + 1)).drop p = [34]) with
        | false => rfl
        | true => rw [z] at h; exact absurd h (by decide)
      rw [if_neg (by rw [e]; decide)] at q
      exact s_fault J rfl q fun v ρ h => h
    have e : has data p [34] = true := by
      rw [← at1_eq]; cases z : decide ((data.take (p + 1)).drop p = [34]) with
      | true => rfl
      | false => rw [z] at h; exact absurd h (by decide)
    rw [if_pos e] at q
    (walk_at "w n"; walk_at "w s"; walk_at "w e"; walk_at "w v")
    refine fun a ha => (.mk ((J.new ha).bset) ?_)
    have haL : a ≠ L := by first | exact neN ha J.fr | exact neS J.fr ha | exact fun z => by subst z; rw [J.fr] at ha; cases ha
    have ha0 := J.none0 ha
    have J := (J.new (o := .list []) ha).asg (x := nFound) (v := .ref a)
    have hA : (setLoc (σ₁.set a (.list [])) L nFound (.ref a)) a = some (.list []) := by first | exact (setLoc_ne haL).trans (St.set_same ..) | rw [setLoc_ne haL, St.set_same]
    generalize setLoc (σ₁.set a (.list [])) L nFound (.ref a) = σ₂ at J hA
    (walk_at "w n")
    refine s_inc J rfl ?_
    exact w_lquoted hl (J.asg (x := nAt) (v := .int ((p + 1 : Nat) : Int))) rfl rfl rfl (by first | exact (setLoc_ne haL).trans hA | (rw [setLoc_ne haL]; exact hA)) ha0 haL (has_le e hp) rfl q
/-- `data[at:at + 1] in (b'"', b'{')` -/
theorem e_inQ {x : N} {i : Nat} (J : Fp σ₀ σ L m) (h : m nData = some (.bytes data)) (hl : data.length ≤ 1000000) (he : ∀ (Q : Kt), Q (.bytes ((data.take (i + 1)).drop i)) σ → WE C cl (.loc x) L σ Q X) (q : Q (.bool (has data i [34] || has data i [123])) σ) :
    WE C cl (.inT false false (.loc x) [.kx [34], .kx [123]]) L σ Q X := by
  (walk_at "w e")
  refine he _ ?_
  (walk_at "w v"; walk_at "w e"; walk_at "w v"; walk_at "w e"; walk_at "w v")
  refine ⟨.inr ⟨⟨_, rfl⟩, fun w hw => ?_⟩, by show 2 ≤ 40; decide, ?_⟩
  · simp only [List.mem_cons, List.not_mem_nil, or_false] at hw
    rcases hw with rfl | rfl <;> exact ⟨_, rfl⟩
  have e : (false ^^ ([V.bytes [34], V.bytes [123]].any fun w => eqb w (V.bytes ((data.take (i + 1)).drop i)))) = (has data i [34] || has data i [123]) := by
    have key : ∀ c : UInt8, eqb (V.bytes [c]) (V.bytes ((data.take (i + 1)).drop i)) = has data i [c] := fun c => by
      rw [← at1_eq]
      show (([c] : List UInt8) == (data.take (i + 1)).drop i) = _
      apply Bool.eq_iff_iff.mpr
      rw [beq_iff_eq, decide_eq_true_eq]
      exact eq_comm
    simp only [List.any_cons, List.any_nil, Bool.or_false, Bool.false_xor, key]
  rw [e]; exact q
end
end Mine
-- D17
namespace Mine
open IE IS N
theorem isAs_eq : ∀ c : Int, 0 ≤ c → c ≤ 255 → isAs c = (isPr c && !decide (c.toNat.toUInt8 ∈ ([40, 41, 123, 37, 42, 34, 92] : List UInt8))) := by
  have key : ∀ n : Nat, n < 256 → isAs (n : Int) = (isPr (n : Int) && !decide ((n : Int).toNat.toUInt8 ∈ ([40, 41, 123, 37, 42, 34, 92] : List UInt8))) := by decide +kernel
  intro c h0 h1
  obtain ⟨n, rfl⟩ := Int.eq_ofNat_of_zero_le h0
  exact key n (by walk_at "w a")
theorem strOf_len {b : List UInt8} : (strOf b).length = b.length := by simp [strOf, Str.length]
theorem strOf_lt {b : List UInt8} (h : ∀ c ∈ b, c.toNat < 128) : ∀ c ∈ (strOf b).cps.toList, c < 128 := fun c hc => by
  unfold strOf at hc
  obtain ⟨k, hk, rfl⟩ := List.mem_map.mp (show c ∈ List.map _ _ from hc)
  exact h k hk
theorem low_c (c : UInt8) : lowCp c.toNat = ((lowC c.toNat).toNat.toUInt8).toNat := by
  have h : c.toNat < 256 := c.toNat_lt
  generalize c.toNat = n at h
  revert n
  decide +kernel
theorem low_str (b : List UInt8) : lowStr (strOf b) = strOf (low8 b) := by
  unfold lowStr strOf low8
  congr 1
  simp only [List.map_map]
  congr 1
  apply List.map_congr_left
  intro c _
  exact low_c c
theorem strOf_inj {a b : List UInt8} (h : strOf a = strOf b) : a = b := by
  have h1 : a.map (·.toNat) = b.map (·.toNat) := by
    have := congrArg (fun s : Str => s.cps.toList) h
    exact this
  revert b
  induction a with
  | nil => intro b _ h1; cases b <;> first | rfl | cases h1
  | cons x a ih =>
    intro b _ h1
    cases b with
    | nil => cases h1
    | cons y b =>
      simp only [List.map_cons, List.cons.injEq] at h1
      rw [UInt8.toNat_inj.mp h1.1, ih (by unfold strOf; rw [h1.2]) h1.2]
theorem nil_iff {o : List UInt8} (h : ∀ c ∈ o, c.toNat < 128) : decide (lowStr (strOf o) = S "nil") = decide (low8 o = [110, 105, 108]) := by
  have e : S "nil" = strOf [110, 105, 108] := by decide +kernel
  rw [e, low_str]
  apply decide_eq_decide.mpr
  exact ⟨strOf_inj, fun h => by rw [h]⟩
section
variable {n : Nat} {σ σ₀ : St} {Q : Kt} {X : Xt} {C : Ct} {cl : Option Addr} {L : Addr} {m : N → Option V} {data : List UInt8} {p : Nat}
theorem e_at1in (J : Fp σ₀ σ L m) (h : m nData = some (.bytes data)) (hl : data.length ≤ 1000000) (hx : m nAt = some (.int p)) (q : Q (.bool (has data p [34] || has data p [123])) σ) :
    WE C cl (.inT false false at1 [.kx [34], .kx [123]]) L σ Q X := by
  (walk_at "w e")
  refine e_ch1 J h hl hx ?_
  (walk_at "w v"; walk_at "w e"; walk_at "w v"; walk_at "w e"; walk_at "w v")
  refine ⟨.inr ⟨⟨_, rfl⟩, fun w hw => ?_⟩, by show 2 ≤ 40; decide, ?_⟩
  · simp only [List.mem_cons, List.not_mem_nil, or_false] at hw
    rcases hw with rfl | rfl <;> exact ⟨_, rfl⟩
  have e : (false ^^ ([V.bytes [34], V.bytes [123]].any fun w => eqb w (V.bytes ((data.take (p + 1)).drop p)))) = (has data p [34] || has data p [123]) := by
    have key : ∀ c : UInt8, eqb (V.bytes [c]) (V.bytes ((data.take (p + 1)).drop p)) = has data p [c] := fun c => by
      rw [← at1_eq]
      show (([c] : List UInt8) == (data.take (p + 1)).drop p) = _
      apply Bool.eq_iff_iff.mpr
      rw [beq_iff_eq, decide_eq_true_eq]
      exact eq_comm
    simp only [List.any_cons, List.any_nil, Bool.or_false, Bool.false_xor, key]
  rw [e]; exact q
/-- a call with data and an offset -/
theorem e_call2 {f : F} {s : String} {x : N} (hf : isP f = true) (J : Fp σ₀ σ L m) (h : m nData = some (.bytes data)) (hx : m x = some (.int p)) (q : C f [.bytes data, .int p] σ Q X) : WE C cl (ntup f s [Mine.L nData, Mine.L x]) L σ Q X := by
  (walk_at "w e"; walk_at "w e"; walk_at "w v")
  refine f_loc J.fr h ?_
  (walk_at "w v")
  refine f_loc J.fr hx ?_
  (walk_at "w v")
  exact to_f hf q
theorem e_call3 {f : F} {s : String} {x : N} {b : List UInt8} (hf : isP f = true) (J : Fp σ₀ σ L m) (h : m nData = some (.bytes data)) (hx : m x = some (.int p)) (q : C f [.bytes data, .int p, .bytes b] σ Q X) : WE C cl (ntup f s [Mine.L nData, Mine.L x, .kx b]) L σ Q X := by
  (walk_at "w e"; walk_at "w e"; walk_at "w v")
  refine f_loc J.fr h ?_
  (walk_at "w v")
  refine f_loc J.fr hx ?_
  (walk_at "w v"; walk_at "w e"; walk_at "w v")
  exact to_f hf q
theorem w_lastring (hn : 3 ≤ n) (hl : data.length ≤ 100000) (hp : p ≤ data.length) (q : match rdA data p with | .ok b k => RTup Q σ [.bytes b, .int (k : Nat)] | .bad i => RTup Q σ (fV i)) : WC n .lAstring [.bytes data, .int p] σ Q X := by
  refine enterR [(nAt, .int p), (nData, .bytes data)] (by walk_at "w a") rfl rfl rfl fun L hL => ?_
  have J := Fp.enter (m := mk [(nAt, .int p), (nData, .bytes data)]) hL
  generalize σ.set L (.ns true (mk [(nAt, .int p), (nData, .bytes data)])) = σ₁ at J
  have hr := runTo_le isAs hp
  unfold rdA at q
  (walk_at "w s0")
  refine e_at1in J rfl (by walk_at "w a") rfl ⟨_, rfl, fun h => ?_, fun h => ?_⟩
  · rw [if_pos h] at q
    (walk_at "w s")
    refine e_call2 rfl J rfl rfl (w_lstring (by walk_at "w a") hl hp ?_)
    cases hz : rdS data p with
    | bad i =>
      rw [hz] at q
      intro a τ hle ha hA
      have J := (J.of_le hle).asg (x := nFound) (v := .ref a)
      refine (.mk ((‹Fp σ σ₁ L _›.of_le hle).bset) ?_)
      have aL : a ≠ L := fun z => by rw [z, ‹Fp σ σ₁ L _›.fr] at ha; cases ha
      have hA' : (setLoc τ L nFound (.ref a)) a = some (.tup (fV i)) := by first | exact (setLoc_ne aL).trans hA | (rw [setLoc_ne aL]; exact hA)
      generalize setLoc τ L nFound (.ref a) = τ' at J hA'
      (walk_at "w s"; walk_at "w e"; walk_at "w e"; walk_at "w e")
      refine f_loc J.fr rfl ?_
      (walk_at "w e")
      refine ⟨_, _, .inr hA', by decide, by decide, rfl, ?_⟩
      (walk_at "w e")
      refine (.mk (fun _ => ?_) (fun h => absurd h (by decide)))
      refine f_loc J.fr rfl ⟨_, St.le_refl _, q a _ J.le (‹Fp σ σ₁ L _›.none0 ha) ?_⟩
      rw [St.del_ne _ aL]; exact hA'
    | ok b k =>
      rw [hz] at q
      intro a τ hle ha hA
      have J := (J.of_le hle).asg (x := nFound) (v := .ref a)
      refine (.mk ((‹Fp σ σ₁ L _›.of_le hle).bset) ?_)
      have aL : a ≠ L := fun z => by rw [z, ‹Fp σ σ₁ L _›.fr] at ha; cases ha
      have hA' : (setLoc τ L nFound (.ref a)) a = some (.tup [.str (S "string"), .bytes b, .int (k : Nat)]) := by first | exact (setLoc_ne aL).trans hA | (rw [setLoc_ne aL]; exact hA)
      generalize setLoc τ L nFound (.ref a) = τ' at J hA'
      (walk_at "w s"; walk_at "w e"; walk_at "w e"; walk_at "w e")
      refine f_loc J.fr rfl ?_
      (walk_at "w e")
      refine ⟨_, _, .inr hA', by decide, by decide, rfl, ?_⟩
      (walk_at "w e")
      refine (.mk (fun h => absurd h (by decide)) (fun _ => ?_))
      (walk_at "w e")
      refine f_loc J.fr rfl ?_
      (walk_at "w o"; walk_at "w e"; walk_at "w o")
      refine ⟨_, hA', by decide, (by show (1 : Int) ≤ 3; decide), (by show 3 ≤ 1000; decide), fun r hr => ?_⟩
      exact ⟨_, St.le_refl _, q r _ (J.new hr).le (J.none0 hr) (ret_tup J hr)⟩
  · rw [if_neg (by rw [h]; decide)] at q
    dsimp only at q
    (walk_at "w n"; walk_at "w s")
    refine e_call3 rfl J rfl rfl (w_lrun (by walk_at "w a") hl hp (by decide) isAs_eq (.mk J.bset ?_))
    have J := J.asg (x := nEnd) (v := .int (runTo isAs data p : Nat))
    generalize setLoc σ₁ L nEnd (.int (runTo isAs data p : Nat)) = σ₂ at J
    (walk_at "w s"; walk_at "w e"; walk_at "w e")
    refine f_loc J.fr rfl (f_loc J.fr rfl (.mk (fun h => ?_) (fun h => ?_)))
    · have hlt : ¬ runTo isAs data p = p := by have := of_decide_eq_true h; lia
      rw [if_neg hlt] at q
      refine e_tup ?_
      (walk_at "w v")
      refine e_ch J rfl (by walk_at "w a") rfl rfl ?_
      (walk_at "w v")
      refine f_loc J.fr rfl ?_
      (walk_at "w v")
      exact J.tupRet q
    · have hlt : runTo isAs data p = p := by have := of_decide_eq_false h; lia
      rw [if_pos hlt] at q
      exact e_fault J rfl (J.tupRet q)
theorem w_lnstring (hn : 4 ≤ n) (hl : data.length ≤ 100000) (hp : p ≤ data.length) (q : match rdN data p with | .ok b k => RTup Q σ [vN b, .int (k : Nat)] | .bad i => RTup Q σ (fV i)) : WC n .lNstring [.bytes data, .int p] σ Q X := by
  refine enterR [(nAt, .int p), (nData, .bytes data)] (by walk_at "w a") rfl rfl rfl fun L hL => ?_
  have J := Fp.enter (m := mk [(nAt, .int p), (nData, .bytes data)]) hL
  generalize σ.set L (.ns true (mk [(nAt, .int p), (nData, .bytes data)])) = σ₁ at J
  have hr := runTo_le isAt hp
  unfold rdN at q
  have up : ∀ {vs : List V}, RTup Q σ vs → RTup (fun v τ => ∃ ρ, ρ.le (τ.del L) ∧ Q v ρ) σ₁ vs := fun {vs} q a τ hle ha hA => by
    have K := J.of_le hle
    have aL : a ≠ L := by first | exact neN ha J.fr | exact fun z => by rw [z, J.fr] at ha; cases ha
    exact ⟨_, St.le_refl _, q a _ K.le (J.none0 ha) (by first | exact (St.del_ne _ aL).trans hA | (rw [St.del_ne _ aL]; exact hA))⟩
  (walk_at "w s0")
  refine e_at1in J rfl (by walk_at "w a") rfl ⟨_, rfl, fun h => ?_, fun h => ?_⟩
  · rw [if_pos h] at q
    (walk_at "w s")
    refine e_call2 rfl J rfl rfl (w_lastring (by walk_at "w a") hl hp ?_)
    unfold rdA
    rw [if_pos h]
    cases hz : rdS data p with
    | bad i => rw [hz] at q; exact up q
    | ok b k => rw [hz] at q; exact up q
  · rw [if_neg (by rw [h]; decide)] at q
    dsimp only at q
    (walk_at "w n"; walk_at "w s")
    refine e_call3 rfl J rfl rfl (w_lrun (P := isAt) (by walk_at "w a") hl hp (by decide) (fun c _ _ => rfl) (.mk J.bset ?_))
    have J := J.asg (x := nEnd) (v := .int (runTo isAt data p : Nat))
    generalize setLoc σ₁ L nEnd (.int (runTo isAt data p : Nat)) = σ₂ at J
    have hall : ∀ c ∈ (data.take (runTo isAt data p)).drop p, c.toNat < 128 := fun c hc => asc_dec c (run_all hc)
    have hlen' := run_len_le (P := isAt) (data := data) (p := p)
    (walk_at "w s"; walk_at "w e"; walk_at "w e"; walk_at "w e")
    refine e_dec (x := nAt) (y := nEnd) J rfl (by walk_at "w a") rfl rfl hall ?_
    refine ⟨"str.lower", rfl, ?_⟩
    (walk_at "w v")
    refine ⟨by rw [strOf_len]; lia, strOf_lt hall, ?_⟩
    (walk_at "w e")
    refine (.mk (fun h => ?_) (fun h => ?_)) <;> (have h := (nil_iff hall).symm.trans h)
    · rw [if_pos (of_decide_eq_true h)] at q
      refine e_tup ?_
      (walk_at "w v"; walk_at "w e"; walk_at "w v")
      refine f_loc J.fr rfl ?_
      (walk_at "w v")
      exact J.tupRet q
    · rw [if_neg (of_decide_eq_false h)] at q
      exact e_fault J rfl (J.tupRet q)
theorem w_lflag (hn : 2 ≤ n) (hl : data.length ≤ 100000) (hp : p ≤ data.length) (q : let b := if has data p [92] then p + 1 else p
      if b < runTo isAt data b then RTup Q σ [.str (strOf ((data.take (runTo isAt data b)).drop p)), .int (runTo isAt data b : Nat)] else RTup Q σ (fV b)) : WC n .lFlag [.bytes data, .int p] σ Q X := by
  refine enterR [(nAt, .int p), (nData, .bytes data)] (by walk_at "w a") rfl rfl rfl fun L hL => ?_
  have J := Fp.enter (m := mk [(nAt, .int p), (nData, .bytes data)]) hL
  generalize σ.set L (.ns true (mk [(nAt, .int p), (nData, .bytes data)])) = σ₁ at J
  dsimp only at q
  have tail : ∀ b : Nat, b ≤ data.length → p ≤ b → (∀ c ∈ (data.take b).drop p, c.toNat < 128) → (if b < runTo isAt data b then RTup Q σ [.str (strOf ((data.take (runTo isAt data b)).drop p)), .int (runTo isAt data b : Nat)] else RTup Q σ (fV b)) →
      WS (WC (n - 1)) none [
        .asg nEnd (ntup .lRun "_law_run" [Mine.L nData, Mine.L nFirst, .kx [40, 41, 123, 37, 42, 34, 92, 93]]),
        .ret (.ite (.cmp .Gt (Mine.L nEnd) (Mine.L nFirst)) (.tup [dec (ch (Mine.L nAt) (Mine.L nEnd)), Mine.L nEnd]) (fault (Mine.L nFirst)))] L (setLoc σ₁ L nFirst (.int (b : Nat))) (fun fl τ => ∃ ρ, ρ.le (τ.del L) ∧ Q (retV fl) ρ) (fun e τ => ∃ ρ, ρ.le (τ.del L) ∧ X e ρ) := by
    intro b hb hpb hpre q
    have J := J.asg (x := nFirst) (v := .int (b : Nat))
    generalize setLoc σ₁ L nFirst (.int (b : Nat)) = σ₂ at J
    have hr := runTo_le isAt hb
    (walk_at "w s")
    refine e_call3 rfl J rfl rfl (w_lrun (P := isAt) (by walk_at "w a") hl hb (by decide) (fun c _ _ => rfl) (.mk J.bset ?_))
    have J := J.asg (x := nEnd) (v := .int (runTo isAt data b : Nat))
    generalize setLoc σ₂ L nEnd (.int (runTo isAt data b : Nat)) = σ₃ at J
    have hall : ∀ c ∈ (data.take (runTo isAt data b)).drop p, c.toNat < 128 := fun c hc => by
      have e : (data.take (runTo isAt data b)).drop p = (data.take b).drop p ++ (data.take (runTo isAt data b)).drop b := by
        have h1 : data.take (runTo isAt data b) = data.take b ++ (data.take (runTo isAt data b)).drop b := by
          conv => lhs; rw [← List.take_append_drop b (data.take (runTo isAt data b))]
          rw [List.take_take, Nat.min_eq_left hr.1]
        conv => lhs; rw [h1]
        rw [List.drop_append_of_le_length (by rw [List.length_take]; lia)]
      rw [e] at hc
      rcases List.mem_append.mp hc with hc | hc
      · exact hpre c hc
      · exact asc_dec c (run_all hc)
    (walk_at "w s"; walk_at "w e"; walk_at "w e")
    refine f_loc J.fr rfl (f_loc J.fr rfl (.mk (fun h => ?_) (fun h => ?_)))
    · have hlt : b < runTo isAt data b := by have := of_decide_eq_true h; lia
      rw [if_pos hlt] at q
      refine e_tup ?_
      (walk_at "w v")
      refine e_dec J rfl (by walk_at "w a") rfl rfl hall ?_
      (walk_at "w v")
      refine f_loc J.fr rfl ?_
      (walk_at "w v")
      exact J.tupRet q
    · have hlt : ¬ b < runTo isAt data b := by have := of_decide_eq_false h; lia
      rw [if_neg hlt] at q
      exact e_fault J rfl (J.tupRet q)
  (walk_at "w s0"; walk_at "w e"; walk_at "w e")
  refine e_ch1 (x := nAt) J rfl (by walk_at "w a") rfl ?_
  (walk_at "w e")
  refine (.mk (fun h => ?_) (fun h => ?_))
  · have e : has data p [92] = true := h
    rw [e] at q
    have e' := e
    rw [has_one, decide_eq_true_eq] at e'
    refine e_plus (x := nAt) (j := 1) J rfl ?_
    refine ⟨J.bset, tail (p + 1) (has_le e hp) (by walk_at "w a") (fun c hc => ?_) q⟩
    rw [List.drop_take, Nat.add_sub_cancel_left, drop_cons e'.1] at hc
    have : c = data.getD p 0 := by simpa using hc
    rw [this, e'.2]; decide
  · have e : has data p [92] = false := h
    rw [e] at q
    refine f_loc (x := nAt) J.fr rfl ?_
    refine ⟨J.bset, tail p hp (Nat.le_refl _) (fun c hc => ?_) q⟩
    rw [List.drop_take, Nat.sub_self] at hc; cases hc
end
end Mine
-- D18
namespace Mine
open IE IS N
theorem tw_all {α : Type} {F V : α → Bool} (h : ∀ a, F a = true → V a = true) : ∀ l : List α, ((l.takeWhile F).length = (l.takeWhile V).length ↔ (l.takeWhile V).all F = true) ∧ (l.takeWhile F).length ≤ (l.takeWhile V).length
  | [] => by simp
  | a :: l => by
    have ih := tw_all h l
    by_cases hF : F a = true
    · have hV := h a hF
      simp only [List.takeWhile_cons, hF, hV, if_true, List.length_cons, List.all_cons, Bool.true_and]
      exact ⟨by rw [← ih.1]; lia, by lia⟩
    · by_cases hV : V a = true
      · simp [List.takeWhile_cons, hF, hV]
      · simp [List.takeWhile_cons, hF, hV]
theorem fg_va : ∀ c : UInt8, isFg c.toNat = true → isVa c.toNat = true := by
  intro c
  have h : c.toNat < 256 := c.toNat_lt
  generalize c.toNat = n at h
  revert n
  decide +kernel
theorem run_all_iff {data : List UInt8} {p : Nat} : runTo isFg data p = runTo isVa data p ↔ ((data.take (runTo isVa data p)).drop p).all (fun c => isFg c.toNat) = true := by
  rw [run_eq, ← (tw_all fg_va (data.drop p)).1]
  unfold runTo
  lia
noncomputable def RTV (Q : Kt) (σ : St) : R T → Prop
  | .ok t k => ∀ a v τ, σ.le τ → σ a = none → τ a = some (.tup [v, .int (k : Nat)]) → IsTd τ v t → Q (.ref a) τ
  | .bad i => RTup Q σ (fV i)
theorem IsTd.ref {σ : St} {v : V} {t : T} (h : IsTd σ v t) : ∃ b xs, v = .ref b ∧ σ b = some (.tup xs) := by
  cases h <;> exact ⟨_, _, rfl, by assumption⟩
section
variable {n : Nat} {σ σ₀ : St} {Q : Kt} {X : Xt} {C : Ct} {cl : Option Addr} {L : Addr} {m : N → Option V} {data : List UInt8} {p : Nat}
theorem RTup.up {vs : List V} (J : Fp σ₀ σ L m) (q : RTup Q σ₀ vs) : RTup (fun v τ => ∃ ρ, ρ.le (τ.del L) ∧ Q v ρ) σ vs := fun a τ hle ha hA => by
  have K := J.of_le hle
  have aL : a ≠ L := by first | exact neN ha J.fr | exact fun z => by rw [z, J.fr] at ha; cases ha
  exact ⟨_, St.le_refl _, q a _ K.le (J.none0 ha) (by first | exact (St.del_ne _ aL).trans hA | (rw [St.del_ne _ aL]; exact hA))⟩
/-- a pair of a new tuple and an offset is given back -/
theorem pair_ret {b a : Addr} {vs : List V} {t : T} {k : Nat} (J : Fp σ₀ σ L m) (hb : σ b = none) (ha : (σ.set b (.tup vs)) a = none) (ht : ∀ ρ, TupLe σ ρ → ρ b = some (.tup vs) → IsTd ρ (.ref b) t) (q : RTV Q σ₀ (.ok t k)) :
    ∃ ρ, ρ.le (((σ.set b (.tup vs)).set a (.tup [.ref b, .int (k : Nat)])).del L) ∧ Q (.ref a) ρ := by
  have J1 := J.new (o := .tup vs) hb
  have J2 := J1.new (o := .tup [.ref b, .int (k : Nat)]) ha
  have hba : b ≠ a := fun z => by rw [← z, St.set_same] at ha; cases ha
  have hbL : b ≠ L := by first | exact neN hb J.fr | exact fun z => by rw [z, J.fr] at hb; cases hb
  refine ⟨_, St.le_refl _, q a (.ref b) _ J2.le (J1.none0 ha) (ret_tup J1 ha) (ht _ (fun c ws e => ?_) ?_)⟩
  · have n1 : c ≠ b := by first | exact neN e hb | exact fun z => by rw [z, hb] at e; cases e
    have n2 : c ≠ a := fun z => by rw [← z, St.set_ne _ _ n1, e] at ha; cases ha
    have n3 : c ≠ L := by first | exact neN e J.fr | exact fun z => by rw [z, J.fr] at e; cases e
    rw [St.del_ne _ n3, St.set_ne _ _ n2, St.set_ne _ _ n1]; exact e
  · rw [St.del_ne _ hbL, St.set_ne _ _ hba, St.set_same]
theorem e_sub {x : N} {a : Addr} {i : Nat} {xs : List V} {v : V} (J : Fp σ₀ σ L m) (hx : m x = some (.ref a)) (hA : σ a = some (.tup xs)) (hi : i < 10) (hv : xs[i]? = some v) (q : Q v σ) : WE C cl (.sub (Mine.L x) (.ki (i : Nat))) L σ Q X := by
  (walk_at "w e")
  refine f_loc J.fr hx ?_
  (walk_at "w e")
  exact ⟨xs, v, .inr hA, by lia, by lia, hv, q⟩
theorem w_lvalue : ∀ (k : Nat) {n dd : Nat} {σ : St} {Q : Kt} {X : Xt} {data : List UInt8} {p : Nat}, dd + k = 30 → k + 4 ≤ n → data.length ≤ 100000 → p ≤ data.length → RTV Q σ (rdV data k p) → WC n .lValue [.bytes data, .int p, .int dd] σ Q X := by
  intro k
  induction k using Nat.strongRecOn with
  | ind k ih => ?_
  intro n dd σ Q X data p hdd hn hl hp q
  refine enterR [(nDepth, .int dd), (nAt, .int p), (nData, .bytes data)] (by walk_at "w a") rfl rfl rfl fun L hL => ?_
  have J := Fp.enter (m := mk [(nDepth, .int dd), (nAt, .int p), (nData, .bytes data)]) hL
  generalize σ.set L (.ns true (mk [(nDepth, .int dd), (nAt, .int p), (nData, .bytes data)])) = σ₁ at J
  unfold rdV at q
  (walk_at "w s0")
  refine e_ch1 (x := nAt) J rfl (by walk_at "w a") rfl ⟨J.bset, ?_⟩
  have J := J.asg (x := nHead) (v := .bytes ((data.take (p + 1)).drop p))
  generalize setLoc σ₁ L nHead (.bytes ((data.take (p + 1)).drop p)) = σ₂ at J
  generalize hm : upd (mk [(nDepth, .int dd), (nAt, .int p), (nData, .bytes data)]) nHead (.bytes ((data.take (p + 1)).drop p)) = m at J
  have m1 : m nData = some (.bytes data) := by subst hm; rfl
  have m2 : m nAt = some (.int p) := by subst hm; rfl
  have m3 : m nHead = some (.bytes ((data.take (p + 1)).drop p)) := by subst hm; rfl
  have m4 : m nDepth = some (.int dd) := by subst hm; rfl
  clear hm
  (walk_at "w s")
  refine e_inQ (x := nHead) J m1 (by walk_at "w a") (fun Q h => f_loc J.fr m3 h) (.mk (fun h => ?_) (fun h => ?_))
  · -- a string
    rw [if_pos h] at q
    (walk_at "w s")
    refine e_call2 rfl J m1 m2 (w_lstring (by walk_at "w a") hl hp ?_)
    cases hz : rdS data p with
    | bad i =>
      rw [hz] at q
      intro a τ hle ha hA
      have aL : a ≠ L := by first | exact neN ha J.fr | exact fun z => by rw [z, J.fr] at ha; cases ha
      have K := (J.of_le hle).asg (x := nFound) (v := .ref a)
      have hA' : (setLoc τ L nFound (.ref a)) a = some (.tup (fV i)) := by first | exact (setLoc_ne aL).trans hA | (rw [setLoc_ne aL]; exact hA)
      refine (.mk ((J.of_le hle).bset) ?_)
      generalize setLoc τ L nFound (.ref a) = τ' at K hA'
      (walk_at "w s"; walk_at "w e"; walk_at "w e")
      refine e_sub K rfl hA' (i := 0) (by decide) rfl ?_
      (walk_at "w e")
      refine (.mk (fun _ => ?_) (fun h => absurd h (by decide)))
      refine f_loc K.fr rfl ⟨_, St.le_refl _, q a _ K.le (J.none0 ha) ?_⟩
      rw [St.del_ne _ aL]; exact hA'
    | ok b k =>
      rw [hz] at q
      intro a τ hle ha hA
      have aL : a ≠ L := by first | exact neN ha J.fr | exact fun z => by rw [z, J.fr] at ha; cases ha
      have K := (J.of_le hle).asg (x := nFound) (v := .ref a)
      have hA' : (setLoc τ L nFound (.ref a)) a = some (.tup [.str (S "string"), .bytes b, .int (k : Nat)]) := by first | exact (setLoc_ne aL).trans hA | (rw [setLoc_ne aL]; exact hA)
      refine (.mk ((J.of_le hle).bset) ?_)
      generalize setLoc τ L nFound (.ref a) = τ' at K hA'
      (walk_at "w s"; walk_at "w e"; walk_at "w e")
      refine e_sub K rfl hA' (i := 0) (by decide) rfl ?_
      (walk_at "w e")
      refine (.mk (fun h => absurd h (by decide)) (fun _ => ?_))
      refine e_tup ?_
      (walk_at "w v")
      refine e_tup ?_
      (walk_at "w v"; walk_at "w e"; walk_at "w v")
      refine e_sub K rfl hA' (i := 1) (by decide) rfl ?_
      (walk_at "w v")
      intro c hc _
      (walk_at "w v")
      have K2 := K.new (o := .tup [.str (S "string"), .bytes b]) hc
      have hA2 : (τ'.set c (.tup [.str (S "string"), .bytes b])) a = some (.tup [.str (S "string"), .bytes b, .int (k : Nat)]) := by
        rw [St.set_ne _ _ (by first | exact neS hA' hc | exact fun z => by rw [← z, hA'] at hc; cases hc)]; exact hA'
      refine e_sub K2 rfl hA2 (i := 2) (by decide) rfl ?_
      (walk_at "w v")
      exact fun r hr _ => pair_ret K hc hr (fun ρ _ e => .str e) q
  have hq : has data p [34] = false ∧ has data p [123] = false := by simpa using h
  rw [if_neg (by rw [h]; decide)] at q
  (walk_at "w n"; walk_at "w s"; walk_at "w e")
  refine f_loc J.fr m3 ?_
  (walk_at "w e")
  refine (.mk (fun h => ?_) (fun h => ?_))
  rotate_left
  · -- a plain value
    have e40 : has data p [40] = false := h
    rw [if_pos e40] at q
    unfold rdP at q
    dsimp only at q
    have hr := runTo_le isVa hp
    (walk_at "w n"; walk_at "w s")
    refine e_call3 rfl J m1 m2 (w_lrun (P := isVa) (by walk_at "w a") hl hp (by decide) (fun c _ _ => rfl) (.mk J.bset ?_))
    have J := J.asg (x := nEnd) (v := .int (runTo isVa data p : Nat))
    have hlen := run_len (P := isVa) (data := data) (p := p)
    have hall : ∀ c ∈ (data.take (runTo isVa data p)).drop p, isVa c.toNat = true := fun c hc => run_all hc
    have hasc : ∀ c ∈ (data.take (runTo isVa data p)).drop p, c.toNat < 128 := fun c hc => by have := isPr_le (Bool.and_eq_true_iff.mp (hall c hc)).1; lia
    have hfig := run_all_iff (data := data) (p := p)
    generalize setLoc σ₂ L nEnd (.int (runTo isVa data p : Nat)) = σ₃ at J
    have k1 : upd m nEnd (.int (runTo isVa data p : Nat)) nData = some (.bytes data) := m1
    have k2 : upd m nEnd (.int (runTo isVa data p : Nat)) nAt = some (.int p) := m2
    have k3 : upd m nEnd (.int (runTo isVa data p : Nat)) nEnd = some (.int (runTo isVa data p : Nat)) := rfl
    generalize upd m nEnd (.int (runTo isVa data p : Nat)) = m' at J k1 k2 k3
    (walk_at "w s"; walk_at "w e")
    refine f_loc J.fr k3 (f_loc J.fr k2 (.mk (fun h => ?_) (fun h => ?_)))
    · have he : runTo isVa data p = p := by have := of_decide_eq_true h; lia
      rw [if_pos he] at q
      exact s_fault J k2 q fun v ρ h => h
    have he : ¬ runTo isVa data p = p := by have := of_decide_eq_false h; lia
    rw [if_neg he] at q
    (walk_at "w n"; walk_at "w s"; walk_at "w e"; walk_at "w e")
    refine e_dec (x := nAt) (y := nEnd) J k1 (by walk_at "w a") k2 k3 hasc ?_
    refine ⟨"str.lower", rfl, ?_⟩
    (walk_at "w v")
    refine ⟨by rw [strOf_len]; lia, strOf_lt hasc, ?_⟩
    (walk_at "w e")
    refine (.mk (fun h => ?_) (fun h => ?_)) <;> (have h := (nil_iff hasc).symm.trans h)
    · rw [if_pos (of_decide_eq_true h)] at q
      (walk_at "w s")
      refine e_tup ?_
      (walk_at "w v")
      refine e_tup ?_
      (walk_at "w v"; walk_at "w e"; walk_at "w v")
      intro c hc _
      (walk_at "w v")
      refine f_loc (J.new hc).fr k3 ?_
      (walk_at "w v")
      exact fun r hr _ => pair_ret J hc hr (fun ρ _ e => .nil e) q
    rw [if_neg (of_decide_eq_false h)] at q
    (walk_at "w n"; walk_at "w s"; walk_at "w e")
    refine e_call2 rfl J k1 k2 (w_lfig (by walk_at "w a") hl hp (f_loc J.fr k3 (.mk (fun h => ?_) (fun h => ?_))))
    · have ha : ((data.take (runTo isVa data p)).drop p).all (fun c => isFg c.toNat) = true := hfig.mp (by have := of_decide_eq_true h; lia)
      rw [if_pos ha] at q
      (walk_at "w s"; walk_at "w e"; walk_at "w e"; walk_at "w e")
      refine f_loc J.fr k3 (f_loc J.fr k2 ?_)
      refine (.mk (fun h => ?_) (fun h => ?_))
      · have h19 : ¬ 19 < ((data.take (runTo isVa data p)).drop p).length := by have := of_decide_eq_true h; lia
        rw [if_neg h19] at q
        refine e_tup ?_
        (walk_at "w v")
        refine e_tup ?_
        (walk_at "w v"; walk_at "w e"; walk_at "w v")
        refine e_intdec J k1 (by walk_at "w a") k2 k3 (fun c hc => List.all_eq_true.mp ha c hc) (by walk_at "w a") (by walk_at "w a") ?_
        (walk_at "w v")
        intro c hc _
        (walk_at "w v")
        refine f_loc (J.new hc).fr k3 ?_
        (walk_at "w v")
        exact fun r hr _ => pair_ret J hc hr (fun ρ _ e => .num e) q
      · have h19 : 19 < ((data.take (runTo isVa data p)).drop p).length := by have := of_decide_eq_false h; lia
        rw [if_pos h19] at q
        exact e_fault J k2 (J.tupRet q)
    · have ha : ¬ ((data.take (runTo isVa data p)).drop p).all (fun c => isFg c.toNat) = true := fun z => by
        have := hfig.mpr z
        have := of_decide_eq_false h; lia
      rw [if_neg ha] at q
      (walk_at "w n"; walk_at "w s")
      refine e_tup ?_
      (walk_at "w v")
      refine e_tup ?_
      (walk_at "w v"; walk_at "w e"; walk_at "w v")
      refine e_dec (x := nAt) (y := nEnd) J k1 (by walk_at "w a") k2 k3 hasc ?_
      (walk_at "w v")
      intro c hc _
      (walk_at "w v")
      refine f_loc (J.new hc).fr k3 ?_
      (walk_at "w v")
      exact fun r hr _ => pair_ret J hc hr (fun ρ _ e => .atom e) q
  -- a list
  have e40 : has data p [40] = true := h
  rw [if_neg (by rw [e40]; decide)] at q
  have hp1 : p + 1 ≤ data.length := has_le e40 hp
  (walk_at "w s"; walk_at "w e")
  refine f_loc J.fr m4 ?_
  (walk_at "w e")
  refine (.mk (fun h => ?_) (fun h => ?_))
  · have hk : k = 0 := by have := of_decide_eq_true h; lia
    subst hk
    exact s_fault J m2 q fun v ρ h => h
  have hk : k ≠ 0 := by have := of_decide_eq_false h; lia
  obtain ⟨k, rfl⟩ : ∃ j, k = j + 1 := ⟨k - 1, by lia⟩
  dsimp only at q
  generalize hr : rdI data (rdV data k) (data.length - p) (p + 1) [] = r at q
  (walk_at "w n"; walk_at "w s"; walk_at "w e"; walk_at "w v")
  refine fun s hs => (.mk ((J.new hs).bset) ?_)
  have hsL : s ≠ L := by first | exact neN hs J.fr | exact neS J.fr hs | exact fun z => by subst z; rw [J.fr] at hs; cases hs
  have hs0 := J.none0 hs
  have J := (J.new (o := .list []) hs).asg (x := nSome) (v := .ref s)
  have hS : (setLoc (σ₂.set s (.list [])) L nSome (.ref s)) s = some (.list []) := by first | exact (setLoc_ne hsL).trans (St.set_same ..) | rw [setLoc_ne hsL, St.set_same]
  generalize setLoc (σ₂.set s (.list [])) L nSome (.ref s) = σ₃ at J hS
  (walk_at "w n")
  refine s_inc J m2 ?_
  have J := J.asg (x := nAt) (v := .int ((p + 1 : Nat) : Int))
  have hS : (setLoc σ₃ L nAt (.int ((p + 1 : Nat) : Int))) s = some (.list []) := by first | exact (setLoc_ne hsL).trans hS | (rw [setLoc_ne hsL]; exact hS)
  generalize setLoc σ₃ L nAt (.int ((p + 1 : Nat) : Int)) = σ₄ at J hS
  (walk_at "w s")
  refine ⟨fun f τ => ∃ p' m vs ts, Fp σ τ L m ∧ m nData = some (.bytes data) ∧ m nAt = some (.int (p' : Nat)) ∧ m nSome = some (.ref s) ∧ m nDepth = some (.int dd) ∧ τ s = some (.list vs) ∧ IsTds τ vs ts ∧ rdI data (rdV data k) f p' ts = r ∧ data.length < p' + f ∧ vs.length ≤ p' ∧ p' ≤ data.length,
    ⟨_, p + 1, _, [], [], J, m1, rfl, rfl, m4, hS, .nil, hr, by lia, Nat.zero_le _, hp1⟩, fun f τ hI => ?_⟩
  clear J hS hr m1 m2 m3 m4
  obtain ⟨p', m, vs, ts, J, m1, m2, m3, m4, hS, hv, hr, hf, hvl, hp'⟩ := hI
  obtain ⟨f, rfl⟩ : ∃ j, f = j + 1 := ⟨f - 1, by lia⟩
  unfold rdI at hr
  have hemp : ts.isEmpty = vs.isEmpty := by
    have := (IsTds_get hv).1
    cases vs <;> cases ts <;> first | rfl | cases this
  (walk_at "w e")
  refine e_ch1 J m1 (by walk_at "w a") m2 ?_
  (walk_at "w e")
  refine (.mk (fun h => ?_) (fun h => ?_))
  rotate_left
  · -- the end of the list
    have e : has data p' [41] = true := by
      have h' : (!has data p' [41]) = false := h
      simpa using h'
    rw [if_pos e] at hr
    rw [← hr] at q
    (walk_at "w s")
    refine e_tup ?_
    (walk_at "w v")
    refine e_tup ?_
    (walk_at "w v"; walk_at "w e"; walk_at "w v"; walk_at "w e"; walk_at "w e"; walk_at "w v")
    refine f_loc J.fr m3 ?_
    (walk_at "w v")
    refine ⟨vs, hS, by lia, fun c hc => ?_⟩
    (walk_at "w v")
    intro b hb _
    have J2 := J.new (o := .tup vs) hc
    have J3 := J2.new (o := .tup [.str (S "list"), .ref c]) hb
    (walk_at "w v"; walk_at "w e")
    refine f_loc J3.fr m2 ?_
    (walk_at "w e")
    refine fun r hr _ => pair_ret (k := p' + 1) J2 hb hr (fun ρ hT e => .lst e (hT _ _ (St.set_same ..)) (hv.mono fun a ws e => hT _ _ ?_)) q
    rw [St.set_ne _ _ (by first | exact neN e hc | exact fun z => by rw [z, hc] at e; cases e)]; exact e
  have e41 : has data p' [41] = false := by
    have h' : (!has data p' [41]) = true := h
    simpa using h'
  rw [if_neg (by rw [e41]; decide)] at hr
  -- behind the blank
  have tail : ∀ (p'' : Nat) (m : N → Option V) (τ' : St) (Qt : Ft), p' ≤ p'' → p'' ≤ data.length → Fp σ τ' L m → m nData = some (.bytes data) → m nAt = some (.int (p'' : Nat)) → m nSome = some (.ref s) → m nDepth = some (.int dd) → τ' s = some (.list vs) → IsTds τ' vs ts →
      (match rdV data k p'' with | .bad i => R.bad i | .ok t q => rdI data (rdV data k) f q (ts ++ [t])) = r →
      (∀ v ρ, (∃ ρ', ρ'.le (ρ.del L) ∧ Q v ρ') → Qt (.ret v) ρ) →
      (∀ ρ, (∃ p' m vs ts, Fp σ ρ L m ∧ m nData = some (.bytes data) ∧ m nAt = some (.int (p' : Nat)) ∧ m nSome = some (.ref s) ∧ m nDepth = some (.int dd) ∧ ρ s = some (.list vs) ∧ IsTds ρ vs ts ∧ rdI data (rdV data k) f p' ts = r ∧ data.length < p' + f ∧ vs.length ≤ p' ∧ p' ≤ data.length) → Qt .next ρ) →
      WS (WC (n - 1)) none [
        .asg nFound (ntup .lValue "_law_value" [Mine.L nData, Mine.L nAt, plus1 (Mine.L nDepth)]),
        .iff (.cmp .Eq (.sub (Mine.L nFound) (.ki 0)) (.ks (S "fault"))) [.ret (Mine.L nFound)] [],
        .expr (.bmeth (Mine.L nSome) (S "append") [.sub (Mine.L nFound) (.ki 0)]),
        .asg nAt (.sub (Mine.L nFound) (.ki 1))] L τ' Qt (fun e τ => ∃ ρ, ρ.le (τ.del L) ∧ X e ρ) := by
    intro p'' m τ' Qt h1 h2 J m1 m2 m3 m4 hS hv hr nr nx
    (walk_at "w s"; walk_at "w e"; walk_at "w e"; walk_at "w v")
    refine f_loc J.fr m1 ?_
    (walk_at "w v")
    refine f_loc J.fr m2 ?_
    (walk_at "w v")
    refine e_plus (j := 1) J m4 ?_
    (walk_at "w v")
    refine to_f rfl (ih k (by walk_at "w a") (dd := dd + 1) (by walk_at "w a") (by walk_at "w a") hl h2 ?_)
    cases hz : rdV data k p'' with
    | bad i =>
      rw [hz] at hr
      rw [← hr] at q
      intro a τ hle ha hA
      have aL : a ≠ L := by first | exact neN ha J.fr | exact fun z => by rw [z, J.fr] at ha; cases ha
      have K := (J.of_le hle).asg (x := nFound) (v := .ref a)
      have hA' : (setLoc τ L nFound (.ref a)) a = some (.tup (fV i)) := by first | exact (setLoc_ne aL).trans hA | (rw [setLoc_ne aL]; exact hA)
      refine (.mk ((J.of_le hle).bset) ?_)
      generalize setLoc τ L nFound (.ref a) = τ₂ at K hA'
      (walk_at "w s"; walk_at "w e")
      refine e_sub K rfl hA' (i := 0) (by decide) rfl ?_
      (walk_at "w e")
      refine (.mk (fun _ => ?_) (fun h => absurd h (by decide)))
      (walk_at "w s")
      refine f_loc K.fr rfl (nr _ _ ⟨_, St.le_refl _, q a _ K.le (J.none0 ha) ?_⟩)
      rw [St.del_ne _ aL]; exact hA'
    | ok t k' =>
      rw [hz] at hr
      dsimp only at hr
      intro a v τ hle ha hA htd
      have hk' := rdV_le _ _ _ _ h2 hz
      have aL : a ≠ L := by first | exact neN ha J.fr | exact fun z => by rw [z, J.fr] at ha; cases ha
      have K0 := J.of_le hle
      have hT0 : TupLe τ (setLoc τ L nFound (.ref a)) := fun b ws e => by
        rw [setLoc_ne (by first | exact neN e K0.fr | exact fun z => by rw [z, K0.fr] at e; cases e)]; exact e
      have hS0 : (setLoc τ L nFound (.ref a)) s = some (.list vs) := by rw [setLoc_ne hsL]; exact hle _ _ hS
      have K := K0.asg (x := nFound) (v := .ref a)
      have hA' := hT0 _ _ hA
      have hv0 := (hv.mono (TupLe.of hle)).mono hT0
      have ht0 := htd.mono hT0
      refine (.mk K0.bset ?_)
      generalize setLoc τ L nFound (.ref a) = τ₂ at K hA' hS0 hv0 ht0
      clear hT0
      obtain ⟨b, xs, rfl, hb⟩ := ht0.ref
      (walk_at "w s"; walk_at "w e")
      refine e_sub K rfl hA' (i := 0) (by decide) rfl ?_
      (walk_at "w e")
      refine ⟨⟨xs, hb⟩, _, rfl, (fun h => by cases h), fun _ => ?_⟩
      (walk_at "w n"; walk_at "w s"; walk_at "w e")
      refine f_loc K.fr m3 ⟨"list.append", by unfold methId; dsimp only; rw [if_pos rfl, hS0], ?_⟩
      (walk_at "w v")
      refine e_sub K rfl hA' (i := 0) (by decide) rfl ?_
      (walk_at "w v")
      refine ⟨vs, hS0, by lia, rfl, ?_⟩
      have hT : TupLe τ₂ (τ₂.set s (.list (vs ++ [.ref b]))) := fun c ws e => by
        rw [St.set_ne _ _ (by first | exact neN e hS0 | exact fun z => by rw [z, hS0] at e; cases e)]; exact e
      have K2 := K.put (o := .list (vs ++ [.ref b])) hs0 hsL
      have hA2 := hT _ _ hA'
      have hv2 := (IsTds.snoc hv0 ht0).mono hT
      have hS2 : (τ₂.set s (.list (vs ++ [V.ref b]))) s = some (.list (vs ++ [V.ref b])) := St.set_same ..
      generalize τ₂.set s (.list (vs ++ [.ref b])) = τ₃ at K2 hA2 hv2 hS2
      (walk_at "w s")
      refine e_sub K2 rfl hA2 (i := 1) (by decide) rfl (.mk K2.bset ?_)
      (walk_at "w n")
      refine nx _ ⟨k', _, vs ++ [.ref b], ts ++ [t], K2.asg (x := nAt) (v := .int (k' : Nat)), m1, rfl, m3, m4, ?_, hv2.mono fun c ws e => ?_, hr, by lia, by rw [List.length_append]; show vs.length + 1 ≤ k'; lia, hk'.1⟩
      · rw [setLoc_ne hsL]; exact hS2
      · rw [setLoc_ne (by first | exact neN e K2.fr | exact fun z => by rw [z, K2.fr] at e; cases e)]; exact e
  (walk_at "w s"; walk_at "w e")
  refine f_loc J.fr m3 ?_
  (walk_at "w e"; walk_at "w v")
  intro b hb
  have hbs : s ≠ b := by first | exact neS hS hb | exact fun z => by rw [← z, hS] at hb; cases hb
  have J := J.new (o := .list []) hb
  have hS1 : (τ.set b (.list [])) s = some (.list vs) := by first | exact (St.set_ne _ _ hbs).trans hS | (rw [St.set_ne _ _ hbs]; exact hS)
  have hv1 := hv.mono (TupLe.of (show τ.le (τ.set b (.list [])) from St.le_set hb))
  refine .inl ⟨vs, hS1, St.set_same .., _, rfl, fun h => ?_, fun h => ?_⟩
  · have hne : vs.isEmpty = false := by simpa using h
    rw [hemp, hne] at hr
    (walk_at "w s"; walk_at "w e")
    refine e_ch1 J m1 (by walk_at "w a") m2 ?_
    (walk_at "w e")
    refine (.mk (fun h => ?_) (fun h => ?_))
    · have e32 : has data p' [32] = false := by
        have h' : (!has data p' [32]) = true := h
        simpa using h'
      rw [if_pos ⟨rfl, e32⟩] at hr
      rw [← hr] at q
      exact s_fault J m2 q fun v ρ h => h
    · have e32 : has data p' [32] = true := by
        have h' : (!has data p' [32]) = false := h
        simpa using h'
      rw [if_neg (fun z => by rw [e32] at z; exact absurd z.2 (by decide))] at hr
      (walk_at "w n"; walk_at "w n")
      refine s_inc J m2 ?_
      (walk_at "w n")
      refine tail (p' + 1) _ _ _ (by walk_at "w a") (has_le e32 hp') (J.asg (x := nAt) (v := .int ((p' + 1 : Nat) : Int))) m1 rfl m3 m4 (by first | exact (setLoc_ne hsL).trans hS1 | (rw [setLoc_ne hsL]; exact hS1)) (hv1.mono fun c ws e => ?_) hr (fun v ρ h => h) fun ρ hI => ⟨f, ρ, by lia, St.le_refl _, hI⟩
      rw [setLoc_ne (by first | exact neN e J.fr | exact fun z => by rw [z, J.fr] at e; cases e)]; exact e
  · have hne : vs.isEmpty = true := by simpa using h
    rw [hemp, hne, if_neg (fun z => absurd z.1 (by decide))] at hr
    (walk_at "w n")
    exact tail p' _ _ _ (Nat.le_refl _) hp' J m1 m2 m3 m4 hS1 hv1 hr (fun v ρ h => h) fun ρ hI => ⟨f, ρ, by lia, St.le_refl _, hI⟩
end
end Mine
-- D19
namespace Mine
open IE IS N
/-- what _law_numbers gives -/
noncomputable def RTNs (Q : Kt) (σ : St) : R (List Int) → Prop
  | .ok l k => ∀ a s τ, σ.le τ → σ a = none → τ a = some (.tup [.ref s, .int (k : Nat)]) → τ s = some (.list (l.map V.int)) → Q (.ref a) τ
  | .bad i => RTup Q σ (fV i)
section
variable {n : Nat} {σ σ₀ : St} {Q : Kt} {X : Xt} {C : Ct} {cl : Option Addr} {L : Addr} {m : N → Option V} {data : List UInt8} {p : Nat}
theorem w_lnumbers (hn : 4 ≤ n) (hl : data.length ≤ 100000) (hp : p ≤ data.length) (q : RTNs Q σ (rdNL data p)) : WC n .lNumbers [.bytes data, .int p] σ Q X := by
  refine enterR [(nAt, .int p), (nData, .bytes data)] (by walk_at "w a") rfl rfl rfl fun L hL => ?_
  have J := Fp.enter (m := mk [(nAt, .int p), (nData, .bytes data)]) hL
  generalize σ.set L (.ns true (mk [(nAt, .int p), (nData, .bytes data)])) = σ₁ at J
  unfold rdNL at q
  (walk_at "w s0"; walk_at "w e")
  refine e_ch1 (x := nAt) J rfl (by walk_at "w a") rfl ?_
  (walk_at "w e")
  refine ⟨_, rfl, fun h => ?_, fun h => ?_⟩
  · have e : has data p [40] = false := by
      have h' : (!has data p [40]) = true := h
      simpa using h'
    rw [if_neg (by rw [e]; decide)] at q
    exact s_fault J rfl q fun v ρ h => h
  have e40 : has data p [40] = true := by
    have h' : (!has data p [40]) = false := h
    simpa using h'
  rw [if_pos e40] at q
  have hp1 : p + 1 ≤ data.length := has_le e40 hp
  generalize hr : rdNs data (data.length - p) (p + 1) [] = r at q
  (walk_at "w n"; walk_at "w s"; walk_at "w e"; walk_at "w v")
  refine fun s hs => (.mk ((J.new hs).bset) ?_)
  have hsL : s ≠ L := by first | exact neN hs J.fr | exact neS J.fr hs | exact fun z => by subst z; rw [J.fr] at hs; cases hs
  have hs0 := J.none0 hs
  have J := (J.new (o := .list []) hs).asg (x := nSome) (v := .ref s)
  have hS : (setLoc (σ₁.set s (.list [])) L nSome (.ref s)) s = some (.list []) := by first | exact (setLoc_ne hsL).trans (St.set_same ..) | rw [setLoc_ne hsL, St.set_same]
  generalize setLoc (σ₁.set s (.list [])) L nSome (.ref s) = σ₃ at J hS
  (walk_at "w n")
  refine s_inc J rfl ?_
  have J := J.asg (x := nAt) (v := .int ((p + 1 : Nat) : Int))
  have hS : (setLoc σ₃ L nAt (.int ((p + 1 : Nat) : Int))) s = some (.list []) := by first | exact (setLoc_ne hsL).trans hS | (rw [setLoc_ne hsL]; exact hS)
  generalize setLoc σ₃ L nAt (.int ((p + 1 : Nat) : Int)) = σ₄ at J hS
  (walk_at "w s")
  refine ⟨fun f τ => ∃ p' m ts, Fp σ τ L m ∧ m nData = some (.bytes data) ∧ m nAt = some (.int (p' : Nat)) ∧ m nSome = some (.ref s) ∧ τ s = some (.list (ts.map V.int)) ∧ rdNs data f p' ts = r ∧ data.length < p' + f ∧ ts.length ≤ p' ∧ p' ≤ data.length,
    ⟨_, p + 1, _, [], J, rfl, rfl, rfl, hS, hr, by lia, Nat.zero_le _, hp1⟩, fun f τ hI => ?_⟩
  clear J hS hr
  obtain ⟨p', m, ts, J, m1, m2, m3, hS, hr, hf, hvl, hp'⟩ := hI
  obtain ⟨f, rfl⟩ : ∃ j, f = j + 1 := ⟨f - 1, by lia⟩
  unfold rdNs at hr
  (walk_at "w e")
  refine e_ch1 J m1 (by walk_at "w a") m2 ?_
  (walk_at "w e")
  refine (.mk (fun h => ?_) (fun h => ?_))
  rotate_left
  · have e : has data p' [41] = true := by
      have h' : (!has data p' [41]) = false := h
      simpa using h'
    rw [if_pos e] at hr
    rw [← hr] at q
    (walk_at "w s")
    refine e_tup ?_
    (walk_at "w v")
    refine f_loc J.fr m3 ?_
    (walk_at "w v"; walk_at "w e")
    refine f_loc J.fr m2 ?_
    (walk_at "w e")
    refine fun r hr _ => ⟨_, St.le_refl _, q r s _ (J.new hr).le (J.none0 hr) (ret_tup J hr) ?_⟩
    rw [St.del_ne _ hsL, St.set_ne _ _ (by first | exact neS hS hr | exact fun z => by rw [← z, hS] at hr; cases hr)]; exact hS
  have e41 : has data p' [41] = false := by
    have h' : (!has data p' [41]) = true := h
    simpa using h'
  rw [if_neg (by rw [e41]; decide)] at hr
  have tail : ∀ (p'' : Nat) (m : N → Option V) (τ' : St) (Qt : Ft), p' ≤ p'' → p'' ≤ data.length → Fp σ τ' L m → m nData = some (.bytes data) → m nAt = some (.int (p'' : Nat)) → m nSome = some (.ref s) → τ' s = some (.list (ts.map V.int)) →
      (match rdNum data p'' with | .bad i => R.bad i | .ok t q => rdNs data f q (ts ++ [t])) = r →
      (∀ v ρ, (∃ ρ', ρ'.le (ρ.del L) ∧ Q v ρ') → Qt (.ret v) ρ) →
      (∀ ρ, (∃ p' m ts, Fp σ ρ L m ∧ m nData = some (.bytes data) ∧ m nAt = some (.int (p' : Nat)) ∧ m nSome = some (.ref s) ∧ ρ s = some (.list (ts.map V.int)) ∧ rdNs data f p' ts = r ∧ data.length < p' + f ∧ ts.length ≤ p' ∧ p' ≤ data.length) → Qt .next ρ) →
      WS (WC (n - 1)) none [
        .asg nFound (ntup .lNumber "_law_number" [Mine.L nData, Mine.L nAt]),
        .iff (.cmp .Eq (.sub (Mine.L nFound) (.ki 0)) (.ks (S "fault"))) [.ret (Mine.L nFound)] [],
        .expr (.bmeth (Mine.L nSome) (S "append") [.sub (Mine.L nFound) (.ki 0)]),
        .asg nAt (.sub (Mine.L nFound) (.ki 1))] L τ' Qt (fun e τ => ∃ ρ, ρ.le (τ.del L) ∧ X e ρ) := by
    intro p'' m τ' Qt h1 h2 J m1 m2 m3 hS hr nr nx
    (walk_at "w s")
    refine e_call2 rfl J m1 m2 (w_lnumber (by walk_at "w a") hl h2 ?_)
    cases hz : rdNum data p'' with
    | bad i =>
      rw [hz] at hr
      rw [← hr] at q
      intro a τ hle ha hA
      have aL : a ≠ L := by first | exact neN ha J.fr | exact fun z => by rw [z, J.fr] at ha; cases ha
      have K := (J.of_le hle).asg (x := nFound) (v := .ref a)
      have hA' : (setLoc τ L nFound (.ref a)) a = some (.tup (fV i)) := by first | exact (setLoc_ne aL).trans hA | (rw [setLoc_ne aL]; exact hA)
      refine (.mk ((J.of_le hle).bset) ?_)
      generalize setLoc τ L nFound (.ref a) = τ₂ at K hA'
      (walk_at "w s"; walk_at "w e")
      refine e_sub K rfl hA' (i := 0) (by decide) rfl ?_
      (walk_at "w e")
      refine (.mk (fun _ => ?_) (fun h => absurd h (by decide)))
      (walk_at "w s")
      refine f_loc K.fr rfl (nr _ _ ⟨_, St.le_refl _, q a _ K.le (J.none0 ha) ?_⟩)
      rw [St.del_ne _ aL]; exact hA'
    | ok t k' =>
      rw [hz] at hr
      dsimp only at hr
      intro a τ hle ha hA
      have hk' := rdNum_le h2 hz
      have aL : a ≠ L := by first | exact neN ha J.fr | exact fun z => by rw [z, J.fr] at ha; cases ha
      have K0 := J.of_le hle
      have hS0 : (setLoc τ L nFound (.ref a)) s = some (.list (ts.map V.int)) := by rw [setLoc_ne hsL]; exact hle _ _ hS
      have K := K0.asg (x := nFound) (v := .ref a)
      have hA' : (setLoc τ L nFound (.ref a)) a = some (.tup [.int t, .int (k' : Nat)]) := by first | exact (setLoc_ne aL).trans hA | (rw [setLoc_ne aL]; exact hA)
      refine (.mk K0.bset ?_)
      generalize setLoc τ L nFound (.ref a) = τ₂ at K hA' hS0
      (walk_at "w s"; walk_at "w e")
      refine e_sub K rfl hA' (i := 0) (by decide) rfl ?_
      (walk_at "w e")
      refine (.mk (fun h => by cases h) (fun _ => ?_))
      (walk_at "w n"; walk_at "w s"; walk_at "w e")
      refine f_loc K.fr m3 ⟨"list.append", by unfold methId; dsimp only; rw [if_pos rfl, hS0], ?_⟩
      (walk_at "w v")
      refine e_sub K rfl hA' (i := 0) (by decide) rfl ?_
      (walk_at "w v")
      refine ⟨_, hS0, by rw [List.length_map]; lia, rfl, ?_⟩
      have has : a ≠ s := by first | exact neN hA' hS0 | exact fun z => by rw [z, hS0] at hA'; cases hA'
      have K2 := K.put (o := .list (ts.map V.int ++ [.int t])) hs0 hsL
      have hA2 : (τ₂.set s (.list (ts.map V.int ++ [.int t]))) a = some (.tup [.int t, .int (k' : Nat)]) := by first | exact (St.set_ne _ _ has).trans hA' | (rw [St.set_ne _ _ has]; exact hA')
      have hS2 : (τ₂.set s (.list (ts.map V.int ++ [.int t]))) s = some (.list ((ts ++ [t]).map V.int)) := by rw [St.set_same, List.map_append]; rfl
      generalize τ₂.set s (.list (ts.map V.int ++ [.int t])) = τ₃ at K2 hA2 hS2
      (walk_at "w s")
      refine e_sub K2 rfl hA2 (i := 1) (by decide) rfl (.mk K2.bset ?_)
      (walk_at "w n")
      refine nx _ ⟨k', _, ts ++ [t], K2.asg (x := nAt) (v := .int (k' : Nat)), m1, rfl, m3, ?_, hr, by lia, by rw [List.length_append]; show ts.length + 1 ≤ k'; lia, hk'.1⟩
      rw [setLoc_ne hsL]; exact hS2
  (walk_at "w s"; walk_at "w e")
  refine f_loc J.fr m3 ?_
  (walk_at "w e"; walk_at "w v")
  intro b hb
  have hbs : s ≠ b := by first | exact neS hS hb | exact fun z => by rw [← z, hS] at hb; cases hb
  have J := J.new (o := .list []) hb
  have hS1 : (τ.set b (.list [])) s = some (.list (ts.map V.int)) := by first | exact (St.set_ne _ _ hbs).trans hS | (rw [St.set_ne _ _ hbs]; exact hS)
  have hemp : (ts.map V.int).isEmpty = ts.isEmpty := by cases ts <;> rfl
  refine .inl ⟨_, hS1, St.set_same .., _, rfl, fun h => ?_, fun h => ?_⟩
  · have hne : ts.isEmpty = false := by rw [← hemp]; simpa using h
    rw [hne] at hr
    (walk_at "w s"; walk_at "w e")
    refine e_ch1 J m1 (by walk_at "w a") m2 ?_
    (walk_at "w e")
    refine (.mk (fun h => ?_) (fun h => ?_))
    · have e32 : has data p' [32] = false := by
        have h' : (!has data p' [32]) = true := h
        simpa using h'
      rw [if_pos ⟨rfl, e32⟩] at hr
      rw [← hr] at q
      exact s_fault J m2 q fun v ρ h => h
    · have e32 : has data p' [32] = true := by
        have h' : (!has data p' [32]) = false := h
        simpa using h'
      rw [if_neg (fun z => by rw [e32] at z; exact absurd z.2 (by decide))] at hr
      (walk_at "w n"; walk_at "w n")
      refine s_inc J m2 ?_
      (walk_at "w n")
      exact tail (p' + 1) _ _ _ (by walk_at "w a") (has_le e32 hp') (J.asg (x := nAt) (v := .int ((p' + 1 : Nat) : Int))) m1 rfl m3 (by first | exact (setLoc_ne hsL).trans hS1 | (rw [setLoc_ne hsL]; exact hS1)) hr (fun v ρ h => h) fun ρ hI => ⟨f, ρ, by lia, St.le_refl _, hI⟩
  · have hne : ts.isEmpty = true := by rw [← hemp]; simpa using h
    rw [hne, if_neg (fun z => absurd z.1 (by decide))] at hr
    (walk_at "w n")
    exact tail p' _ _ _ (Nat.le_refl _) hp' J m1 m2 m3 hS1 hr (fun v ρ h => h) fun ρ hI => ⟨f, ρ, by lia, St.le_refl _, hI⟩
end
end Mine
-- D20
namespace Mine
open IE IS N
noncomputable def big50 : Int := 100000000000000000000000000000000000000000000000000
theorem p50 : (10 : Int) ^ (50 : Int).toNat = big50 := by decide +kernel
theorem p60 : big50 ≤ 10 ^ 60 := by decide +kernel
theorem p10 : (10 : Int) ≤ 10 ^ 60 := by decide +kernel
theorem p120 : (0 : Int) < 10 ^ (120 : Int).toNat := by decide +kernel
theorem ListAt.keep {σ τ : St} {s : Addr} {xs : List V} (h : ListAt σ s xs) (k : ∀ b o, σ b = some o → τ b = some o) : ListAt τ s xs := by
  rcases h with h | ⟨vs, n, h, e⟩
  · exact .inl (k _ _ h)
  · exact .inr ⟨vs, n, k _ _ h, e⟩
section
variable {n : Nat} {σ σ₀ : St} {Q : Kt} {X : Xt} {C : Ct} {cl : Option Addr} {L : Addr} {m : N → Option V} {data : List UInt8} {p : Nat}
theorem Fp.newLe {r : Addr} {o : AO} (J : Fp σ₀ σ L m) (hr : σ r = none) : (σ₀.set r o).le ((σ.set r o).del L) := fun c o' e => by
  have rL : r ≠ L := by first | exact neN hr J.fr | exact fun z => by rw [z, J.fr] at hr; cases hr
  by_cases hc : c = r
  · subst hc; rw [St.set_same] at e; rw [St.del_ne _ rL, St.set_same]; exact e
  · rw [St.set_ne _ _ hc] at e
    rw [St.del_ne _ (by first | exact neN e J.L0 | exact fun z => by rw [z, J.L0] at e; cases e), St.set_ne _ _ hc]; exact J.keep _ _ e
/-- the bag: one number that is not below zero -/
theorem w_bag {s : Addr} {is : List Int} (hn : 1 ≤ n) (hs : ListAt σ s (is.map V.int)) (hlen : is.length ≤ 1000) (q : ∀ a x, σ a = none → 0 ≤ x → Q (.ref a) (σ.set a (.list [.int x]))) : WC n .lBag [.ref s] σ Q X := by
  refine enterR [(nScript, .ref s)] (by walk_at "w a") rfl rfl rfl fun L hL => ?_
  have J := Fp.enter (m := mk [(nScript, .ref s)]) hL
  generalize σ.set L (.ns true (mk [(nScript, .ref s)])) = σ₁ at J
  (walk_at "w s0"; walk_at "w e")
  refine ⟨J.bset, ?_⟩
  have J := J.asg (x := nNumber) (v := .int 7)
  generalize setLoc σ₁ L nNumber (.int 7) = σ₂ at J
  (walk_at "w s"; walk_at "w e")
  refine f_loc J.fr rfl ?_
  (walk_at "w o"; walk_at "w o"; walk_at "w e")
  refine ⟨_, hs.keep J.keep, by decide, by rw [List.length_map]; exact hlen, fun b hb => ?_⟩
  have J := J.new (o := .list ((is.map V.int).take (24 : Int).toNat)) hb
  have hB : (σ₂.set b (.list ((is.map V.int).take (24 : Int).toNat))) b = some (.list ((is.map V.int).take (24 : Int).toNat)) := St.set_same ..
  generalize hitems : (is.map V.int).take (24 : Int).toNat = items at J hB
  have hints : ∀ v ∈ items, ∃ i, v = V.int i := fun v hv => by
    rw [← hitems] at hv
    obtain ⟨i, _, rfl⟩ := List.mem_map.mp (List.mem_of_mem_take hv)
    exact ⟨i, rfl⟩
  have hil : items.length ≤ 1000 := by rw [← hitems, List.length_take, List.length_map]; lia
  generalize σ₂.set b (.list items) = σ₃ at J hB
  refine ⟨.ref b, items, by unfold seqOf; dsimp only; rw [hB]; dsimp only; rw [if_pos (by walk_at "w a")], fun it hit => ?_⟩
  have hbit : b ≠ it := by first | exact neN hB hit | exact fun z => by rw [z, hit] at hB; cases hB
  have hbL : b ≠ L := by first | exact neN hB J.fr | exact fun z => by rw [z, J.fr] at hB; cases hB
  refine ⟨fun i τ => ∃ m x, Fi σ τ L it (.ref b) i m ∧ m nNumber = some (.int x) ∧ 0 ≤ x ∧ τ b = some (.list items), ⟨_, 7, Fi.start J hit, rfl, by decide, by first | exact (St.set_ne _ _ hbit).trans hB | (rw [St.set_ne _ _ hbit]; exact hB)⟩, ?_⟩
  rintro i τ ⟨m, x, K, hm, hx, hB⟩ hi
  refine ⟨(fun l e => by cases e; exact hB), K.at_, fun v hv => ⟨⟨m, K.J.fr⟩, ?_⟩, fun hi' => ?_⟩
  · obtain ⟨c, rfl⟩ := hints v (List.mem_of_getElem? hv)
    have K := K.turn (x := nCell) (v := .int c)
    have hB : (setLoc (τ.set it (.iter (.ref b) (i + 1))) L nCell (.int c)) b = some (.list items) := by rw [setLoc_ne hbL, St.set_ne _ _ hbit]; exact hB
    generalize setLoc (τ.set it (.iter (.ref b) (i + 1))) L nCell (.int c) = τ' at K hB
    (walk_at "w s"; walk_at "w e"; walk_at "w e")
    refine f_loc K.J.fr (show upd m nCell _ nNumber = _ from hm) ?_
    (walk_at "w e")
    refine ⟨by decide, ?_⟩
    (walk_at "w e")
    refine f_loc K.J.fr rfl ?_
    (walk_at "w e"; walk_at "w e")
    (walk_at "w e")
    refine ⟨⟨by decide, p10, by decide, by decide⟩, p120, .mk K.J.bset ?_⟩
    (walk_at "w n")
    refine ⟨_, St.le_refl _, _, _, K.asg, rfl, ?_, by first | exact (setLoc_ne hbL).trans hB | (rw [setLoc_ne hbL]; exact hB)⟩
    have h1 := Int.emod_nonneg c (Int.ne_of_gt p120)
    lia
  · have J := K.over
    (walk_at "w s"; walk_at "w e")
    refine f_loc J.fr hm ?_
    (walk_at "w e"; walk_at "w e")
    (walk_at "w e")
    refine ⟨⟨by decide, p10, by decide, by decide⟩, _, rfl, fun h => ?_, fun h => ?_⟩
    · have h := of_decide_eq_true h
      rw [p50] at h
      have h60 := p60
      (walk_at "w s"; walk_at "w e")
      refine f_loc J.fr hm ?_
      (walk_at "w e")
      refine ⟨⟨hx, by lia, by decide, by decide⟩, .mk J.bset ?_⟩
      have J := J.asg (x := nNumber) (v := .int (x ^ (7 : Int).toNat))
      (walk_at "w n"; walk_at "w s"; walk_at "w e"; walk_at "w v")
      refine f_loc J.fr rfl ?_
      (walk_at "w v")
      intro r hr
      exact ⟨_, J.newLe hr, q r _ (J.none0 hr) (Int.pow_nonneg hx)⟩
    · (walk_at "w n"; walk_at "w s"; walk_at "w e"; walk_at "w v")
      refine f_loc J.fr hm ?_
      (walk_at "w v")
      intro r hr
      exact ⟨_, J.newLe hr, q r _ (J.none0 hr) hx⟩
theorem Fr0.bset' {d : Addr} (J : Fr0 σ₀ σ L d m) : ∃ m, σ L = some (.ns true m) := ⟨m, J.fr⟩
/-! the octets -/
noncomputable def pieces : List (List UInt8) := [[40], [41], [32], [34], [92], [110, 105, 108], [78, 73, 76], [97], [55], [123, 49, 125, 13, 10], [123, 51, 43, 125, 13, 10], [123, 48, 125, 13, 10], [123, 57, 57, 125, 13, 10],
  [123, 50, 125], [123, 43, 125], [123, 49, 50, 51, 52, 53, 54, 55, 56, 57, 48, 49, 125, 13, 10], [49, 50, 51, 52, 53, 54, 55, 56, 57, 48, 49, 50, 51, 52, 53, 54, 55, 56, 57], [48], [98, 42, 37], [93], [43], [13], [10], [125],
  [0], [127], [255], [123], [58], [44], [92, 34], [34, 120, 34]]
theorem Fr0.asg {d : Addr} (J : Fr0 σ₀ σ L d m) {x : N} {v : V} : Fr0 σ₀ (setLoc σ L x v) L d (upd m x v) := by
  unfold setLoc; rw [J.fr]; dsimp only
  exact ⟨St.set_same .., fun b o hb h => by rw [St.set_ne _ _ (by first | exact neN h J.L0 | exact neS J.L0 h | exact fun z => by subst z; rw [J.L0] at h; cases h)]; exact J.keep b o hb h, J.L0, J.ne⟩
theorem Fr0.new {d a : Addr} {o : AO} (J : Fr0 σ₀ σ L d m) (h : σ a = none) : Fr0 σ₀ (σ.set a o) L d m :=
  ⟨by first | exact (St.set_ne _ _ (by first | exact neN h J.fr | exact neS J.fr h | exact fun z => by subst z; rw [J.fr] at h; cases h)).trans J.fr | (rw [St.set_ne _ _ (by first | exact neN h J.fr | exact neS J.fr h | exact fun z => by subst z; rw [J.fr] at h; cases h)]; exact J.fr), fun b o' hb h' => by
    have := J.keep b o' hb h'
    rw [St.set_ne _ _ (by first | exact neN this h | exact neS h this | exact fun z => by subst z; rw [h] at this; cases this)]; exact this, J.L0, J.ne⟩
theorem Fr0.putD {d : Addr} {o : AO} (J : Fr0 σ₀ σ L d m) : Fr0 σ₀ (σ.set d o) L d m :=
  ⟨by first | exact (St.set_ne _ _ J.ne.symm).trans J.fr | (rw [St.set_ne _ _ J.ne.symm]; exact J.fr), fun b o' hb h' => by rw [St.set_ne _ _ hb]; exact J.keep b o' hb h', J.L0, J.ne⟩
theorem Fr0.put {d a : Addr} {o : AO} (J : Fr0 σ₀ σ L d m) (h0 : σ₀ a = none) (hL : a ≠ L) : Fr0 σ₀ (σ.set a o) L d m :=
  ⟨by first | exact (St.set_ne _ _ hL.symm).trans J.fr | (rw [St.set_ne _ _ hL.symm]; exact J.fr), fun b o' hb h' => by rw [St.set_ne _ _ (by first | exact neN h' h0 | exact neS h0 h' | exact fun z => by subst z; rw [h0] at h'; cases h')]; exact J.keep b o' hb h', J.L0, J.ne⟩
theorem Fr0.none0 {d a : Addr} (J : Fr0 σ₀ σ L d m) (h : σ a = none) (hd : a ≠ d) : σ₀ a = none := by
  cases e : σ₀ a with
  | none => rfl
  | some o => have := J.keep _ _ hd e; rw [h] at this; cases this
/-- the state of _law_octets: the bag has a number -/
structure Oc (σ₀ σ : St) (L a : Addr) (m : N → Option V) : Prop where
  F : Fr0 σ₀ σ L a m
  b : m nBag = some (.ref a)
  x : ∃ x, 0 ≤ x ∧ σ a = some (.list [.int x])
theorem Oc.asg {a : Addr} {x : N} {v : V} (J : Oc σ₀ σ L a m) (hx : nBag.nat ≠ x.nat) : Oc σ₀ (setLoc σ L x v) L a (upd m x v) :=
  ⟨J.F.asg, by unfold upd; rw [if_neg hx]; exact J.b, by first | exact (setLoc_ne J.F.ne).trans J.x | (rw [setLoc_ne J.F.ne]; exact J.x)⟩
theorem Oc.new {a c : Addr} {o : AO} (J : Oc σ₀ σ L a m) (h : σ c = none) : Oc σ₀ (σ.set c o) L a m :=
  ⟨J.F.new h, J.b, by
    obtain ⟨x, h0, hx⟩ := J.x
    exact ⟨x, h0, by first | exact (St.set_ne _ _ (by first | exact neS hx h | exact fun z => by rw [← z, hx] at h; cases h)).trans hx | (rw [St.set_ne _ _ (by first | exact neS hx h | exact fun z => by rw [← z, hx] at h; cases h)]; exact hx)⟩⟩
/-- a draw -/
theorem e_take {a : Addr} {k : Nat} (hn : 1 ≤ n) (J : Oc σ₀ σ L a m) (h1 : 0 < k) (h2 : k < 1000) (q : ∀ x x' : Int, 0 ≤ x → x < k → 0 ≤ x' → Q (.int x) (σ.set a (.list [.int x']))) : WE (WC n) cl (ntup .lTake "_law_take" [Mine.L nBag, .ki (k : Nat)]) L σ Q X := by
  obtain ⟨x, h0, hx⟩ := J.x
  (walk_at "w e"; walk_at "w e"; walk_at "w v")
  refine f_loc J.F.fr J.b ?_
  (walk_at "w v"; walk_at "w e"; walk_at "w v")
  refine to_f rfl (w_take hn hx h0 (by lia) (by lia) (q _ _ (Int.emod_nonneg _ (by lia)) (Int.emod_lt_of_pos _ (by lia)) (Int.ediv_nonneg h0 (by lia))))
theorem Oc.took {a : Addr} {x' : Int} (J : Oc σ₀ σ L a m) (h : 0 ≤ x') : Oc σ₀ (σ.set a (.list [.int x'])) L a m := ⟨J.F.putD, J.b, x', h, St.set_same ..⟩
theorem e_bytes1 {b : Int} {c : UInt8} (h : b.toNat.toUInt8 = c) (h0 : 0 ≤ b ∧ b < 256) (q : ∀ l, σ l = none → Q (.bytes [c]) (σ.set l (.list [.int b]))) : WE C cl (.call (tyE "bytes") [.list [.ki b]]) L σ Q X := by
  (walk_at "w e"; walk_at "w e"; walk_at "w v"; walk_at "w e"; walk_at "w v"; walk_at "w e"; walk_at "w v")
  intro l hl
  (walk_at "w v")
  refine .inl ⟨_, [b], St.set_same .., rfl, (by show 1 ≤ 1000000; decide), fun k hk => by rw [List.mem_singleton.mp hk]; exact h0, ?_⟩
  have e : [b].map (fun n => n.toNat.toUInt8) = [c] := by rw [List.map_cons, h]; rfl
  rw [e]; exact q l hl
theorem wes_kx : ∀ (P : List (List UInt8)) {Q : List V → St → Prop}, Q (P.map V.bytes) σ → WEs C cl (P.map IE.kx) L σ Q X
  | [], Q, q => q
  | b :: P, Q, q => by
    show WEs C cl (.kx b :: P.map IE.kx) L σ Q X
    (walk_at "w v"; walk_at "w e")
    exact wes_kx P q
theorem e_listkx {es : List IE} (P : List (List UInt8)) (h : es = P.map IE.kx) (q : ∀ l, σ l = none → Q (.ref l) (σ.set l (.list (P.map V.bytes)))) : WE C cl (.list es) L σ Q X := by
  (walk_at "w e")
  rw [h]
  exact wes_kx P q
theorem wes_ki : ∀ (P : List Int) {Q : List V → St → Prop}, Q (P.map V.int) σ → WEs C cl (P.map IE.ki) L σ Q X
  | [], Q, q => q
  | b :: P, Q, q => by
    show WEs C cl (.ki b :: P.map IE.ki) L σ Q X
    (walk_at "w v"; walk_at "w e")
    exact wes_ki P q
/-- the state of _law_octets with the table of pieces -/
structure Op (σ₀ σ : St) (L a pl : Addr) (m : N → Option V) : Prop where
  O : Oc σ₀ σ L a m
  p : m nPieces = some (.ref pl)
  at_ : σ pl = some (.list (pieces.map V.bytes))
theorem Op.ne {a pl : Addr} (J : Op σ₀ σ L a pl m) : pl ≠ a ∧ pl ≠ L := by
  obtain ⟨x, _, hx⟩ := J.O.x
  refine ⟨fun z => ?_, fun z => ?_⟩
  · have := J.at_; rw [z, hx] at this; cases this
  · have := J.at_; rw [z, J.O.F.fr] at this; cases this
theorem Op.asg {a pl : Addr} {x : N} {v : V} (J : Op σ₀ σ L a pl m) (h1 : nBag.nat ≠ x.nat) (h2 : nPieces.nat ≠ x.nat) : Op σ₀ (setLoc σ L x v) L a pl (upd m x v) :=
  ⟨J.O.asg h1, by unfold upd; rw [if_neg h2]; exact J.p, by rw [setLoc_ne J.ne.2]; exact J.at_⟩
theorem Op.new {a pl c : Addr} {o : AO} (J : Op σ₀ σ L a pl m) (h : σ c = none) : Op σ₀ (σ.set c o) L a pl m :=
  ⟨J.O.new h, J.p, by rw [St.set_ne _ _ (fun z => by have := J.at_; rw [z, h] at this; cases this)]; exact J.at_⟩
theorem Op.took {a pl : Addr} {x' : Int} (J : Op σ₀ σ L a pl m) (h : 0 ≤ x') : Op σ₀ (σ.set a (.list [.int x'])) L a pl m :=
  ⟨J.O.took h, J.p, by rw [St.set_ne _ _ J.ne.1]; exact J.at_⟩
theorem pieces_len : ∀ b ∈ pieces, b.length ≤ 19 := by decide +kernel
theorem w_octets {a : Addr} {x : Int} (hn : 2 ≤ n) (ha : σ a = some (.list [.int x])) (hx : 0 ≤ x) (q : ∀ data x', data.length ≤ 1000 → 0 ≤ x' → Q (.bytes data) (σ.set a (.list [.int x']))) : WC n .lOctets [.ref a] σ Q X := by
  refine enterR [(nBag, .ref a)] (by walk_at "w a") rfl rfl rfl fun L hL => ?_
  have aL : a ≠ L := by first | exact neN ha hL | exact fun z => by rw [z, hL] at ha; cases ha
  have J : Oc σ (σ.set L (.ns true (mk [(nBag, .ref a)]))) L a (mk [(nBag, .ref a)]) :=
    ⟨⟨St.set_same .., fun b o hb h => by first | exact (St.set_ne _ _ (by first | exact neN h hL | exact neS hL h | exact fun z => by subst z; rw [hL] at h; cases h)).trans h | (rw [St.set_ne _ _ (by first | exact neN h hL | exact neS hL h | exact fun z => by subst z; rw [hL] at h; cases h)]; exact h), hL, aL⟩, rfl, x, hx, by first | exact (St.set_ne _ _ aL).trans ha | (rw [St.set_ne _ _ aL]; exact ha)⟩
  generalize σ.set L (.ns true (mk [(nBag, .ref a)])) = σ₁ at J
  (walk_at "w s0")
  refine e_listkx (pieces.take 13) rfl fun l1 h1 => ⟨(J.F.new h1).bset', ?_⟩
  have n1 : l1 ≠ L := by first | exact neN h1 J.F.fr | exact fun z => by rw [z, J.F.fr] at h1; cases h1
  have J := (J.new (o := .list ((pieces.take 13).map V.bytes)) h1).asg (x := nPieces) (v := .ref l1) (by decide)
  have H1 : (setLoc (σ₁.set l1 (.list ((pieces.take 13).map V.bytes))) L nPieces (.ref l1)) l1 = some (.list ((pieces.take 13).map V.bytes)) := by first | exact (setLoc_ne n1).trans (St.set_same ..) | rw [setLoc_ne n1, St.set_same]
  generalize setLoc (σ₁.set l1 (.list ((pieces.take 13).map V.bytes))) L nPieces (.ref l1) = σ₂ at J H1
  (walk_at "w s"; walk_at "w e")
  refine f_loc J.F.fr rfl (e_listkx ((pieces.drop 13).take 11) rfl fun l2 h2 => ?_)
  have J := J.new (o := .list (((pieces.drop 13).take 11).map V.bytes)) h2
  have H1 : (σ₂.set l2 (.list (((pieces.drop 13).take 11).map V.bytes))) l1 = some (.list ((pieces.take 13).map V.bytes)) := by first | exact (St.set_ne _ _ (by first | exact neN H1 h2 | exact fun z => by rw [z, h2] at H1; cases H1)).trans H1 | (rw [St.set_ne _ _ (by first | exact neN H1 h2 | exact fun z => by rw [z, h2] at H1; cases H1)]; exact H1)
  refine ⟨_, _, H1, St.set_same .., (by show 13 + 11 ≤ 1000; decide), fun l3 h3 => (.mk ((J.F.new h3).bset') ?_)⟩
  have n3 : l3 ≠ L := by first | exact neN h3 J.F.fr | exact fun z => by rw [z, J.F.fr] at h3; cases h3
  have e24 : (pieces.take 13).map V.bytes ++ ((pieces.drop 13).take 11).map V.bytes = (pieces.take 24).map V.bytes := rfl
  rw [e24] at *
  have J := (J.new (o := .list ((pieces.take 24).map V.bytes)) h3).asg (x := nPieces) (v := .ref l3) (by decide)
  have H3 : (setLoc ((σ₂.set l2 (.list (((pieces.drop 13).take 11).map V.bytes))).set l3 (.list ((pieces.take 24).map V.bytes))) L nPieces (.ref l3)) l3 = some (.list ((pieces.take 24).map V.bytes)) := by first | exact (setLoc_ne n3).trans (St.set_same ..) | rw [setLoc_ne n3, St.set_same]
  generalize setLoc ((σ₂.set l2 (.list (((pieces.drop 13).take 11).map V.bytes))).set l3 (.list ((pieces.take 24).map V.bytes))) L nPieces (.ref l3) = σ₃ at J H3
  (walk_at "w s"; walk_at "w e")
  refine f_loc J.F.fr rfl ?_
  (walk_at "w e"; walk_at "w v")
  refine e_bytes1 (c := 0) (by decide) (by decide) fun k1 g1 => ?_
  have J := J.new (o := .list [.int 0]) g1
  have H3 : (σ₃.set k1 (.list [.int 0])) l3 = some (.list ((pieces.take 24).map V.bytes)) := by first | exact (St.set_ne _ _ (by first | exact neN H3 g1 | exact fun z => by rw [z, g1] at H3; cases H3)).trans H3 | (rw [St.set_ne _ _ (by first | exact neN H3 g1 | exact fun z => by rw [z, g1] at H3; cases H3)]; exact H3)
  generalize σ₃.set k1 (.list [.int 0]) = σ₄ at J H3
  (walk_at "w v")
  refine e_bytes1 (c := 127) (by decide) (by decide) fun k2 g2 => ?_
  have J := J.new (o := .list [.int 127]) g2
  have H3 : (σ₄.set k2 (.list [.int 127])) l3 = some (.list ((pieces.take 24).map V.bytes)) := by first | exact (St.set_ne _ _ (by first | exact neN H3 g2 | exact fun z => by rw [z, g2] at H3; cases H3)).trans H3 | (rw [St.set_ne _ _ (by first | exact neN H3 g2 | exact fun z => by rw [z, g2] at H3; cases H3)]; exact H3)
  generalize σ₄.set k2 (.list [.int 127]) = σ₅ at J H3
  (walk_at "w v")
  refine e_bytes1 (c := 255) (by decide) (by decide) fun k3 g3 => ?_
  have J := J.new (o := .list [.int 255]) g3
  have H3 : (σ₅.set k3 (.list [.int 255])) l3 = some (.list ((pieces.take 24).map V.bytes)) := by first | exact (St.set_ne _ _ (by first | exact neN H3 g3 | exact fun z => by rw [z, g3] at H3; cases H3)).trans H3 | (rw [St.set_ne _ _ (by first | exact neN H3 g3 | exact fun z => by rw [z, g3] at H3; cases H3)]; exact H3)
  generalize σ₅.set k3 (.list [.int 255]) = σ₆ at J H3
  refine wes_kx (pieces.drop 27) ?_
  intro l4 h4
  have J := J.new (o := .list ((pieces.drop 24).map V.bytes)) h4
  have H3 : (σ₆.set l4 (.list ((pieces.drop 24).map V.bytes))) l3 = some (.list ((pieces.take 24).map V.bytes)) := by first | exact (St.set_ne _ _ (by first | exact neN H3 h4 | exact fun z => by rw [z, h4] at H3; cases H3)).trans H3 | (rw [St.set_ne _ _ (by first | exact neN H3 h4 | exact fun z => by rw [z, h4] at H3; cases H3)]; exact H3)
  refine ⟨_, _, H3, St.set_same .., (by show 24 + 8 ≤ 1000; decide), fun pl hp => (.mk ((J.F.new hp).bset') ?_)⟩
  have hp : (σ₆.set l4 (.list ((pieces.drop 24).map V.bytes))) pl = none := hp
  have np : pl ≠ L := by first | exact neN hp J.F.fr | exact fun z => by rw [z, J.F.fr] at hp; cases hp
  have ep : (pieces.take 24).map V.bytes ++ (pieces.drop 24).map V.bytes = pieces.map V.bytes := rfl
  have J := (J.new (o := .list (pieces.map V.bytes)) hp).asg (x := nPieces) (v := .ref pl) (by decide)
  have HP : (setLoc ((σ₆.set l4 (.list ((pieces.drop 24).map V.bytes))).set pl (.list (pieces.map V.bytes))) L nPieces (.ref pl)) pl = some (.list (pieces.map V.bytes)) := by first | exact (setLoc_ne np).trans (St.set_same ..) | rw [setLoc_ne np, St.set_same]
  have P : Op σ (setLoc ((σ₆.set l4 (.list ((pieces.drop 24).map V.bytes))).set pl (.list (pieces.map V.bytes))) L nPieces (.ref pl)) L a pl _ := ⟨J, rfl, HP⟩
  show WS _ _ _ L (setLoc ((σ₆.set l4 (.list ((pieces.drop 24).map V.bytes))).set pl (.list (pieces.map V.bytes))) L nPieces (.ref pl)) _ _
  clear J HP
  generalize setLoc ((σ₆.set l4 (.list ((pieces.drop 24).map V.bytes))).set pl (.list (pieces.map V.bytes))) L nPieces (.ref pl) = σ₇ at P
  generalize upd _ nPieces (.ref pl) = m at P
  (walk_at "w s"; walk_at "w e"; walk_at "w e"; walk_at "w e"; walk_at "w e")
  refine wes_ki [0, 0, 0, 1, 2, 29, 30, 31] ?_
  intro l hl
  have PO := P.O
  have P := P.new (o := .list ([0, 0, 0, 1, 2, 29, 30, 31].map V.int)) hl
  have HL : (σ₇.set l (.list ([0, 0, 0, 1, 2, 29, 30, 31].map V.int))) l = some (.list ([0, 0, 0, 1, 2, 29, 30, 31].map V.int)) := St.set_same ..
  have hla : l ≠ a := fun z => by
    obtain ⟨y, _, hy⟩ := PO.x
    rw [z, hy] at hl; cases hl
  generalize σ₇.set l (.list ([0, 0, 0, 1, 2, 29, 30, 31].map V.int)) = σ₈ at P HL
  clear PO hl
  refine e_take (k := 8) (by walk_at "w a") P.O (by decide) (by decide) fun y y' hy0 hy1 hy' => ?_
  have P := P.took hy'
  have HL : (σ₈.set a (.list [.int y'])) l = some (.list ([0, 0, 0, 1, 2, 29, 30, 31].map V.int)) := by first | exact (St.set_ne _ _ hla).trans HL | (rw [St.set_ne _ _ hla]; exact HL)
  generalize σ₈.set a (.list [.int y']) = σ₉ at P HL
  obtain ⟨c, hc, hc0, hc1⟩ : ∃ c : Int, (([0, 0, 0, 1, 2, 29, 30, 31] : List Int).map V.int)[y.toNat]? = some (.int c) ∧ 0 ≤ c ∧ c ≤ 31 := by
    obtain ⟨k, rfl⟩ := Int.eq_ofNat_of_zero_le hy0
    have hk : k < 8 := by lia
    match k, hk with
    | 0, _ => exact ⟨0, rfl, by decide, by decide⟩
    | 1, _ => exact ⟨0, rfl, by decide, by decide⟩
    | 2, _ => exact ⟨0, rfl, by decide, by decide⟩
    | 3, _ => exact ⟨1, rfl, by decide, by decide⟩
    | 4, _ => exact ⟨2, rfl, by decide, by decide⟩
    | 5, _ => exact ⟨29, rfl, by decide, by decide⟩
    | 6, _ => exact ⟨30, rfl, by decide, by decide⟩
    | 7, _ => exact ⟨31, rfl, by decide, by decide⟩
  refine ⟨_, _, .inl HL, hy0, by lia, hc, ⟨rfl, hc0, by lia⟩, .mk P.O.F.bset' ?_⟩
  have P := P.asg (x := nFound) (v := .bytes (List.replicate c.toNat (([40] : List UInt8).headD 0))) (by decide) (by decide)
  have hf : (List.replicate c.toNat (([40] : List UInt8).headD 0)).length ≤ 31 := by rw [List.length_replicate]; lia
  generalize List.replicate c.toNat (([40] : List UInt8).headD 0) = f at P hf
  generalize setLoc σ₉ L nFound (.bytes f) = σ₁₀ at P
  (walk_at "w s"; walk_at "w e"; walk_at "w e"; walk_at "w v"; walk_at "w e"; walk_at "w e")
  refine e_take (k := 16) (by walk_at "w a") P.O (by decide) (by decide) fun z z' hz0 hz1 hz' => ?_
  have P := P.took hz'
  generalize σ₁₀.set a (.list [.int z']) = σ₁₁ at P
  refine ⟨⟨by lia, by lia⟩, fun g hg => ?_⟩
  have P := P.new (o := .rng ((1 : Int) + z).toNat) hg
  have HG : (σ₁₁.set g (.rng ((1 : Int) + z).toNat)) g = some (.rng ((1 : Int) + z).toNat) := St.set_same ..
  generalize σ₁₁.set g (.rng ((1 : Int) + z).toNat) = σ₁₂ at P HG
  refine ⟨.int ((1 : Int) + z).toNat, (List.range ((1 : Int) + z).toNat).map fun (i : Nat) => V.int i, by unfold seqOf; dsimp only; rw [HG]; dsimp only; rw [if_pos (by walk_at "w a")], fun it hit => ?_⟩
  have hl16 : ((List.range ((1 : Int) + z).toNat).map fun (i : Nat) => V.int i).length ≤ 16 := by simp; lia
  generalize ((List.range ((1 : Int) + z).toNat).map fun (i : Nat) => V.int i) = items at hl16
  have hsv : ∀ l, V.int ((1 : Int) + z).toNat ≠ .ref l := fun l e => by cases e
  generalize (V.int ((1 : Int) + z).toNat) = sv at hsv
  clear HG hc HL
  have itL : it ≠ L := fun e => by rw [e, P.O.F.fr] at hit; cases hit
  have ita : it ≠ a := fun e => by
    obtain ⟨y, _, hy⟩ := P.O.x
    rw [e, hy] at hit; cases hit
  have itp : it ≠ pl := fun e => by rw [e, P.at_] at hit; cases hit
  have it0 : σ it = none := P.O.F.none0 hit ita
  refine ⟨fun i τ => ∃ m f, Op σ τ L a pl m ∧ τ it = some (.iter sv i) ∧ m nFound = some (.bytes f) ∧ f.length ≤ 31 + 19 * i, ⟨_, f, P.new hit, St.set_same .., rfl, by lia⟩, ?_⟩
  clear P hf hit
  rintro i τ ⟨m, f, P, hit, hm, hf⟩ hi
  refine ⟨fun l e => absurd e (hsv l), hit, fun v hv => ⟨P.O.F.bset', ?_⟩, fun hi' => ?_⟩
  · have hi2 : i < items.length := by
      rcases Nat.lt_or_ge i items.length with h | h
      · exact h
      · rw [List.getElem?_eq_none h] at hv; cases hv
    have P1 : Op σ (τ.set it (.iter sv (i + 1))) L a pl m := ⟨⟨P.O.F.put it0 itL, P.O.b, by
        obtain ⟨y, h0, hy⟩ := P.O.x
        exact ⟨y, h0, by first | exact (St.set_ne _ _ (Ne.symm ita)).trans hy | (rw [St.set_ne _ _ (Ne.symm ita)]; exact hy)⟩⟩, P.p, by rw [St.set_ne _ _ (Ne.symm itp)]; exact P.at_⟩
    have P2 := P1.asg (x := nTurn) (v := v) (by decide) (by decide)
    have hit2 : (setLoc (τ.set it (.iter sv (i + 1))) L nTurn v) it = some (.iter sv (i + 1)) := by first | exact (setLoc_ne itL).trans (St.set_same ..) | rw [setLoc_ne itL, St.set_same]
    generalize setLoc (τ.set it (.iter sv (i + 1))) L nTurn v = τ' at P2 hit2
    (walk_at "w s"; walk_at "w e")
    refine f_loc P2.O.F.fr (show upd m nTurn v nFound = _ from hm) ?_
    (walk_at "w e")
    refine f_loc P2.O.F.fr P2.p ?_
    refine e_take (k := 32) (by walk_at "w a") P2.O (by decide) (by decide) fun y y' hy0 hy1 hy' => ?_
    have P3 := P2.took hy'
    have hit3 : (τ'.set a (.list [.int y'])) it = some (.iter sv (i + 1)) := by first | exact (St.set_ne _ _ ita).trans hit2 | (rw [St.set_ne _ _ ita]; exact hit2)
    generalize τ'.set a (.list [.int y']) = τ₃ at P3 hit3
    obtain ⟨b, hb, hbl⟩ : ∃ b, (pieces.map V.bytes)[y.toNat]? = some (.bytes b) ∧ b.length ≤ 19 := by
      have hlt : y.toNat < pieces.length := by show y.toNat < 32; lia
      refine ⟨pieces[y.toNat], ?_, pieces_len _ (List.getElem_mem hlt)⟩
      rw [List.getElem?_map, List.getElem?_eq_getElem hlt]; rfl
    refine ⟨_, _, .inl P3.at_, hy0, by lia, hb, ⟨by lia, .mk P3.O.F.bset' ?_⟩⟩
    (walk_at "w n")
    refine ⟨_, St.le_refl _, _, f ++ b, P3.asg (by decide) (by decide), by first | exact (setLoc_ne itL).trans hit3 | (rw [setLoc_ne itL]; exact hit3), rfl, by rw [List.length_append]; lia⟩
  · obtain ⟨y, hy0, hy⟩ := P.O.x
    have hL2 : (τ.del it) L = some (.ns true m) := by first | exact (St.del_ne _ itL.symm).trans P.O.F.fr | (rw [St.del_ne _ itL.symm]; exact P.O.F.fr)
    (walk_at "w s")
    refine f_loc hL2 hm ⟨_, fun b o e => ?_, q f y (by walk_at "w a") hy0⟩
    by_cases hba : b = a
    · subst hba
      rw [St.set_same] at e
      rw [St.del_ne _ aL, St.del_ne _ (Ne.symm ita)]; rw [hy]; exact e
    · rw [St.set_ne _ _ hba] at e
      rw [St.del_ne _ (by first | exact neN e P.O.F.L0 | exact fun z => by rw [z, P.O.F.L0] at e; cases e), St.del_ne _ (by first | exact neN e it0 | exact fun z => by rw [z, it0] at e; cases e)]
      exact P.O.F.keep b o hba e
end
end Mine
-- D21
namespace Mine
open IE IS N
noncomputable def R.map {α β : Type} (f : α → β) : R α → R β | .ok a q => .ok (f a) q | .bad i => .bad i
noncomputable def datR : R D → List D | .ok a q => [a, .int (q : Nat)] | .bad i => [.str (S "fault"), .int (i : Nat)]
noncomputable def isTL : AO → Bool | .tup _ => true | .list _ => true | _ => false
theorem dat_tup {τ : St} {n k : Nat} {a : Addr} {vs : List V} {ds : List D} (h : τ a = some (.tup vs)) (i : ∀ k, n ≤ k → IsDats τ k vs ds) (hk : n + 1 ≤ k) : IsDat τ k (.ref a) (.tup ds) := by
  cases k with
  | zero => exact absurd hk (Nat.not_succ_le_zero _)
  | succ k => exact .tup h (i k (Nat.le_of_succ_le_succ hk))
theorem dat_list {τ : St} {n k : Nat} {a : Addr} {vs : List V} {ds : List D} (h : τ a = some (.list vs)) (i : ∀ k, n ≤ k → IsDats τ k vs ds) (hk : n + 1 ≤ k) : IsDat τ k (.ref a) (.list ds) := by
  cases k with
  | zero => exact absurd hk (Nat.not_succ_le_zero _)
  | succ k => exact .list h (i k (Nat.le_of_succ_le_succ hk))
theorem IsDat.mono {σ τ : St} (h : ∀ a o, isTL o = true → σ a = some o → τ a = some o) {n : Nat} {v : V} {d : D} (z : IsDat σ n v d) {k : Nat} (hk : n ≤ k) : IsDat τ k v d :=
  IsDat.rec (motive_1 := fun n v d _ => ∀ k, n ≤ k → IsDat τ k v d) (motive_2 := fun n v d _ => ∀ k, n ≤ k → IsDats τ k v d) (fun _ k _ => .none k) (fun _ i k _ => .int k i) (fun _ x k _ => .str k x) (fun _ b k _ => .bytes k b) (fun h1 _ ih k hk => dat_tup (h _ _ rfl h1) ih hk) (fun h1 _ ih k hk => dat_list (h _ _ rfl h1) ih hk) (fun _ k _ => .nil k) (fun _ _ i j k hk => .cons (i k hk) (j k hk)) z k hk
theorem IsDats.mono {σ τ : St} (h : ∀ a o, isTL o = true → σ a = some o → τ a = some o) {n : Nat} {v : List V} {d : List D} (z : IsDats σ n v d) {k : Nat} (hk : n ≤ k) : IsDats τ k v d :=
  IsDats.rec (motive_1 := fun n v d _ => ∀ k, n ≤ k → IsDat τ k v d) (motive_2 := fun n v d _ => ∀ k, n ≤ k → IsDats τ k v d) (fun _ k _ => .none k) (fun _ i k _ => .int k i) (fun _ x k _ => .str k x) (fun _ b k _ => .bytes k b) (fun h1 _ ih k hk => dat_tup (h _ _ rfl h1) ih hk) (fun h1 _ ih k hk => dat_list (h _ _ rfl h1) ih hk) (fun _ k _ => .nil k) (fun _ _ i j k hk => .cons (i k hk) (j k hk)) z k hk
theorem dats_ints {σ : St} {n : Nat} : ∀ l : List Int, IsDats σ n (l.map V.int) (l.map D.int)
  | [] => .nil n
  | i :: l => .cons (.int n i) (dats_ints l)
section
variable {n : Nat} {σ σ₀ : St} {Q : Kt} {X : Xt} {C : Ct} {cl : Option Addr} {L w d : Addr} {m : N → Option V} {data : List UInt8} {p : Nat}
/-- what a deed gives -/
noncomputable def RD (Q : Kt) (X : Xt) (σ : St) (d : Addr) (data : List UInt8) : R D → Prop
  | .ok dat q => ∀ v τ, (∀ b o, b ≠ d → σ b = some o → τ b = some o) → τ d = some (wns data (q : Int)) → IsDat τ 100 v dat → Q v τ
  | .bad i => Fault X σ d i
theorem keep_move {q : Nat} (H : W0 σ w d data p) : (∀ b o, b ≠ d → σ b = some o → (σ.set d (wns data (q : Int))) b = some o) ∧ (σ.set d (wns data (q : Int))) d = some (wns data (q : Int)) :=
  ⟨fun b o hb h => by first | exact (St.set_ne _ _ hb).trans h | (rw [St.set_ne _ _ hb]; exact h), St.set_same ..⟩
noncomputable def rdNd (data : List UInt8) (p : Nat) : R D := (rdN data p).map fun b => match b with | none => D.none | some b => .bytes b
noncomputable def rdF (data : List UInt8) (p : Nat) : R D := let b := if has data p [92] then p + 1 else p
  if b < runTo isAt data b then .ok (.str (strOf ((data.take (runTo isAt data b)).drop p))) (runTo isAt data b) else .bad b
noncomputable def rdT (data : List UInt8) (p : Nat) : R D := if p < runTo isSe data p then .ok (.str (strOf ((data.take (runTo isSe data p)).drop p))) (runTo isSe data p) else .bad p
theorem d_nstring (hn : 6 ≤ n) (H : W0 σ w d data p) (q : RD Q X σ d data (rdNd data p)) : WC n .wNstring [.ref w] σ Q X := by
  refine w_nstring hn H ?_
  unfold rdNd at q
  cases hz : rdN data p with
  | bad i => rw [hz] at q; exact q
  | ok b k =>
    rw [hz] at q
    refine q _ _ (keep_move H).1 (keep_move H).2 ?_
    cases b with
    | none => exact .none _
    | some b => exact .bytes _ b
theorem d_astring (hn : 7 ≤ n) (H : W0 σ w d data p) (q : RD Q X σ d data ((rdA data p).map D.bytes)) : WC n .wAstring [.ref w] σ Q X := by
  refine w_astring hn H ?_
  cases hz : rdA data p with
  | bad i => rw [hz] at q; exact q
  | ok b k => rw [hz] at q; exact q _ _ (keep_move H).1 (keep_move H).2 (.bytes _ b)
theorem d_string (hn : 5 ≤ n) (H : W0 σ w d data p) (q : RD Q X σ d data ((rdS data p).map D.bytes)) : WC n .wString [.ref w] σ Q X := by
  refine w_string hn H ?_
  cases hz : rdS data p with
  | bad i => rw [hz] at q; exact q
  | ok b k => rw [hz] at q; exact q _ _ (keep_move H).1 (keep_move H).2 (.bytes _ b)
theorem d_number (hn : 3 ≤ n) (H : W0 σ w d data p) (q : RD Q X σ d data ((rdNum data p).map D.int)) : WC n .wNumber [.ref w] σ Q X := by
  refine w_number' hn H ?_
  cases hz : rdNum data p with
  | bad i => rw [hz] at q; exact q
  | ok b k => rw [hz] at q; exact q _ _ (keep_move H).1 (keep_move H).2 (.int _ b)
theorem d_flag (hn : 6 ≤ n) (H : W0 σ w d data p) (q : RD Q X σ d data (rdF data p)) : WC n .wFlag [.ref w] σ Q X := by
  refine w_flag hn H ?_
  unfold rdF at q
  dsimp only at q ⊢
  generalize (if has data p [92] = true then p + 1 else p) = b at q ⊢
  split
  · rename_i h; rw [if_pos h] at q; exact q _ _ (keep_move H).1 (keep_move H).2 (.str _ _)
  · rename_i h; rw [if_neg h] at q; exact q
theorem d_set (hn : 4 ≤ n) (H : W0 σ w d data p) (q : RD Q X σ d data (rdT data p)) : WC n .wSetText [.ref w] σ Q X := by
  unfold rdT at q
  refine w_setText hn H (fun h => ?_) fun h => ?_
  · rw [if_pos h] at q; exact q _ _ (keep_move H).1 (keep_move H).2 (.str _ _)
  · rw [if_neg (by walk_at "w a")] at q; exact q
/-- the wire in a cell -/
theorem e_cv {c w : Addr} (hc : σ c = some (.cell (some (.ref w)))) (q : Q (.ref w) σ) : WE C (some c) (.cv nWire) L σ Q X := by
  (walk_at "w e")
  exact ⟨c, _, rfl, hc, q⟩
/-- the frame of a lambda -/
theorem lam_frame {L : Addr} (H : W0 σ w d data p) (hL : σ L = none) : W0 (σ.set L (.ns true fun _ => none)) w d data p ∧ Fr0 σ (σ.set L (.ns true fun _ => none)) L d (fun _ => none) :=
  ⟨H.fresh hL, St.set_same .., fun b o _ h => by first | exact (St.set_ne _ _ (by first | exact neN h hL | exact neS hL h | exact fun z => by subst z; rw [hL] at h; cases h)).trans h | (rw [St.set_ne _ _ (by first | exact neN h hL | exact neS hL h | exact fun z => by subst z; rw [hL] at h; cases h)]; exact h), hL, H.dL hL⟩
theorem d_value {c : Addr} (hn : 40 ≤ n) (H : W0 σ w d data p) (hc : σ c = some (.cell (some (.ref w)))) (q : RD Q X σ d data ((rdV data 30 p).map toD)) : WC n .lam0 [.ref c] σ Q X := by
  obtain ⟨n, rfl⟩ : ∃ k, n = k + 1 := ⟨n - 1, by lia⟩
  show ∀ L, σ L = none → WE (WC n) (some c) (lamBody 0) L (σ.set L (.ns true fun _ => none)) (fun v τ => ∃ ρ, ρ.le (τ.del L) ∧ Q v ρ) (fun e τ => ∃ ρ, ρ.le (τ.del L) ∧ X e ρ)
  intro L hL
  obtain ⟨H1, F1⟩ := lam_frame H hL
  have hc1 : (σ.set L (.ns true fun _ => none)) c = some (.cell (some (.ref w))) := by first | exact (St.set_ne _ _ (by first | exact neN hc hL | exact fun z => by rw [z, hL] at hc; cases hc)).trans hc | (rw [St.set_ne _ _ (by first | exact neN hc hL | exact fun z => by rw [z, hL] at hc; cases hc)]; exact hc)
  generalize σ.set L (.ns true fun _ => none) = σ₁ at H1 F1 hc1
  show WE (WC n) (some c) (.call (fnE "told_value" .toldValue) [.meth (.cv nWire) .wValue []]) L σ₁ _ _
  (walk_at "w e"; walk_at "w e"; walk_at "w v"; walk_at "w e")
  refine e_cv hc1 ⟨w, d, _, rfl, H1.w, H1.d, lean_wns, ?_⟩
  (walk_at "w v")
  refine value_dflt (w_value 30 (dd := 0) (by decide) (by walk_at "w a") H1 ?_)
  cases hz : rdV data 30 p with
  | bad i => rw [hz] at q; exact Fault.in q F1
  | ok t k =>
    rw [hz] at q
    intro v τ g1 g2 g3
    have hd := rdV_dp (by have := H.len; lia) 30 p t k H.le hz
    (walk_at "w v")
    refine to_f rfl (w_told 30 hd (by walk_at "w a") (g3.mono fun b o h => (off_some h).2) fun r τ' hle hr => ?_)
    have hL1 : τ' L = some (.ns true fun _ => none) := hle _ _ (g1 _ _ F1.ne.symm F1.fr)
    refine ⟨_, St.le_refl _, q r _ (fun b o hb h => ?_) ?_ ((td_dat 30 (hd) (hr)).mono (fun a o ho h => ?_) (by decide))⟩
    · rw [St.del_ne _ (by first | exact neN h F1.L0 | exact fun z => by rw [z, F1.L0] at h; cases h)]
      exact hle _ _ (g1 b o hb (F1.keep b o hb h))
    · rw [St.del_ne _ F1.ne]; exact hle _ _ g2
    · rw [St.del_ne _ (fun z => by rw [z, hL1] at h; cases h; cases ho)]; exact h
theorem d_listOf {c : Addr} (hn : 20 ≤ n) (H : W0 σ w d data p) (hc : σ c = some (.cell (some (.ref w)))) (q : RD Q X σ d data ((rdNL data p).map fun l => D.list (l.map D.int))) : WC n .lam1 [.ref c] σ Q X := by
  obtain ⟨n, rfl⟩ : ∃ k, n = k + 1 := ⟨n - 1, by lia⟩
  show ∀ L, σ L = none → WE (WC n) (some c) (lamBody 1) L (σ.set L (.ns true fun _ => none)) (fun v τ => ∃ ρ, ρ.le (τ.del L) ∧ Q v ρ) (fun e τ => ∃ ρ, ρ.le (τ.del L) ∧ X e ρ)
  intro L hL
  obtain ⟨H1, F1⟩ := lam_frame H hL
  have hc1 : (σ.set L (.ns true fun _ => none)) c = some (.cell (some (.ref w))) := by first | exact (St.set_ne _ _ (by first | exact neN hc hL | exact fun z => by rw [z, hL] at hc; cases hc)).trans hc | (rw [St.set_ne _ _ (by first | exact neN hc hL | exact fun z => by rw [z, hL] at hc; cases hc)]; exact hc)
  generalize σ.set L (.ns true fun _ => none) = σ₁ at H1 F1 hc1
  show WE (WC n) (some c) (.meth (.cv nWire) .wListOf [.bm (.cv nWire) .wNumber]) L σ₁ _ _
  (walk_at "w e")
  refine e_cv hc1 ⟨w, d, _, rfl, H1.w, H1.d, lean_wns, ?_⟩
  (walk_at "w v"; walk_at "w e")
  refine e_cv hc1 ⟨w, d, _, rfl, H1.w, H1.d, lean_wns, fun b hb h472 => ?_⟩
  have H2 := H1.fresh (o := .meth F.wNumber.addr w) hb
  have F2 : Fr0 σ (σ₁.set b (.meth F.wNumber.addr w)) L d (fun _ => none) := F1.new hb
  (walk_at "w v")
  refine w_listOf (by walk_at "w a") H2 h472 (St.set_same ..) ?_
  generalize σ₁.set b (.meth F.wNumber.addr w) = σ₂ at H2 F2
  cases hz : rdNL data p with
  | bad i => rw [hz] at q; exact Fault.in q F2
  | ok l k =>
    rw [hz] at q
    intro a τ g1 g2 g3 g4
    have hL1 : τ L = some (.ns true fun _ => none) := g1 _ _ F2.ne.symm F2.fr
    refine ⟨_, St.le_refl _, q (.ref a) _ (fun b o hb h => ?_) ?_ (.list (n := 99) (vs := l.map V.int) ?_ (dats_ints l))⟩
    · rw [St.del_ne _ (by first | exact neN h F2.L0 | exact fun z => by rw [z, F2.L0] at h; cases h)]
      exact g1 b o hb (F2.keep b o hb h)
    · rw [St.del_ne _ F2.ne]; exact g2
    · rw [St.del_ne _ (by first | exact neN g3 hL1 | exact fun z => by rw [z, hL1] at g3; cases g3)]; exact g3
/-- _law_asked of a deed -/
theorem w_ask {deed : V} {r : R D} (hn : 2 ≤ n) (H : W0 σ w d data p) (hd : ∀ σ' Q X, σ.le σ' → W0 σ' w d data p → RD Q X σ' d data r → callV (WC (n - 1)) deed [] σ' Q X)
    (q : ∀ a τ, (∀ b o, b ≠ d → σ b = some o → τ b = some o) → IsDat τ 150 (.ref a) (.tup (datR r)) → Q (.ref a) τ) : WC n .lAsked [.ref w, deed] σ Q X := by
  obtain ⟨n, rfl⟩ : ∃ k, n = k + 1 := ⟨n - 1, by lia⟩
  show ∀ L, σ L = none → WS (WC n) none (body .lAsked) L (σ.set L (.ns true (mk [(.nDeed, deed), (.nWire, .ref w)]))) (fun fl τ => ∃ ρ, ρ.le (τ.del L) ∧ Q (retV fl) ρ)
        (fun e τ => ∃ m i, τ L = some (.ns true m) ∧ e ≠ L ∧ attrOf τ (.ref e) .nAt = some (.int i) ∧ news (τ.del L) (.tup [.str (S "fault"), .int i]) Q)
  intro L hL
  have H1 : W0 (σ.set L (.ns true (mk [(.nDeed, deed), (.nWire, .ref w)]))) w d data p := H.fresh hL
  have F1 : Fr0 σ (σ.set L (.ns true (mk [(.nDeed, deed), (.nWire, .ref w)]))) L d (mk [(.nDeed, deed), (.nWire, .ref w)]) :=
    ⟨St.set_same .., fun b o _ h => by first | exact (St.set_ne _ _ (by first | exact neN h hL | exact neS hL h | exact fun z => by subst z; rw [hL] at h; cases h)).trans h | (rw [St.set_ne _ _ (by first | exact neN h hL | exact neS hL h | exact fun z => by subst z; rw [hL] at h; cases h)]; exact h), hL, H.dL hL⟩
  have hle : σ.le (σ.set L (.ns true (mk [(.nDeed, deed), (.nWire, .ref w)]))) := St.le_set hL
  generalize σ.set L (.ns true (mk [(.nDeed, deed), (.nWire, .ref w)])) = σ₁ at H1 F1 hle
  show WS (WC n) none [.ret (.tup [.call (Mine.L nDeed) [], .attr (Mine.L nWire) nAt])] L σ₁ _ _
  (walk_at "w s")
  refine e_tup ?_
  (walk_at "w v"; walk_at "w e")
  refine f_loc F1.fr rfl ?_
  (walk_at "w v")
  refine hd σ₁ _ _ hle H1 ?_
  cases r with
  | bad i =>
    intro e τ g1 g2
    have hL1 := g1 _ _ F1.ne.symm F1.fr
    refine ⟨_, i, hL1, fun z => ?_, g2, fun a ha => q a _ (fun b o hb h => ?_) (.tup (n := 149) (St.set_same ..) (.cons (.str _ _) (.cons (.int _ _) (.nil _))))⟩
    · unfold attrOf at g2
      dsimp only at g2
      rw [z, hL1] at g2; cases g2
    · have hbL : b ≠ L := by first | exact neN h F1.L0 | exact fun z => by rw [z, F1.L0] at h; cases h
      have h2 := g1 b o hb (F1.keep b o hb h)
      rw [St.set_ne _ _ (fun z => by rw [← z, St.del_ne _ hbL, h2] at ha; cases ha), St.del_ne _ hbL]; exact h2
  | ok dat k =>
    intro v τ g1 g2 g3
    have hL1 := g1 _ _ F1.ne.symm F1.fr
    have hw := g1 _ _ H1.ne.symm H1.w
    (walk_at "w v"; walk_at "w e")
    refine f_loc hL1 rfl ⟨.int (k : Nat), ?_, rfl, ?_⟩
    · unfold attrOf
      dsimp only
      rw [hw]
      dsimp only
      rw [g2]
      rfl
    (walk_at "w v")
    intro a ha _
    have haL : a ≠ L := by first | exact neN ha hL1 | exact fun z => by rw [z, hL1] at ha; cases ha
    refine ⟨_, St.le_refl _, q a _ (fun b o hb h => ?_) (.tup (n := 149) (vs := [v, .int (k : Nat)]) ?_ (.cons (g3.mono (fun c o ho h => ?_) (by decide)) (.cons (.int _ _) (.nil _))))⟩
    · have hbL : b ≠ L := by first | exact neN h F1.L0 | exact fun z => by rw [z, F1.L0] at h; cases h
      have h2 := g1 b o hb (F1.keep b o hb h)
      rw [St.del_ne _ hbL, St.set_ne _ _ (by first | exact neS h2 ha | exact fun z => by rw [← z, h2] at ha; cases ha)]; exact h2
    · rw [St.del_ne _ haL, St.set_same]
    · have hcL : c ≠ L := fun z => by rw [z, hL1] at h; cases h; cases ho
      rw [St.del_ne _ hcL, St.set_ne _ _ (by first | exact neS h ha | exact fun z => by rw [← z, h] at ha; cases ha)]; exact h
end
end Mine
-- D22
namespace Mine
open IE IS N
noncomputable def rdW (i : Nat) (data : List UInt8) (p : Nat) : R D := match i with
  | 0 => rdNd data p | 1 => (rdA data p).map D.bytes | 2 => (rdNum data p).map D.int | 3 => (rdS data p).map D.bytes | 4 => rdF data p | 5 => rdT data p
  | _ => (rdNL data p).map fun l => D.list (l.map D.int)
section
variable {n : Nat} {σ σ₀ : St} {Q : Kt} {X : Xt} {C : Ct} {cl : Option Addr} {L w d c : Addr} {m : N → Option V} {data : List UInt8} {p : Nat}
theorem to_asked {args : List V} (h : C .lAsked args σ Q X) : callV C (.ref F.lAsked.addr) args σ Q X := h
theorem callV_lam {a cc : Addr} {k j : Nat} (hb : 472 ≤ a) (hs : σ a = some (.lam k c cc)) (hc : σ cc = some (.code j)) (h : C (if k = 0 then .lam0 else .lam1) [.ref c] σ Q X) : callV C (.ref a) [] σ Q X := by
  obtain ⟨n1, n2, n3⟩ := ne_cls hb
  unfold callV
  dsimp only
  rw [funOf_big hb]
  dsimp only
  rw [if_neg n1, if_neg n2, if_neg n3, hs]
  exact ⟨rfl, ⟨j, hc⟩, h⟩
theorem callV_wire {x y : V} (h : ∀ d w, σ d = none → σ w = none → d ≠ w → Q (.ref w) ((σ.set d (.ns false (mk [(nAt, y), (nData, x)]))).set w (.inst clsWire d))) : callV C (.ref clsWire) [x, y] σ Q X := by
  have e : callV C (.ref clsWire) [x, y] σ Q X = ∃ x' y', [x, y] = [x', y'] ∧ ∀ d w, σ d = none → σ w = none → d ≠ w → Q (.ref w) ((σ.set d (.ns false (mk [(nAt, y'), (nData, x')]))).set w (.inst clsWire d)) := rfl
  rw [e]
  exact ⟨_, _, rfl, h⟩
/-! the law's functions give the tuple of the reading -/
noncomputable def RL (Q : Kt) (σ : St) (r : R D) : Prop := ∀ a τ, σ.le τ → σ a = none → IsDat τ 150 (.ref a) (.tup (datR r)) → Q (.ref a) τ
theorem RL.bad {i : Nat} (q : RL Q σ (.bad i)) : RTup Q σ (fV i) := fun a τ h1 h2 h3 => q a τ h1 h2 (.tup (n := 149) h3 (.cons (.str _ _) (.cons (.int _ _) (.nil _))))
theorem RL.ok {v : V} {dat : D} {k : Nat} (q : RL Q σ (.ok dat k)) (h : ∀ τ, IsDat τ 149 v dat) : RTup Q σ [v, .int (k : Nat)] := fun a τ h1 h2 h3 => q a τ h1 h2 (.tup (n := 149) h3 (.cons (h τ) (.cons (.int _ _) (.nil _))))
theorem l_value (hn : 40 ≤ n) (hl : data.length ≤ 100000) (hp : p ≤ data.length) (q : RL Q σ ((rdV data 30 p).map toD)) : WC n .lValue [.bytes data, .int p, .int 0] σ Q X := by
  refine w_lvalue 30 (dd := 0) (by decide) (by walk_at "w a") hl hp ?_
  cases hz : rdV data 30 p with
  | bad i => rw [hz] at q; exact RL.bad q
  | ok t k =>
    rw [hz] at q
    intro a v τ h1 h2 h3 h4
    exact q a τ h1 h2 (.tup (n := 149) h3 (.cons ((td_dat 30 (rdV_dp (by walk_at "w a") 30 p t k hp hz) h4).mono (fun a o _ h => h) (by decide)) (.cons (.int _ _) (.nil _))))
theorem l_ways : ∀ (i : Nat), i < 7 → i ≠ 3 → 10 ≤ n → data.length ≤ 100000 → p ≤ data.length → RL Q σ (rdW i data p) → ∃ f, ([F.lNstring, .lAstring, .lNumber, .lNumber, .lFlag, .lSet, .lNumbers] : List F)[i]? = some f ∧ isP f = true ∧ WC n f [.bytes data, .int p] σ Q X
  | 0, _, _, hn, hl, hp, q => ⟨_, rfl, rfl, w_lnstring (by walk_at "w a") hl hp (by
      have q : RL Q σ (rdNd data p) := q
      unfold rdNd at q
      cases hz : rdN data p with
      | bad i => rw [hz] at q; exact RL.bad q
      | ok b k => rw [hz] at q; cases b with
        | none => exact RL.ok q fun τ => .none _
        | some b => exact RL.ok q fun τ => .bytes _ b)⟩
  | 1, _, _, hn, hl, hp, q => ⟨_, rfl, rfl, w_lastring (by walk_at "w a") hl hp (by
      have q : RL Q σ ((rdA data p).map D.bytes) := q
      cases hz : rdA data p with
      | bad i => rw [hz] at q; exact RL.bad q
      | ok b k => rw [hz] at q; exact RL.ok q fun τ => .bytes _ b)⟩
  | 2, _, _, hn, hl, hp, q => ⟨_, rfl, rfl, w_lnumber (by walk_at "w a") hl hp (by
      have q : RL Q σ ((rdNum data p).map D.int) := q
      cases hz : rdNum data p with
      | bad i => rw [hz] at q; exact RL.bad q
      | ok b k => rw [hz] at q; exact RL.ok q fun τ => .int _ b)⟩
  | 3, _, h, _, _, _, _ => absurd rfl h
  | 4, _, _, hn, hl, hp, q => ⟨_, rfl, rfl, w_lflag (by walk_at "w a") hl hp (by
      have q : RL Q σ (rdF data p) := q
      unfold rdF at q
      dsimp only at q ⊢
      generalize (if has data p [92] = true then p + 1 else p) = b at q ⊢
      split
      · rename_i h; rw [if_pos h] at q; exact RL.ok q fun τ => .str _ _
      · rename_i h; rw [if_neg h] at q; exact RL.bad q)⟩
  | 5, _, _, hn, hl, hp, q => ⟨_, rfl, rfl, w_lset (by walk_at "w a") hl hp (by
      have q : RL Q σ (rdT data p) := q
      unfold rdT at q
      split
      · rename_i h; rw [if_pos h] at q; exact RL.ok q fun τ => .str _ _
      · rename_i h; rw [if_neg h] at q; exact RL.bad q)⟩
  | 6, _, _, hn, hl, hp, q => ⟨_, rfl, rfl, w_lnumbers (by walk_at "w a") hl hp (by
      have q : RL Q σ ((rdNL data p).map fun l => D.list (l.map D.int)) := q
      cases hz : rdNL data p with
      | bad i => rw [hz] at q; exact RL.bad q
      | ok b k =>
        rw [hz] at q
        intro a s τ h1 h2 h3 h4
        exact q a τ h1 h2 (.tup (n := 149) h3 (.cons (.list (n := 148) h4 (dats_ints b)) (.cons (.int _ _) (.nil _)))))⟩
  | i + 7, h, _, _, _, _, _ => absurd h (by walk_at "w a")
/-! the deeds -/
noncomputable def okT : AO → Bool | .tab _ => false | .ns true _ => false | _ => true
noncomputable def leT (σ τ : St) : Prop := ∀ b o, okT o = true → σ b = some o → τ b = some o
theorem leT.of {τ : St} (h : σ.le τ) : leT σ τ := fun b o _ e => h b o e
noncomputable def Deed (n i : Nat) (v : V) (σ : St) (w d : Addr) (data : List UInt8) (p : Nat) : Prop := ∀ σ' Q X, leT σ σ' → W0 σ' w d data p → RD Q X σ' d data (rdW i data p) → callV (WC n) v [] σ' Q X
theorem Deed.mono {i : Nat} {v : V} {τ : St} (D : Deed n i v σ w d data p) (h : leT σ τ) : Deed n i v τ w d data p := fun σ' Q X hl => D σ' Q X (fun b o hb e => hl b o hb (h b o hb e))
theorem deed_meth {i : Nat} {b : Addr} {f : F} (hb : 472 ≤ b) (hs : σ b = some (.meth f.addr w)) (hf : isP f = true) (h : ∀ σ' Q X, W0 σ' w d data p → RD Q X σ' d data (rdW i data p) → WC n f [.ref w] σ' Q X) : Deed n i (.ref b) σ w d data p :=
  fun σ' Q X hle H q => callV_meth hb (hle _ _ rfl hs) hf (h σ' Q X H q)
/-! the state of law -/
structure Lb (σ₀ σ : St) (L c : Addr) (m : N → Option V) : Prop where
  fr : σ L = some (.ns true m)
  cell : ∃ o, σ c = some (.cell o)
  tab : ∃ cs, σ tabAddr = some (.tab cs) ∧ ∀ k cc, cs.lookup k = some cc → σ cc = some (.code k)
  keep : ∀ b o, b ≠ L → b ≠ c → b ≠ tabAddr → σ₀ b = some o → σ b = some o
theorem Lb.bset (J : Lb σ₀ σ L c m) : ∃ m, σ L = some (.ns true m) := ⟨m, J.fr⟩
theorem Lb.of_le {τ : St} (J : Lb σ₀ σ L c m) (h : σ.le τ) : Lb σ₀ τ L c m :=
  let ⟨o, ho⟩ := J.cell
  let ⟨cs, h1, h2⟩ := J.tab
  ⟨h _ _ J.fr, ⟨o, h _ _ ho⟩, ⟨cs, h _ _ h1, fun k cc e => h _ _ (h2 k cc e)⟩, fun b o h1 h2 h3 e => h _ _ (J.keep b o h1 h2 h3 e)⟩
theorem Lb.new {a : Addr} {o : AO} (J : Lb σ₀ σ L c m) (h : σ a = none) : Lb σ₀ (σ.set a o) L c m := J.of_le (St.le_set h)
theorem Lb.ext {τ : St} {k : N → Option V} (J : Lb σ₀ σ L c m) (hd : σ d = some (.ns false k)) (h0 : σ₀ d = none) (h : ∀ b o, b ≠ d → σ b = some o → τ b = some o) : Lb σ₀ τ L c m := by
  obtain ⟨o, ho⟩ := J.cell
  obtain ⟨cs, h1, h2⟩ := J.tab
  refine ⟨h _ _ (by first | exact neS J.fr hd | exact fun z => by rw [← z, J.fr] at hd; cases hd) J.fr, ⟨o, h _ _ (by first | exact neS ho hd | exact fun z => by rw [← z, ho] at hd; cases hd) ho⟩, ⟨cs, h _ _ (by first | exact neS h1 hd | exact fun z => by rw [← z, h1] at hd; cases hd) h1, fun k cc e => h _ _ (fun z => by rw [← z, h2 k cc e] at hd; cases hd) (h2 k cc e)⟩, fun b o g1 g2 g3 e => h _ _ (by first | exact neN e h0 | exact fun z => by rw [z, h0] at e; cases e) (J.keep b o g1 g2 g3 e)⟩
theorem Lb.asg {x : N} {v : V} (J : Lb σ₀ σ L c m) : Lb σ₀ (setLoc σ L x v) L c (upd m x v) := by
  obtain ⟨o, ho⟩ := J.cell
  obtain ⟨cs, h1, h2⟩ := J.tab
  unfold setLoc; rw [J.fr]; dsimp only
  refine ⟨St.set_same .., ⟨o, ?_⟩, ⟨cs, ?_, fun k cc e => ?_⟩, fun b o g1 g2 g3 e => ?_⟩
  · rw [St.set_ne _ _ (by first | exact neN ho J.fr | exact fun z => by rw [z, J.fr] at ho; cases ho)]; exact ho
  · rw [St.set_ne _ _ (by first | exact neN h1 J.fr | exact fun z => by rw [z, J.fr] at h1; cases h1)]; exact h1
  · rw [St.set_ne _ _ (fun z => by have := h2 k cc e; rw [z, J.fr] at this; cases this)]; exact h2 k cc e
  · rw [St.set_ne _ _ g1]; exact J.keep b o g1 g2 g3 e
theorem Lb.put {a : Addr} {xs ys : List V} (J : Lb σ₀ σ L c m) (ha : σ a = some (.list xs)) (h0 : σ₀ a = none) : Lb σ₀ (σ.set a (.list ys)) L c m := by
  obtain ⟨o, ho⟩ := J.cell
  obtain ⟨cs, h1, h2⟩ := J.tab
  refine ⟨?_, ⟨o, ?_⟩, ⟨cs, ?_, fun k cc e => ?_⟩, fun b o g1 g2 g3 e => ?_⟩
  · rw [St.set_ne _ _ (fun z => by have := J.fr; rw [z, ha] at this; cases this)]; exact J.fr
  · rw [St.set_ne _ _ (by first | exact neN ho ha | exact fun z => by rw [z, ha] at ho; cases ho)]; exact ho
  · rw [St.set_ne _ _ (by first | exact neN h1 ha | exact fun z => by rw [z, ha] at h1; cases h1)]; exact h1
  · rw [St.set_ne _ _ (fun z => by have := h2 k cc e; rw [z, ha] at this; cases this)]; exact h2 k cc e
  · rw [St.set_ne _ _ (by first | exact neN e h0 | exact fun z => by rw [z, h0] at e; cases e)]; exact J.keep b o g1 g2 g3 e
theorem Lb.setC {v : V} (J : Lb σ₀ σ L c m) : Lb σ₀ (σ.set c (.cell (some v))) L c m := by
  obtain ⟨o, ho⟩ := J.cell
  obtain ⟨cs, h1, h2⟩ := J.tab
  refine ⟨?_, ⟨some v, St.set_same ..⟩, ⟨cs, ?_, fun k cc e => ?_⟩, fun b o g1 g2 g3 e => ?_⟩
  · rw [St.set_ne _ _ (fun z => by have := J.fr; rw [z, ho] at this; cases this)]; exact J.fr
  · rw [St.set_ne _ _ (by first | exact neN h1 ho | exact fun z => by rw [z, ho] at h1; cases h1)]; exact h1
  · rw [St.set_ne _ _ (fun z => by have := h2 k cc e; rw [z, ho] at this; cases this)]; exact h2 k cc e
  · rw [St.set_ne _ _ g2]; exact J.keep b o g1 g2 g3 e
theorem Lb.none0 {a : Addr} (J : Lb σ₀ σ L c m) (h : σ a = none) : σ₀ a = none := by
  cases e : σ₀ a with
  | none => rfl
  | some o =>
    obtain ⟨o', ho⟩ := J.cell
    obtain ⟨cs, h1, _⟩ := J.tab
    have := J.keep a o (by first | exact neN h J.fr | exact fun z => by rw [z, J.fr] at h; cases h) (by first | exact neN h ho | exact fun z => by rw [z, ho] at h; cases h) (by first | exact neN h h1 | exact fun z => by rw [z, h1] at h; cases h) e
    rw [h] at this; cases this
/-- a new wire, put into the cell -/
theorem s_wire {Qt : Ft} (J : Lb σ₀ σ L c m) (m1 : m nData = some (.bytes data)) (m2 : m nAt = some (.int p)) (hl : data.length ≤ 1000) (hp : p ≤ data.length)
    (q : ∀ w d τ, Lb σ₀ τ L c m → W0 τ w d data p → σ₀ w = none → σ₀ d = none → τ c = some (.cell (some (.ref w))) → (∀ b o, b ≠ c → σ b = some o → τ b = some o) → Qt .next τ) : WS1 C (some c) (.asgC nWire (.call (.glob (S "Wire") (.ref clsWire)) [Mine.L nData, Mine.L nAt])) L σ Qt X := by
  refine y_asgC (u_call (u_glob (v_cons ?_)))
  refine f_loc J.fr m1 ?_
  (walk_at "w v")
  refine f_loc J.fr m2 ?_
  (walk_at "w v")
  refine callV_wire fun d w h1 h2 h3 => ?_
  have J1 := J.new (o := .ns false (mk [(nAt, .int p), (nData, .bytes data)])) h1
  have h2' : (σ.set d (.ns false (mk [(nAt, .int p), (nData, .bytes data)]))) w = none := by first | exact (St.set_ne _ _ h3.symm).trans h2 | (rw [St.set_ne _ _ h3.symm]; exact h2)
  have J2 := J1.new (o := .inst clsWire d) h2'
  have H : W0 ((σ.set d (.ns false (mk [(nAt, .int p), (nData, .bytes data)]))).set w (.inst clsWire d)) w d data p := ⟨St.set_same .., by rw [St.set_ne _ _ h3, St.set_same]; rfl, by lia, hp⟩
  obtain ⟨o, ho⟩ := J2.cell
  have hwc : w ≠ c := by first | exact neS H.w ho | exact fun z => by rw [← z, H.w] at ho; cases ho
  have hdc : d ≠ c := by first | exact neS H.d ho | exact fun z => by rw [← z, H.d] at ho; cases ho
  refine ⟨c, o, rfl, ho, q w d _ J2.setC (H.other hwc hdc) (J.none0 h2) (J.none0 h1) (St.set_same ..) fun b o hb e => ?_⟩
  rw [St.set_ne _ _ hb, St.set_ne _ _ (by first | exact neN e h2 | exact fun z => by rw [z, h2] at e; cases e), St.set_ne _ _ (by first | exact neN e h1 | exact fun z => by rw [z, h1] at e; cases e)]; exact e
/-- a lambda is made -/
theorem e_lam {f : F} {k : Nat} (J : Lb σ₀ σ L c m) (hk : lamNo f = k) (q : ∀ a cc τ, Lb σ₀ τ L c m → (∀ b o, b ≠ tabAddr → σ b = some o → τ b = some o) → 472 ≤ a → τ a = some (.lam k c cc) → τ cc = some (.code k) → Q (.ref a) τ) : WE C (some c) (.lam f) L σ Q X := by
  obtain ⟨o, ho⟩ := J.cell
  obtain ⟨cs, h1, h2⟩ := J.tab
  refine ⟨c, k, cs, rfl, hk.symm, h1, ?_⟩
  cases e : cs.lookup k with
  | some cc =>
    refine .inl ⟨cc, rfl, fun a ha h472 => q a cc _ (J.new ha) (fun b o _ h => St.le_set ha _ _ h) h472 (St.set_same ..) (St.le_set ha _ _ (h2 k cc e))⟩
  | none =>
    refine .inr ⟨rfl, fun cc a g1 g2 g3 h472 => q a cc _ ?_ (fun b o hb h => ?_) h472 (St.set_same ..) ?_⟩
    · have nt : cc ≠ tabAddr := by first | exact neN g1 h1 | exact fun z => by rw [z, h1] at g1; cases g1
      have na : a ≠ tabAddr := by first | exact neN g2 h1 | exact fun z => by rw [z, h1] at g2; cases g2
      refine ⟨?_, ⟨o, ?_⟩, ⟨cs ++ [(k, cc)], ?_, fun j cj ej => ?_⟩, fun b o n1 n2 n3 h => ?_⟩
      · have hL : ∀ b, σ b = none ∨ b = tabAddr → L ≠ b := fun b hb z => by
          rcases hb with hb | hb
          · rw [← z, J.fr] at hb; cases hb
          · rw [← hb, ← z, J.fr] at h1; cases h1
        rw [St.set_ne _ _ (hL a (.inl g2)), St.set_ne _ _ (hL cc (.inl g1)), St.set_ne _ _ (hL _ (.inr rfl))]; exact J.fr
      · have hL : ∀ b, σ b = none ∨ b = tabAddr → c ≠ b := fun b hb z => by
          rcases hb with hb | hb
          · rw [← z, ho] at hb; cases hb
          · rw [← hb, ← z, ho] at h1; cases h1
        rw [St.set_ne _ _ (hL a (.inl g2)), St.set_ne _ _ (hL cc (.inl g1)), St.set_ne _ _ (hL _ (.inr rfl))]; exact ho
      · rw [St.set_ne _ _ na.symm, St.set_ne _ _ nt.symm, St.set_same]
      · rw [List.lookup_append] at ej
        cases e2 : cs.lookup j with
        | some cj' =>
          rw [e2] at ej
          cases ej
          have hj := h2 j cj e2
          rw [St.set_ne _ _ (by first | exact neN hj g2 | exact fun z => by rw [z, g2] at hj; cases hj), St.set_ne _ _ (by first | exact neN hj g1 | exact fun z => by rw [z, g1] at hj; cases hj), St.set_ne _ _ (by first | exact neN hj h1 | exact fun z => by rw [z, h1] at hj; cases hj)]; exact hj
        | none =>
          rw [e2] at ej
          have ej : List.lookup j [(k, cc)] = some cj := by simpa using ej
          rw [List.lookup_cons] at ej
          split at ej
          · rename_i hjk
            cases ej
            rw [St.set_ne _ _ g3, St.set_same, beq_iff_eq.mp hjk]
          · cases ej
      · have hb := J.keep b o n1 n2 n3 h
        rw [St.set_ne _ _ (by first | exact neN hb g2 | exact fun z => by rw [z, g2] at hb; cases hb), St.set_ne _ _ (by first | exact neN hb g1 | exact fun z => by rw [z, g1] at hb; cases hb), St.set_ne _ _ n3]; exact hb
    · rw [St.set_ne _ _ (by first | exact neN h g2 | exact fun z => by rw [z, g2] at h; cases h), St.set_ne _ _ (by first | exact neN h g1 | exact fun z => by rw [z, g1] at h; cases h), St.set_ne _ _ hb]; exact h
    · rw [St.set_ne _ _ g3, St.set_same]
end
end Mine
-- D23
namespace Mine
open IE IS N
section
variable {n : Nat} {σ σ₀ : St} {Q : Kt} {X : Xt} {C : Ct} {cl : Option Addr} {L w d c : Addr} {m : N → Option V} {data : List UInt8} {p : Nat}
theorem Lb.ntab (J : Lb σ₀ σ L c m) {b : Addr} {o : AO} (h : σ b = some o) (ho : ∀ cs, o ≠ .tab cs) : b ≠ tabAddr := fun z => by
  obtain ⟨cs, h1, _⟩ := J.tab
  rw [z, h1] at h; cases h; exact ho _ rfl
theorem W0.leT {τ : St} (H : W0 σ w d data p) (J : Lb σ₀ σ L c m) (h : leT σ τ) : W0 τ w d data p :=
  ⟨h _ _ rfl H.w, h _ _ rfl H.d, H.len, H.le⟩
/-- `if _law_asked(wire, e1) != e2: return False` -/
theorem s_ask {r : R D} {e1 e2 : IE} {Qt : Ft} (hn : 3 ≤ n) (J : Lb σ₀ σ L c m) (H : W0 σ w d data p) (hd0 : σ₀ d = none) (hc : σ c = some (.cell (some (.ref w))))
    (h1 : ∀ (Q : Kt), (∀ v τ, Lb σ₀ τ L c m → leT σ τ → (∀ σ' Q X, τ.le σ' → W0 σ' w d data p → RD Q X σ' d data r → callV (WC (n - 1)) v [] σ' Q X) → Q v τ) → WE (WC n) (some c) e1 L σ Q X)
    (h2 : ∀ τ (Q : Kt), Lb σ₀ τ L c m → (∀ b o, okT o = true → b ≠ d → σ b = some o → τ b = some o) → (∀ b τ2, τ.le τ2 → IsDat τ2 150 (.ref b) (.tup (datR r)) → Q (.ref b) τ2) → WE (WC n) (some c) e2 L τ Q X)
    (nx : ∀ τ, Lb σ₀ τ L c m → Qt .next τ) :
    WS1 (WC n) (some c) (.iff (.cmp .NotEq (ntup .lAsked "_law_asked" [.cv nWire, e1]) e2) [.ret (.kb false)] []) L σ Qt X := by
  refine y_iff (u_cmp (u_call (u_glob (v_cons ?_))))
  refine e_cv hc ?_
  (walk_at "w v")
  refine h1 _ fun v τ J1 hk hdeed => ?_
  have H1 := H.leT J hk
  (walk_at "w v")
  refine to_asked (w_ask (r := r) (by walk_at "w a") H1 hdeed fun a τ1 hk1 hdat => ?_)
  have J2 := J1.ext H1.d hd0 hk1
  refine h2 τ1 _ J2 (fun b o n1 n2 e => hk1 b o n2 (hk b o n1 e)) fun b τ2 hle hdat2 => ?_
  refine .inr ⟨datR r, hdat.mono (fun a o _ e => hle a o e) (by decide), hdat2.mono (fun a o _ e => e) (by decide), _, rfl, (fun h => by cases h), fun _ => ?_⟩
  (walk_at "w n")
  exact nx _ (J2.of_le hle)
/-- the bound methods in a display -/
theorem wes_bm {rest : List IE} : ∀ (l : List (Nat × F)), (∀ x ∈ l, isP x.2 = true ∧ ∀ σ' Q X, W0 σ' w d data p → RD Q X σ' d data (rdW x.1 data p) → WC n x.2 [.ref w] σ' Q X) →
    ∀ {σ : St} {Q : List V → St → Prop}, Lb σ₀ σ L c m → W0 σ w d data p → σ c = some (.cell (some (.ref w))) →
      (∀ vs τ, Lb σ₀ τ L c m → σ.le τ → vs.length = l.length → (∀ (j : Nat) x, l[j]? = some x → ∃ v, vs[j]? = some v ∧ Deed n x.1 v τ w d data p) → WEs C (some c) rest L τ (fun us σ => Q (vs ++ us) σ) X) →
      WEs C (some c) (l.map (fun x => .bm (.cv nWire) x.2) ++ rest) L σ Q X
  | [], _, σ, Q, J, H, hc, q => q [] σ J (St.le_refl _) rfl fun j x h => by simp at h
  | x :: l, hx, σ, Q, J, H, hc, q => by
    obtain ⟨hf, hs⟩ := hx x List.mem_cons_self
    show WEs C (some c) (.bm (.cv nWire) x.2 :: (l.map (fun x => .bm (.cv nWire) x.2) ++ rest)) L σ Q X
    (walk_at "w v"; walk_at "w e")
    refine e_cv hc ⟨w, d, _, rfl, H.w, H.d, lean_wns, fun b hb h472 => ?_⟩
    have D0 : Deed n x.1 (.ref b) (σ.set b (.meth x.2.addr w)) w d data p := deed_meth h472 (St.set_same ..) hf hs
    have hle0 : σ.le (σ.set b (.meth x.2.addr w)) := St.le_set hb
    have J1 := J.new (o := .meth x.2.addr w) hb
    have H1 := H.fresh (o := .meth x.2.addr w) hb
    have hc1 := hle0 _ _ hc
    refine wes_bm l (fun y hy => hx y (List.mem_cons_of_mem _ hy)) J1 H1 hc1 fun vs τ J2 hle hlen hv => ?_
    refine q (.ref b :: vs) τ J2 (St.le_trans hle0 hle) (by simp [hlen]) fun j y hj => ?_
    cases j with
    | zero => cases hj; exact ⟨_, rfl, D0.mono (.of hle)⟩
    | succ j => exact hv j y hj
theorem Lb.withIt {it : Addr} {o : AO} (J : Lb σ₀ σ L c m) (h : σ it = some o) : Lb (σ₀.set it o) σ L c m :=
  ⟨J.fr, J.cell, J.tab, fun b o' h1 h2 h3 e => by
    by_cases hb : b = it
    · subst hb; rw [St.set_same] at e; cases e; exact h
    · rw [St.set_ne _ _ hb] at e; exact J.keep b o' h1 h2 h3 e⟩
theorem Lb.dropIt {it : Addr} {o : AO} (J : Lb (σ₀.set it o) σ L c m) (h : σ₀ it = none) : Lb σ₀ σ L c m :=
  ⟨J.fr, J.cell, J.tab, fun b o' h1 h2 h3 e => J.keep b o' h1 h2 h3 (by first | exact (St.set_ne _ _ (by first | exact neN e h | exact fun z => by rw [z, h] at e; cases e)).trans e | (rw [St.set_ne _ _ (by first | exact neN e h | exact fun z => by rw [z, h] at e; cases e)]; exact e))⟩
noncomputable def deeds : List (Nat × F) := [(0, .wNstring), (1, .wAstring), (2, .wNumber), (3, .wString), (4, .wFlag), (5, .wSetText)]
theorem deeds_ok (hn : 10 ≤ n) : ∀ x ∈ deeds, isP x.2 = true ∧ ∀ σ' Q X, W0 σ' w d data p → RD Q X σ' d data (rdW x.1 data p) → WC n x.2 [.ref w] σ' Q X := by
  intro x hx
  simp only [deeds, List.mem_cons, List.not_mem_nil, or_false] at hx
  rcases hx with rfl | rfl | rfl | rfl | rfl | rfl
  · exact ⟨rfl, fun σ' Q X H q => d_nstring (by walk_at "w a") H q⟩
  · exact ⟨rfl, fun σ' Q X H q => d_astring (by walk_at "w a") H q⟩
  · exact ⟨rfl, fun σ' Q X H q => d_number (by walk_at "w a") H q⟩
  · exact ⟨rfl, fun σ' Q X H q => d_string (by walk_at "w a") H q⟩
  · exact ⟨rfl, fun σ' Q X H q => d_flag (by walk_at "w a") H q⟩
  · exact ⟨rfl, fun σ' Q X H q => d_set (by walk_at "w a") H q⟩
/-- the seven deeds in a list -/
theorem e_deeds {i : Nat} (hn : 30 ≤ n) (J : Lb σ₀ σ L c m) (H : W0 σ w d data p) (hc : σ c = some (.cell (some (.ref w)))) (hi : i < 7) (hw : m nWay = some (.int i))
    (q : ∀ v τ, Lb σ₀ τ L c m → leT σ τ → Deed n i v τ w d data p → Q v τ) :
    WE C (some c) (.sub (.list [.bm (.cv nWire) .wNstring, .bm (.cv nWire) .wAstring, .bm (.cv nWire) .wNumber, .bm (.cv nWire) .wString, .bm (.cv nWire) .wFlag, .bm (.cv nWire) .wSetText, .lam .lam1]) (Mine.L nWay)) L σ Q X := by
  (walk_at "w e"; walk_at "w e")
  refine wes_bm (n := n) (rest := [.lam .lam1]) deeds (deeds_ok (n := n) (by walk_at "w a")) J H hc fun vs τ J1 hle hlen hv => ?_
  have hc1 := hle _ _ hc
  (walk_at "w v")
  refine e_lam (f := .lam1) (k := 1) J1 rfl fun a cc τ' J2 hk h472 ha hcc => ?_
  have hc2 : τ' c = some (.cell (some (.ref w))) := hk _ _ (J1.ntab hc1 fun cs e => by cases e) hc1
  have D6 : Deed n 6 (.ref a) τ' w d data p := fun σ' Q X hle' H q =>
    callV_lam h472 (hle' _ _ rfl ha) (hle' _ _ rfl hcc) (d_listOf (by walk_at "w a") H (hle' _ _ rfl hc2) q)
  (walk_at "w v")
  intro l hl
  have J3 := J2.new (o := .list (vs ++ [.ref a])) hl
  have hk3 : leT τ (τ'.set l (.list (vs ++ [.ref a]))) := fun b o hb e => St.le_set hl _ _ (hk b o (J1.ntab e fun cs z => by rw [z] at hb; cases hb) e)
  refine f_loc J3.fr hw ⟨vs ++ [.ref a], ?_⟩
  obtain ⟨v, hv1, hv2⟩ : ∃ v, (vs ++ [V.ref a])[i]? = some v ∧ Deed n i v (τ'.set l (.list (vs ++ [.ref a]))) w d data p := by
    have h6 : vs.length = 6 := hlen
    rcases Nat.lt_or_ge i 6 with h | h
    · obtain ⟨x, hx, hxi⟩ : ∃ x, deeds[i]? = some x ∧ x.1 = i := by
        have e : (deeds.map (·.1))[i]? = some i := List.getElem?_range h
        rw [List.getElem?_map] at e
        exact Option.map_eq_some_iff.mp e
      obtain ⟨v, h1, h2⟩ := hv i x hx
      rw [hxi] at h2
      exact ⟨v, by rw [List.getElem?_append_left (by walk_at "w a")]; exact h1, h2.mono hk3⟩
    · have : i = 6 := by lia
      subst this
      exact ⟨.ref a, by rw [List.getElem?_append_right (by walk_at "w a"), h6]; rfl, D6.mono (.of (St.le_set hl))⟩
  exact ⟨v, .inl (St.set_same ..), by lia, by lia, hv1, q v _ J3 (fun b o hb e => hk3 b o hb (hle _ _ e)) hv2⟩
end
end Mine
-- D24
namespace Mine
open IE IS N
noncomputable def lawF : List F := [.lNstring, .lAstring, .lNumber, .lNumber, .lFlag, .lSet, .lNumbers]
section
variable {n : Nat} {σ σ₀ : St} {Q : Kt} {X : Xt} {C : Ct} {cl : Option Addr} {L w d c : Addr} {m : N → Option V} {data : List UInt8} {p : Nat}
theorem Lb.nL {a : Addr} {xs : List V} (J : Lb σ₀ σ L c m) (h : σ a = some (.tup xs)) : a ≠ L := by first | exact neN h J.fr | exact fun z => by rw [z, J.fr] at h; cases h
/-- the functions of law in a display -/
theorem wes_fn {rest : List IE} : ∀ (l : List (Str × F)) {Q : List V → St → Prop}, Q (l.map fun x => V.ref x.2.addr) σ → WEs C cl (l.map fun x => IE.glob x.1 (.ref x.2.addr)) L σ Q X
  | [], Q, q => q
  | x :: l, Q, q => by
    show WEs C cl (.glob x.1 (.ref x.2.addr) :: l.map fun x => IE.glob x.1 (.ref x.2.addr)) L σ Q X
    (walk_at "w v"; walk_at "w e")
    exact wes_fn (rest := rest) l q
theorem upd_upd {k : N} {v v' : V} : upd (upd m k v) k v' = upd m k v' := by
  funext x; unfold upd; by_cases h : x.nat = k.nat <;> simp [h]
theorem isDat_loc {v : V} {x : N} {y : V} {k : Nat} {dt : D} (hL : σ L = some (.ns true m)) (h : IsDat σ k v dt) : IsDat (setLoc σ L x y) k v dt :=
  h.mono (fun a o ho e => by first | exact (setLoc_ne (fun z => by rw [z, hL] at e; cases e; cases ho)).trans e | (rw [setLoc_ne (fun z => by rw [z, hL] at e; cases e; cases ho)]; exact e)) (Nat.le_refl _)
/-- what is due -/
theorem s_due {i : Nat} {Qt : Ft} {rest : List IS} (hn : 20 ≤ n) (J : Lb σ₀ σ L c m) (hl : data.length ≤ 1000) (hp : p ≤ data.length) (m1 : m nData = some (.bytes data)) (m2 : m nAt = some (.int p)) (hi : i < 7) (hw : m nWay = some (.int i))
    (nx : ∀ b τ, Lb σ₀ τ L c (upd m nDue (.ref b)) → (∀ b' o, b' ≠ L → σ b' = some o → τ b' = some o) → IsDat τ 150 (.ref b) (.tup (datR (rdW i data p))) → WS (WC n) (some c) rest L τ Qt X) :
    WS (WC n) (some c) (.asg nDue (ntup .lString "_law_string" [Mine.L nData, Mine.L nAt]) ::
      .iff (.cmp .NotEq (Mine.L nWay) (.ki 3)) [
        .asg nDue (.call (.sub (.list [fnE "_law_nstring" .lNstring, fnE "_law_astring" .lAstring, fnE "_law_number" .lNumber, fnE "_law_number" .lNumber, fnE "_law_flag" .lFlag, fnE "_law_set" .lSet, fnE "_law_numbers" .lNumbers]) (Mine.L nWay)) [Mine.L nData, Mine.L nAt])] [
        .iff (.cmp .NotEq (.sub (Mine.L nDue) (.ki 0)) (.ks (S "fault"))) [.asg nDue (.slice (Mine.L nDue) (some (.ki 1)) none)] []] :: rest) L σ Qt X := by
  (walk_at "w s"; walk_at "w e"; walk_at "w e"; walk_at "w v")
  refine f_loc J.fr m1 ?_
  (walk_at "w v")
  refine f_loc J.fr m2 ?_
  (walk_at "w v")
  -- with the tuple a of the string
  have main : ∀ (a : Addr) (xs : List V) (τ : St), σ.le τ → σ a = none → τ a = some (.tup xs) → (i = 3 → (∃ b k, rdS data p = .ok b k ∧ xs = [.str (S "string"), .bytes b, .int (k : Nat)]) ∨ ∃ j, rdS data p = .bad j ∧ xs = fV j) →
      (∃ m, τ L = some (.ns true m)) ∧ WS (WC n) (some c) (.iff (.cmp .NotEq (Mine.L nWay) (.ki 3)) [
        .asg nDue (.call (.sub (.list [fnE "_law_nstring" .lNstring, fnE "_law_astring" .lAstring, fnE "_law_number" .lNumber, fnE "_law_number" .lNumber, fnE "_law_flag" .lFlag, fnE "_law_set" .lSet, fnE "_law_numbers" .lNumbers]) (Mine.L nWay)) [Mine.L nData, Mine.L nAt])] [
        .iff (.cmp .NotEq (.sub (Mine.L nDue) (.ki 0)) (.ks (S "fault"))) [.asg nDue (.slice (Mine.L nDue) (some (.ki 1)) none)] []] :: rest) L (setLoc τ L nDue (.ref a)) Qt X := by
    intro a xs τ hle ha hA h3
    have J0 := J.of_le hle
    have aL := J0.nL hA
    have J1 := J0.asg (x := nDue) (v := .ref a)
    have hA1 : (setLoc τ L nDue (.ref a)) a = some (.tup xs) := by first | exact (setLoc_ne aL).trans hA | (rw [setLoc_ne aL]; exact hA)
    have hk1 : ∀ b' o, b' ≠ L → σ b' = some o → (setLoc τ L nDue (.ref a)) b' = some o := fun b' o hb e => by rw [setLoc_ne hb]; exact hle _ _ e
    refine ⟨J0.bset, ?_⟩
    generalize setLoc τ L nDue (.ref a) = τ1 at J1 hA1 hk1
    (walk_at "w s"; walk_at "w e")
    refine f_loc J1.fr (show upd m nDue _ nWay = _ from hw) ?_
    (walk_at "w e")
    refine (.mk (fun h => ?_) (fun h => ?_))
    · have hi3 : i ≠ 3 := fun z => by rw [z] at h; exact absurd h (by decide)
      (walk_at "w s"; walk_at "w e"; walk_at "w e"; walk_at "w e")
      refine wes_fn (rest := []) [(S "_law_nstring", .lNstring), (S "_law_astring", .lAstring), (S "_law_number", .lNumber), (S "_law_number", .lNumber), (S "_law_flag", .lFlag), (S "_law_set", .lSet), (S "_law_numbers", .lNumbers)] ?_
      intro l hl'
      have J2 := J1.new (o := .list (lawF.map fun f => V.ref f.addr)) hl'
      have hk2 : τ1.le (τ1.set l (.list (lawF.map fun f => V.ref f.addr))) := St.le_set hl'
      have hget := fun (Q : Kt) (X : Xt) (σ' : St) (q : RL Q σ' (rdW i data p)) => l_ways (n := n) (X := X) i hi hi3 (by walk_at "w a") (by walk_at "w a") hp q
      refine f_loc J2.fr (show upd m nDue _ nWay = _ from hw) ?_
      obtain ⟨f, hf⟩ : ∃ f, lawF[i]? = some f := ⟨lawF[i]'(by show i < 7; exact hi), List.getElem?_eq_getElem _⟩
      refine ⟨_, .ref f.addr, .inl (St.set_same ..), by lia, by lia, ?_, ?_⟩
      · show (lawF.map fun f => V.ref f.addr)[((i : Nat) : Int).toNat]? = _
        rw [List.getElem?_map]
        show Option.map _ lawF[i]? = _
        rw [hf]; rfl
      have J2 : Lb σ₀ (τ1.set l (.list (lawF.map fun f => V.ref f.addr))) L c (upd m nDue (.ref a)) := J2
      generalize τ1.set l (.list (lawF.map fun f => V.ref f.addr)) = τ2 at J2 hk2
      (walk_at "w v")
      refine f_loc J2.fr (show upd m nDue _ nData = _ from m1) ?_
      (walk_at "w v")
      refine f_loc J2.fr (show upd m nDue _ nAt = _ from m2) ?_
      (walk_at "w v")
      have fin : ∀ (b : Addr) (τ3 : St), τ2.le τ3 → τ2 b = none → IsDat τ3 150 (.ref b) (.tup (datR (rdW i data p))) → (∃ m, τ3 L = some (.ns true m)) ∧ WS (WC n) (some c) rest L (setLoc τ3 L nDue (.ref b)) Qt X := by
        intro b τ3 hle3 hb3 hdat
        have J3 := J2.of_le hle3
        refine ⟨J3.bset, nx b _ (by have := J3.asg (x := nDue) (v := .ref b); rw [upd_upd] at this; exact this) (fun b' o hb e => ?_) (isDat_loc J3.fr hdat)⟩
        rw [setLoc_ne hb]; exact hle3 _ _ (hk2 _ _ (hk1 _ _ hb e))
      obtain ⟨f', hf', hP, hW⟩ := hget (fun v σ => (∃ m, σ L = some (.ns true m)) ∧ WS (WC n) (some c) [] L (setLoc σ L nDue v) (fun fl σ => match fl with | .next => WS (WC n) (some c) rest L σ Qt X | .ret v => Qt (.ret v) σ) X) X τ2 (fun b τ3 h1 h2 h3 => by
        have := fin b τ3 h1 h2 h3
        exact ⟨this.1, this.2⟩)
      have : f' = f := by
        have h1 : lawF[i]? = some f' := hf'
        rw [hf] at h1; exact (Option.some.inj h1).symm
      subst this
      exact to_f hP hW
    · have hi3 : i = 3 := by
        have h' : (!decide ((i : Int) = 3)) = false := h
        have h' : decide ((i : Int) = 3) = true := by simpa using h'
        have := of_decide_eq_true h'; lia
      subst hi3
      (walk_at "w s"; walk_at "w e"; walk_at "w e")
      refine f_loc J1.fr rfl ?_
      (walk_at "w e")
      rcases h3 rfl with ⟨b, k, hz, rfl⟩ | ⟨j, hz, rfl⟩
      · refine ⟨_, _, .inr hA1, by decide, by decide, rfl, ?_⟩
        (walk_at "w e")
        refine (.mk (fun _ => ?_) (fun h => absurd h (by decide)))
        (walk_at "w s"; walk_at "w e")
        refine f_loc J1.fr rfl ?_
        (walk_at "w o"; walk_at "w e"; walk_at "w o")
        refine ⟨_, hA1, by decide, (by show (1 : Int) ≤ 3; decide), (by show 3 ≤ 1000; decide), fun r hr => ?_⟩
        have J2 := J1.new (o := .tup [.bytes b, .int (k : Nat)]) hr
        have hR : (τ1.set r (.tup [.bytes b, .int (k : Nat)])) r = some (.tup [.bytes b, .int (k : Nat)]) := St.set_same ..
        have hk2 : τ1.le (τ1.set r (.tup [.bytes b, .int (k : Nat)])) := St.le_set hr
        show (∃ m, (τ1.set r (.tup [.bytes b, .int (k : Nat)])) L = some (.ns true m)) ∧ WS (WC n) (some c) [] L (setLoc (τ1.set r (.tup [.bytes b, .int (k : Nat)])) L nDue (.ref r)) _ X
        generalize τ1.set r (.tup [.bytes b, .int (k : Nat)]) = τ2 at J2 hR hk2
        refine ⟨J2.bset, ?_⟩
        (walk_at "w n"; walk_at "w n")
        refine nx r _ (by have := J2.asg (x := nDue) (v := .ref r); rw [upd_upd] at this; exact this) (fun b' o hb e => ?_) (isDat_loc J2.fr ?_)
        · rw [setLoc_ne hb]; exact hk2 _ _ (hk1 _ _ hb e)
        · show IsDat τ2 150 (.ref r) (.tup (datR ((rdS data p).map D.bytes)))
          rw [hz]
          exact .tup (n := 149) hR (.cons (.bytes _ _) (.cons (.int _ _) (.nil _)))
      · refine ⟨_, _, .inr hA1, by decide, by decide, rfl, ?_⟩
        (walk_at "w e")
        refine (.mk (fun h => absurd h (by decide)) (fun _ => ?_))
        (walk_at "w n"; walk_at "w n")
        refine nx a _ J1 hk1 ?_
        show IsDat τ1 150 (.ref a) (.tup (datR ((rdS data p).map D.bytes)))
        rw [hz]
        exact .tup (n := 149) hA1 (.cons (.str _ _) (.cons (.int _ _) (.nil _)))
  refine to_f rfl (w_lstring (by walk_at "w a") (by walk_at "w a") hp ?_)
  cases hz : rdS data p with
  | bad j => exact fun a τ hle ha hA => main a _ τ hle ha hA fun _ => .inr ⟨j, hz, rfl⟩
  | ok b k => exact fun a τ hle ha hA => main a _ τ hle ha hA fun _ => .inl ⟨b, k, hz, rfl⟩
end
end Mine
-- D25
namespace Mine
open IE IS N
section
variable {n : Nat} {σ σ₀ : St} {Q : Kt} {X : Xt} {C : Ct} {cl : Option Addr} {L w d c : Addr} {m : N → Option V} {data : List UInt8} {p : Nat}
theorem Lb.le {τ : St} (J : Lb σ₀ σ L c m) (h0 : σ₀.le σ) : True := trivial
theorem Lb.over {it : Addr} (J : Lb σ₀ σ L c m) (h : σ₀ it = none) (h1 : it ≠ L) (h2 : it ≠ c) (h3 : it ≠ tabAddr) (h4 : ∃ sv i, σ it = some (.iter sv i)) : Lb σ₀ (σ.del it) L c m := by
  obtain ⟨o, ho⟩ := J.cell
  obtain ⟨cs, g1, g2⟩ := J.tab
  obtain ⟨sv, i, h4⟩ := h4
  refine ⟨by first | exact (St.del_ne _ h1.symm).trans J.fr | (rw [St.del_ne _ h1.symm]; exact J.fr), ⟨o, by first | exact (St.del_ne _ h2.symm).trans ho | (rw [St.del_ne _ h2.symm]; exact ho)⟩, ⟨cs, by first | exact (St.del_ne _ h3.symm).trans g1 | (rw [St.del_ne _ h3.symm]; exact g1), fun k cc e => ?_⟩, fun b o n1 n2 n3 e => ?_⟩
  · rw [St.del_ne _ (fun z => by have := g2 k cc e; rw [z, h4] at this; cases this)]; exact g2 k cc e
  · rw [St.del_ne _ (by first | exact neN e h | exact fun z => by rw [z, h] at e; cases e)]; exact J.keep b o n1 n2 n3 e
theorem Lb.setIt {it : Addr} {sv sv' : V} {i i' : Nat} (J : Lb σ₀ σ L c m) (h : σ₀ it = none) (h4 : σ it = some (.iter sv i)) : Lb σ₀ (σ.set it (.iter sv' i')) L c m := by
  obtain ⟨o, ho⟩ := J.cell
  obtain ⟨cs, g1, g2⟩ := J.tab
  refine ⟨?_, ⟨o, ?_⟩, ⟨cs, ?_, fun k cc e => ?_⟩, fun b o n1 n2 n3 e => ?_⟩
  · rw [St.set_ne _ _ (fun z => by have := J.fr; rw [z, h4] at this; cases this)]; exact J.fr
  · rw [St.set_ne _ _ (by first | exact neN ho h4 | exact fun z => by rw [z, h4] at ho; cases ho)]; exact ho
  · rw [St.set_ne _ _ (by first | exact neN g1 h4 | exact fun z => by rw [z, h4] at g1; cases g1)]; exact g1
  · rw [St.set_ne _ _ (fun z => by have := g2 k cc e; rw [z, h4] at this; cases this)]; exact g2 k cc e
  · rw [St.set_ne _ _ (by first | exact neN e h | exact fun z => by rw [z, h] at e; cases e)]; exact J.keep b o n1 n2 n3 e
/-- one question of the seven -/
theorem s_way {i : Nat} {Qt : Ft} (hn : 60 ≤ n) (J : Lb σ₀ σ L c m) (hl : data.length ≤ 1000) (hp : p ≤ data.length) (m1 : m nData = some (.bytes data)) (m2 : m nAt = some (.int p)) (hi : i < 7) (hw : m nWay = some (.int i))
    (nx : ∀ m' τ, Lb σ₀ τ L c m' → m' nData = some (.bytes data) → m' nAt = some (.int p) → Qt .next τ) :
    WS (WC n) (some c) [
      .asgC nWire (.call (.glob (S "Wire") (.ref clsWire)) [Mine.L nData, Mine.L nAt]),
      .asg nAsked (.sub (.list [.bm (.cv nWire) .wNstring, .bm (.cv nWire) .wAstring, .bm (.cv nWire) .wNumber, .bm (.cv nWire) .wString, .bm (.cv nWire) .wFlag, .bm (.cv nWire) .wSetText, .lam .lam1]) (Mine.L nWay)),
      .asg nDue (ntup .lString "_law_string" [Mine.L nData, Mine.L nAt]),
      .iff (.cmp .NotEq (Mine.L nWay) (.ki 3)) [
        .asg nDue (.call (.sub (.list [fnE "_law_nstring" .lNstring, fnE "_law_astring" .lAstring, fnE "_law_number" .lNumber, fnE "_law_number" .lNumber, fnE "_law_flag" .lFlag, fnE "_law_set" .lSet, fnE "_law_numbers" .lNumbers]) (Mine.L nWay)) [Mine.L nData, Mine.L nAt])] [
        .iff (.cmp .NotEq (.sub (Mine.L nDue) (.ki 0)) (.ks (S "fault"))) [.asg nDue (.slice (Mine.L nDue) (some (.ki 1)) none)] []],
      .iff (.cmp .NotEq (ntup .lAsked "_law_asked" [.cv nWire, Mine.L nAsked]) (Mine.L nDue)) [.ret (.kb false)] []] L σ Qt X := by
  (walk_at "w n")
  refine s_wire J m1 m2 hl hp fun w d τ J H hw0 hd0 hc hk => ?_
  (walk_at "w s")
  refine e_deeds (n := n - 1) (i := i) (by walk_at "w a") J H hc hi hw fun v τ1 J1 hk1 D1 => ?_
  refine (.mk J1.bset ?_)
  have H1 := H.leT J hk1
  have hc1 := hk1 _ _ rfl hc
  have J2 := J1.asg (x := nAsked) (v := v)
  have wL : w ≠ L := fun z => by have := H1.w; rw [z, J1.fr] at this; cases this
  have dL : d ≠ L := fun z => by have := H1.d; rw [z, J1.fr] at this; cases this
  have cL : c ≠ L := by first | exact neN hc1 J1.fr | exact fun z => by rw [z, J1.fr] at hc1; cases hc1
  have H2 : W0 (setLoc τ1 L nAsked v) w d data p := ⟨by first | exact (setLoc_ne wL).trans H1.w | (rw [setLoc_ne wL]; exact H1.w), by first | exact (setLoc_ne dL).trans H1.d | (rw [setLoc_ne dL]; exact H1.d), H1.len, H1.le⟩
  have hc2 : (setLoc τ1 L nAsked v) c = some (.cell (some (.ref w))) := by first | exact (setLoc_ne cL).trans hc1 | (rw [setLoc_ne cL]; exact hc1)
  have hk2 : ∀ b o, b ≠ L → τ1 b = some o → (setLoc τ1 L nAsked v) b = some o := fun b o hb e => by first | exact (setLoc_ne hb).trans e | (rw [setLoc_ne hb]; exact e)
  generalize setLoc τ1 L nAsked v = τ2 at J2 H2 hc2 hk2
  refine s_due (i := i) (by walk_at "w a") J2 hl hp m1 m2 hi hw fun b τ3 J3 hk3 hdat => ?_
  have H3 : W0 τ3 w d data p := ⟨hk3 _ _ wL H2.w, hk3 _ _ dL H2.d, H2.len, H2.le⟩
  have hc3 := hk3 _ _ cL hc2
  have hL3 := J3.fr
  (walk_at "w n")
  refine s_ask (n := n) (r := rdW i data p) (by walk_at "w a") J3 H3 hd0 hc3 (fun Q q => f_loc J3.fr (show some v = some v from rfl) (q v τ3 J3 (fun b o _ e => e) fun σ' Q X hle H q => ?_)) (fun τ4 Q J4 hk4 q => f_loc J4.fr rfl (q b τ4 (St.le_refl _) (hdat.mono (fun a o ho e => hk4 a o (by cases o <;> first | rfl | cases ho) (fun z => by rw [z, H3.d] at e; cases e; cases ho) e) (Nat.le_refl _)))) fun τ4 J4 => ?_
  · refine D1 σ' Q X (fun b o hb e => hle _ _ (hk3 _ _ ?_ (hk2 _ _ ?_ e))) H q
    · exact fun z => by rw [z, J1.fr] at e; cases e; cases hb
    · exact fun z => by rw [z, J1.fr] at e; cases e; cases hb
  · (walk_at "w n")
    exact nx _ _ J4 m1 m2
/-- the law's own body gives True -/
theorem law_true {s : Addr} {is : List Int} {Q : Ft} (hn : 100 ≤ n) (J : Lb σ σ L c m) (ms : m nScript = some (.ref s)) (hs : ListAt σ s (is.map V.int)) (hlen : is.length ≤ 1000) (q : ∀ m' τ, Lb σ τ L c m' → Q (.ret (.bool true)) τ) :
    WS (WC n) (some c) lawBody L σ Q X := by
  refine t_asg (u_call (u_glob (v_cons ?_)))
  refine f_loc J.fr ms ?_
  (walk_at "w v")
  refine to_f rfl (w_bag (by walk_at "w a") hs hlen fun a x ha hx => ⟨(J.new ha).bset, ?_⟩)
  have haL : a ≠ L := by first | exact neN ha J.fr | exact fun z => by rw [z, J.fr] at ha; cases ha
  have J1 := (J.new (o := .list [.int x]) ha).asg (x := nBag) (v := .ref a)
  have hA1 : (setLoc (σ.set a (.list [.int x])) L nBag (.ref a)) a = some (.list [.int x]) := by first | exact (setLoc_ne haL).trans (St.set_same ..) | rw [setLoc_ne haL, St.set_same]
  generalize setLoc (σ.set a (.list [.int x])) L nBag (.ref a) = σ1 at J1 hA1
  (walk_at "w s"; walk_at "w e"; walk_at "w e"; walk_at "w v")
  refine f_loc J1.fr rfl ?_
  (walk_at "w v")
  refine to_f rfl (w_octets (by walk_at "w a") hA1 hx fun data x2 hl hx2 => (.mk ((J1.put hA1 ha).bset) ?_))
  have J2 := (J1.put (ys := [.int x2]) hA1 ha).asg (x := nData) (v := .bytes data)
  have hA2 : (setLoc (σ1.set a (.list [.int x2])) L nData (.bytes data)) a = some (.list [.int x2]) := by first | exact (setLoc_ne haL).trans (St.set_same ..) | rw [setLoc_ne haL, St.set_same]
  generalize setLoc (σ1.set a (.list [.int x2])) L nData (.bytes data) = σ2 at J2 hA2
  (walk_at "w s"; walk_at "w e"; walk_at "w e"; walk_at "w e"; walk_at "w v")
  refine f_loc J2.fr rfl ?_
  (walk_at "w v"; walk_at "w e"; walk_at "w v")
  refine to_f rfl (w_take (by walk_at "w a") hA2 hx2 (by decide) (by decide) ?_)
  have J3 := J2.put (ys := [.int (x2 / 3)]) hA2 ha
  generalize σ2.set a (.list [.int (x2 / 3)]) = σ3 at J3
  (walk_at "w e")
  refine e_lenL J3.fr rfl (by walk_at "w a") ?_
  (walk_at "w e")
  obtain ⟨p, hp, hpl⟩ : ∃ p : Nat, (x2 % 3) % ((data.length : Int) + 1) = (p : Int) ∧ p ≤ data.length := by
    have h1 := Int.emod_nonneg (x2 % 3) (show ((data.length : Int) + 1) ≠ 0 by lia)
    have h2 := Int.emod_lt_of_pos (x2 % 3) (show 0 < ((data.length : Int) + 1) by lia)
    obtain ⟨p, hp⟩ := Int.eq_ofNat_of_zero_le h1
    exact ⟨p, hp, by lia⟩
  refine ⟨by lia, .mk J3.bset ?_⟩
  rw [hp]
  have J4 := J3.asg (x := nAt) (v := .int p)
  generalize setLoc σ3 L nAt (.int p) = σ4 at J4
  generalize hm : upd (upd (upd m nBag (.ref a)) nData (.bytes data)) nAt (.int p) = m4 at J4
  have m1 : m4 nData = some (.bytes data) := by subst hm; rfl
  have m2 : m4 nAt = some (.int p) := by subst hm; rfl
  clear hm
  (walk_at "w n")
  refine s_wire J4 m1 m2 hl hpl fun w d τ J H hw0 hd0 hc hk => ?_
  (walk_at "w n")
  refine s_ask (r := (rdV data 30 p).map toD) (by walk_at "w a") J H hd0 hc (fun Q q => e_lam J rfl fun a cc τ' J' hk' h472 ha' hcc => q _ τ' J' (fun b o hb e => hk' b o (J.ntab e fun cs z => by rw [z] at hb; cases hb) e) fun σ' Q X hle H q => callV_lam h472 (hle _ _ ha') (hle _ _ hcc) (d_value (by walk_at "w a") H (hle _ _ (hk' _ _ (J.ntab hc fun cs e => by cases e) hc)) q)) (fun τ' Q J' hk' q => ?_) fun τ' J' => ?_
  · (walk_at "w e"; walk_at "w e"; walk_at "w v")
    refine f_loc J'.fr m1 ?_
    (walk_at "w v")
    refine f_loc J'.fr m2 ?_
    (walk_at "w v"; walk_at "w e"; walk_at "w v")
    exact to_f rfl (l_value (by walk_at "w a") (by walk_at "w a") hpl fun b τ2 hle _ hdat => q b τ2 hle hdat)
  clear J H hc hk hd0 hw0
  (walk_at "w s"; walk_at "w e"; walk_at "w e"; walk_at "w v"; walk_at "w e"; walk_at "w v")
  refine ⟨by decide, fun g hg => ?_⟩
  have J := J'.new (o := .rng (7 : Int).toNat) hg
  have HG : (τ'.set g (.rng (7 : Int).toNat)) g = some (.rng (7 : Int).toNat) := St.set_same ..
  generalize τ'.set g (.rng (7 : Int).toNat) = τ1 at J HG
  refine ⟨.int (7 : Int).toNat, (List.range (7 : Int).toNat).map fun (i : Nat) => V.int i, by unfold seqOf; dsimp only; rw [HG]; rfl, fun it hit => ?_⟩
  have it0 := J.none0 hit
  have itL : it ≠ L := by first | exact neN hit J.fr | exact fun z => by rw [z, J.fr] at hit; cases hit
  have itc : it ≠ c := fun z => by obtain ⟨o, ho⟩ := J.cell; rw [z, ho] at hit; cases hit
  have itt : it ≠ tabAddr := fun z => by obtain ⟨o, ho, _⟩ := J.tab; rw [z, ho] at hit; cases hit
  refine ⟨fun i τ => ∃ m', Lb σ τ L c m' ∧ m' nData = some (.bytes data) ∧ m' nAt = some (.int p) ∧ τ it = some (.iter (.int (7 : Int).toNat) i), ⟨_, J.new hit, m1, m2, St.set_same ..⟩, ?_⟩
  rintro i τ ⟨m', J, m1, m2, hit⟩ hi
  refine ⟨(fun l e => by cases e), hit, fun v hv => ⟨J.bset, ?_⟩, fun hi' => ?_⟩
  · obtain ⟨hi7, rfl⟩ : i < 7 ∧ v = .int i := by
      rw [List.getElem?_map] at hv
      obtain ⟨j, hj, rfl⟩ := Option.map_eq_some_iff.mp hv
      rcases Nat.lt_or_ge i 7 with h | h
      · rw [List.getElem?_range (show i < (7 : Int).toNat from h)] at hj; cases hj; exact ⟨h, rfl⟩
      · rw [List.getElem?_eq_none (by rw [List.length_range]; exact h)] at hj; cases hj
    have J1 := (J.setIt (sv' := .int (7 : Int).toNat) (i' := i + 1) it0 hit).withIt (St.set_same ..)
    refine s_way (i := i) (σ₀ := σ.set it (.iter (.int (7 : Int).toNat) (i + 1))) (by walk_at "w a") (J1.asg (x := nWay) (v := .int i)) hl hpl m1 m2 hi7 rfl fun m2' τ2 J2 k1 k2 => ?_
    exact ⟨_, St.le_refl _, m2', J2.dropIt it0, k1, k2, J2.keep it _ itL itc itt (St.set_same ..)⟩
  · have J2 := J.over it0 itL itc itt ⟨_, _, hit⟩
    (walk_at "w s"; walk_at "w e")
    exact q _ _ J2
end
end Mine
end
section
open PySem PySem.W PySem.Calls PyProof.Rows
namespace Mine
open Sem (wp)
theorem cells_none : ∀ (names : List (Str × NameKind)) (n : Nat) (acc : List (Str × Addr)), names.filter (fun x => x.2 == .cell) = [] → cellsFrom n names acc = acc
  | [], n, acc, h => rfl
  | (x, k) :: r, n, acc, h => by
    unfold cellsFrom
    by_cases hk : (k == NameKind.cell) = true
    · simp [hk] at h
    · rw [if_neg hk]; exact cells_none r n acc (by simpa [hk] using h)
theorem cells_one : ∀ (names : List (Str × NameKind)) (n : Nat) (acc : List (Str × Addr)) (x : Str) (k : NameKind), names.filter (fun x => x.2 == .cell) = [(x, k)] → cellsFrom n names acc = (x, n) :: acc
  | [], n, acc, x, k, h => by cases h
  | (y, j) :: r, n, acc, x, k, h => by
    unfold cellsFrom
    by_cases hj : (j == NameKind.cell) = true
    · rw [if_pos hj]
      simp only [List.filter_cons, hj, if_true, List.cons.injEq, Prod.mk.injEq] at h
      obtain ⟨⟨rfl, rfl⟩, h⟩ := h
      exact cells_none r _ _ h
    · rw [if_neg hj]; exact cells_one r n acc x k (by simpa [hj] using h)
theorem oneCell_ok {sc : List (Str × NameKind)} (h : oneCell sc = true) (n : Nat) : cellsFrom n sc [] = [(N.nWire.str, n)] := by
  obtain ⟨x, hx, h⟩ := anyS h
  rw [← beq_iff_eq.mp h]
  exact cells_one sc n [] _ _ (l1_ok hx)
section
variable {G : Glob} {d : LamD × LamD} {l : List Env} {σ : St} {s : Shared} {A : Around}
theorem call_law (P : PF G (DK d) gt (lamOkD d)) (hl : lawOk G.K d = true) {scr : Addr} {is : List Int} (R : Rel G l σ s) (H : AOk 101 l A) (hs : ListAt σ scr (is.map V.int)) (hlen : is.length ≤ 1000) (htab : σ tabAddr = some (.tab [])) :
    cN (Md G) A (.call (.ref lawA) ⟨[.ref scr], []⟩) (Ret (fun v s' => v = .bool true ∧ ∃ τ, Rel G l τ s' ∧ (∃ cs, τ tabAddr = some (.tab cs)) ∧ ∀ b o, b ≠ tabAddr → σ b = some o → τ b = some o) (fun _ _ => False)) s := by
  refine anyK hl fun fd hfd hl => ?_
  refine bt10 hl fun l1 l2 l3 l4 l5 l6 l7 l8 l9 l10 => ?_
  have l6 := of_decide_eq_true l6
  have l7 := of_decide_eq_true l7
  have l8 := of_decide_eq_true l8
  obtain ⟨o, k1, k2⟩ := funAt_ok hfd
  have B := baseFn_ok l1
  have O := P.ok
  have X0 := R.kin O
  have hcl : fd.closure = [] := List.isEmpty_iff.mp l5
  obtain ⟨c, oc, ws, tq, hc, hoc, hdc, hq⟩ := codeOk_ok l2 s.heap X0
  have hbind := bind1 (v := Value.ref scr) (plainA_ok l3) (dflt_none l4)
  refine cTree ok_call ?_
  show wN _ A.in1 (callAny (.ref lawA) ⟨[.ref scr], []⟩) _ _ s
  simp only [callAny]
  refine leaf (wpAny_load (X0 _ _ k1) ?_)
  simp only [k2, callFunction, B.c, B.g, B.b, hc]
  refine nBind (m := field (.ref c) 1) (.of (wpAny_field hoc hdc hq ?_))
  refine nBind (nPure ?_)
  rw [hbind, hcl]
  refine nBind (nPure ?_)
  have hcells := oneCell_ok l9
  refine leaf (wpAny_newFunctionEnv_cells B.k (fun x hx => ?_) fun env he s' x => ?_)
  · obtain rfl := List.mem_singleton.mp hx
    exact .inl l8
  have e1 : env.scope = fd.scope := by subst he; rfl
  have e2 : env.frame = some s.heap.objs.size := by subst he; rfl
  have e3 : env.locals = s.heap.objs.size := by subst he; rfl
  have e4 : env.globals = mainGlobals := by subst he; exact B.gl
  have e5 : env.builtins = builtinsNs := by subst he; exact B.bl
  have e6 : env.code = .ref lawCode := by subst he; exact hc.symm.trans l6
  have e7 : env.qual = lawLoc := by subst he; show fd.qualname ++ ".<locals>." = _; rw [l7]; rfl
  have e8 : env.cells = [(N.nWire.str, s.heap.objs.size + 1)] := by subst he; exact hcells _
  clear he
  have ek : env.kindOf N.nScript.str = some .local := by unfold Env.kindOf; rw [e1]; exact l8
  have T : At env s.heap.objs.size (some (s.heap.objs.size + 1)) fd.scope.names := ⟨by rw [e1, B.k], e3, e4, e5, fun c' h' => (by cases h'; rw [e8]; exact List.lookup_cons_self), by rw [e1], fun _ => ⟨e6, e7⟩⟩
  obtain ⟨hh, tk, rfl⟩ := x.toInCall.same
  have hns := x.toInCall.ns
  have keep := x.toInCall.keep
  have hcell := x.cell N.nWire.str (s.heap.objs.size + 1) (by rw [e8]; exact List.lookup_cons_self)
  rw [e3] at hns
  have hm : NsRel (bindL env.kindOf [(N.nScript.str, Value.ref scr)] fun _ => none) (mk [(.nScript, .ref scr)]) := by
    have h := nsrel_mk [(N.nScript, Value.ref scr)]
    have e : bindL env.kindOf [(N.nScript.str, Value.ref scr)] (fun _ => none) = fun x => ([(N.nScript, Value.ref scr)].map fun p => (p.1.str, p.2)).lookup x := by
      unfold bindL bindL
      rw [if_pos ek]
      funext y
      by_cases hy : y = N.nScript.str
      · subst hy; simp [List.lookup_cons]
      · have hb : (y == N.nScript.str) = false := beq_eq_false_iff_ne.mpr hy
        simp [List.lookup_cons, hy, hb]
    rw [e]; exact h
  have hcn : (bindC env.kindOf [(N.nScript.str, Value.ref scr)] fun _ => none) N.nWire.str = none := by
    unfold bindC bindC
    rw [if_pos ek]
  rw [hcn] at hcell
  obtain ⟨ob, hob, hobd⟩ := hcell
  have fresh1 : ∀ b, s.heap.objs.size ≤ b → σ b = none ∧ G.base.get? b = none := fun b hb => by
    constructor
    · cases q : σ b with
      | none => rfl
      | some o => exact absurd (R.lt q) (Nat.not_lt.mpr hb)
    · cases q : G.base.get? b with
      | none => rfl
      | some o => exact absurd (Heap.lt_size (R.base _ _ q)) (Nat.not_lt.mpr hb)
  have hLc : s.heap.objs.size ≠ s.heap.objs.size + 1 := Nat.ne_of_lt (Nat.lt_succ_self _)
  have RE : ∀ t, Rel G (env :: l) ((σ.set s.heap.objs.size (.ns true (mk [(.nScript, .ref scr)]))).set (s.heap.objs.size + 1) (.cell none)) { s with heap := hh, toks := t } := fun t => by
    have R1 : Rel G (env :: l) (σ.set s.heap.objs.size (.ns true (mk [(.nScript, .ref scr)]))) { s with heap := hh, toks := t } := R.enter (by rw [e1, B.k]) e2 (no_obj s) hns hm keep
    refine R1.track (fresh1 _ (Nat.le_succ _)).2 hob ⟨none, hobd, rfl⟩ fun env' he' q => ?_
    rcases List.mem_cons.mp he' with rfl | he'
    · rw [e2] at q; exact hLc (Option.some.inj q)
    · obtain ⟨f, o1, _, _, _, x1, _, x3, _, _⟩ := R.fr env' he'
      rw [x1] at q; cases q
      exact absurd (Heap.lt_size x3) (Nat.not_lt.mpr (Nat.le_succ _))
  have hlim := (RE 0).nolimit O
  refine leaf (wpAny_enterFrame hlim (by show A.depth < recursionLimit; have := H.depth; unfold recursionLimit; lia) (nPure ⟨rfl, cFunc ?_⟩))
  have hst : tabAddr ≠ s.heap.objs.size := fun q => by rw [q] at htab; rw [R.fresh] at htab; cases htab
  have hst1 : tabAddr ≠ s.heap.objs.size + 1 := fun q => by rw [q] at htab; rw [(fresh1 _ (Nat.le_succ _)).1] at htab; cases htab
  have hfr : (((σ.set s.heap.objs.size (.ns true (mk [(.nScript, .ref scr)]))).set (s.heap.objs.size + 1) (.cell none)) s.heap.objs.size) = some (.ns true (mk [(.nScript, .ref scr)])) := by rw [St.set_ne _ _ hLc, St.set_same]
  have hold : ∀ b o, σ b = some o → (((σ.set s.heap.objs.size (.ns true (mk [(.nScript, .ref scr)]))).set (s.heap.objs.size + 1) (.cell none)) b) = some o := fun b o e => by
    have hb := R.lt e
    rw [St.set_ne _ _ (Nat.ne_of_lt (Nat.lt_succ_of_lt hb)), St.set_ne _ _ (Nat.ne_of_lt hb)]; exact e
  have J : Lb ((σ.set s.heap.objs.size (.ns true (mk [(.nScript, .ref scr)]))).set (s.heap.objs.size + 1) (.cell none)) ((σ.set s.heap.objs.size (.ns true (mk [(.nScript, .ref scr)]))).set (s.heap.objs.size + 1) (.cell none)) s.heap.objs.size (s.heap.objs.size + 1) (mk [(.nScript, .ref scr)]) :=
    ⟨hfr, ⟨none, St.set_same ..⟩, ⟨[], hold _ _ htab, fun k cc e => by cases e⟩, fun b o _ _ _ e => e⟩
  have hs' : ListAt ((σ.set s.heap.objs.size (.ns true (mk [(.nScript, .ref scr)]))).set (s.heap.objs.size + 1) (.cell none)) scr (is.map V.int) := by
    rcases hs with hs | ⟨vs, n, hs, hv⟩
    · exact .inl (hold _ _ hs)
    · exact .inr ⟨vs, n, hold _ _ hs, hv⟩
  have W := law_true (n := 100) (X := fun _ _ => False) (Q := fun fl τ => fl = .ret (.bool true) ∧ (∃ cs, τ tabAddr = some (.tab cs)) ∧ ∀ b o, b ≠ tabAddr → σ b = some o → τ b = some o) (Nat.le_refl 100) J rfl hs' hlen
    fun m' τ J' => ⟨rfl, let ⟨cs, h, _⟩ := J'.tab; ⟨cs, h⟩, fun b o hb e => by
      have hb' := R.lt e
      exact J'.keep b o (Nat.ne_of_lt hb') (Nat.ne_of_lt (Nat.lt_succ_of_lt hb')) hb (hold _ _ e)⟩
  refine nMono (embss_ok (P.ck (host P 100)) _ _ _ l10 T e2 (RE _) H.deeper W) (fun fl s' z => ?_) fun e s' z => ?_
  · obtain ⟨τ, fl', hfl, R', rfl, h1, h2⟩ := z
    cases fl with
    | ret v =>
      have hfl : av v = .bool true := congrArg retV (Option.some.inj hfl : Fl.ret (av v) = Fl.ret (V.bool true))
      exact ⟨av_bool hfl, τ, R'.tail, h1, h2⟩
    | _ => cases hfl
  · obtain ⟨a, τ, rfl, R', Fl, q⟩ := z
    exact q.elim
end
end Mine
end
section
open PySem PySem.W PySem.Calls PyProof.Rows
namespace Mine
open Sem (wp)
/-! the call at the top, under the one stack that it has -/
noncomputable def topCtx : Ctx := ⟨.builtin "claim.caller" {}, none, none, [], none⟩
theorem top_ok : okC topCtx.code := fun _ _ _ _ => rfl
theorem top_below : Below topCtx := fun x hx => (nomatch hx)
theorem ends_N {prog : Program} {w : World} {t : Sem Fin} {s : Shared} {R : Result → Shared → Prop} (hz : s.asleep)
    (h : wN (model prog w) callerA t (fun fin s' => ∃ f, fin = .done f ∧ (R (.ok f) s' ∧ leftWithCleanup s'.gens = false)) (fun e s' => R (.error e) s' ∧ leftWithCleanup s'.gens = false) s) :
    ∃ n r s' s'', schedN (denote table) prog w n (.single s ⟨t, .builtin "claim.caller" {}, default, []⟩) = .halted (outcomeOf r) s' ∧ runN (denote table) prog w n s ⟨t, .builtin "claim.caller" {}, default, []⟩ = .halted (outcomeOf r) s' ∧ s'.forget = s''.forget ∧ R r s'' := by
  have hw := h topCtx default caller_in top_ok top_below
  have hw' : Sem.wp (model prog w) topCtx t (Sem.finPost (model prog w) topCtx fun r s' => R r s' ∧ leftWithCleanup s'.gens = false) (fun e _ s' => R (.error e) s' ∧ leftWithCleanup s'.gens = false) default s := by
    refine Sem.wp_mono _ _ t (fun fin p' s' hf => ?_) (fun _ _ _ x => x) default s hw
    obtain ⟨f, rfl, hf⟩ := hf
    exact hf
  obtain ⟨n, r, s₁, s₂, hs, hn, hfo, hR⟩ := wp_halts_full (M := model prog w) (R := R) hz hw'
  exact ⟨n, r, s₂, s₁, hs, hn, hfo, hR⟩
theorem okK {r : Result} {A B C D D' E : Value → Prop} (h : ∃ v, r = .ok (.ret v) ∧ A v ∧ B v ∧ C v ∧ D v ∧ E v) (hd : ∀ v, D v → D' v) : ∃ v, outcomeOf r = .done (.ret v) ∧ A v ∧ B v ∧ C v ∧ D' v ∧ E v := by
  obtain ⟨v, rfl, d⟩ := h
  exact ⟨v, rfl, d.1, d.2.1, d.2.2.1, hd v d.2.2.2.1, d.2.2.2.2⟩
theorem errK {β : Type} {r : Result} {A B C D E E' : Addr → Obj → β → Prop} (h : ∃ e ob cls, r = .error (.ref e) ∧ A e ob cls ∧ B e ob cls ∧ C e ob cls ∧ D e ob cls ∧ E e ob cls) (hd : ∀ e ob cls, E e ob cls → E' e ob cls) :
    ∃ e ob cls, outcomeOf r = .uncaught (.ref e) ∧ A e ob cls ∧ B e ob cls ∧ C e ob cls ∧ D e ob cls ∧ E' e ob cls := by
  obtain ⟨e, ob, cls, rfl, d⟩ := h
  exact ⟨e, ob, cls, rfl, d.1, d.2.1, d.2.2.1, d.2.2.2.1, hd e ob cls d.2.2.2.2⟩
theorem callFrom_N {c : ClaimW} {tree : List Value → Sem Fin} {w : World} {s : Shared} {free : Addr → Prop} {gens : Prop} {kept : Heap → Prop} (hz : s.asleep) (hgens : s.gens = #[])
    (spec : ∀ args, c.pre args = true → WData.layableAll args = true → ∀ ord : List DictEntry → List DictEntry, (∀ l, (ord l).Perm l) → ∃ vs s₁, layAllW c.records (classAt s.heap) w.params ord args s = some (vs, s₁) ∧
      wN (model c.prog w) callerA (tree vs) (fun fin s' => ∃ f, fin = .done f ∧ (c.Ends s args vs s₁ (.ok f) s' ∧ s'.os = s.os ∧ AllBare s'.gens ∧ kept s'.heap)) (fun e s' => c.Ends s args vs s₁ (.error e) s' ∧ s'.os = s.os ∧ AllBare s'.gens ∧ kept s'.heap) s₁) :
    c.CallFrom (fun vs => ⟨tree vs, .builtin "claim.caller" {}, default, []⟩) w free gens kept s := by
  intro args hpre hlay ord hord
  obtain ⟨vs, s₁, hlaid, hcode⟩ := spec args hpre hlay ord hord
  have rest := layAllW_rest _ _ _ hlaid
  have hz₁ : s₁.asleep := Shared.asleep_of_life rest.2.2.2 hz
  obtain ⟨k, r, s', s'', hsched, hrun, hfo, hcase, hos, hkp⟩ := ends_N (R := fun r s' => c.Ends s args vs s₁ r s' ∧ s'.os = s.os ∧ kept s'.heap) hz₁
    (nMono hcode (fun fin s' x => let ⟨f, e, h1, h2, h3, h4⟩ := x; ⟨f, e, ⟨h1, h2, h4⟩, leftWithCleanup_false_of_bare h3⟩) fun e s' x => ⟨⟨x.1, x.2.1, x.2.2.2⟩, leftWithCleanup_false_of_bare x.2.2.1⟩)
  obtain ⟨eh, _, _, eo, _⟩ := Shared.forget_eq hfo
  have hcase := hcase.congr eh
  have hkp : kept s'.heap := by rw [eh]; exact hkp
  rw [← eo] at hos
  have hlife : s'.heap.life = s.heap.life := (runN_life _ _ _ hrun).trans rest.2.2.2
  refine ⟨vs, s₁, hlaid, k, _, s', hsched, ?_, (fun _ i x hx => by rw [hgens] at hx; simp at hx), hkp, by rw [hlife], Shared.rest_eq hos⟩
  exact hcase.imp (fun h => okK h fun v d4 b o y _ => d4 b o y) (fun h => errK h fun e ob cls d5 b o y _ => d5 b o y)
/-- what is asked of the walk -/
noncomputable abbrev WalkN' (q : Program) (loose : List Str) (XP : (Str → Option Value) → Heap → Prop) (r : RowW) : Prop :=
  ∀ (w : World) (s₀ s₁ : Shared) (mg mb : Str → Option Value), Ground q loose r.records XP w s₀ mg mb s₁.heap → ∀ (args : List WData) (vs : List Value) (as : List Addr), Laid r.records w s₀ s₁ args vs as → r.claim.pre args = true →
    ∃ f, mg r.name = some f ∧ wN (model r.prog w) callerA (PySem.call f vs) (fun v s' => GoodWG r.claim (classAt s₀.heap) (ExcName.means s₀.heap) args s₁ (.ok (.ret v)) s')
        (fun e s' => GoodWG r.claim (classAt s₀.heap) (ExcName.means s₀.heap) args s₁ (.error e) s') s₁
theorem holds_N {r : OpenRow} {q : Program} {loose : List Str} {Xt : Shared → Bool} {XP : (Str → Option Value) → Heap → Prop} {d : DefRec} {kwd : List (Str × Expr)} {N : Nat} (left : LeftO r.prog q loose Xt (fun _ => ()) (fun _ => ()) N)
    (hX : ∀ s, Xt s = true → XP (s.heap.nsMap mainGlobals) s.heap) (hXk : ∀ mg h h', XP mg h → (∀ b o, h.get? b = some o → h'.get? b = some o) → XP mg h')
    (hdef : defOf q r.name = some (d, kwd)) (hp : r.prog.theDef r.name = some (d.params, d.body, d.scope)) (hk : kwWritten? d.params.kwonlyargs d.params.kw_defaults = some kwd) (hrec : r.records = []) (hwr : r.writes = false)
    (k1 : r.wellSaid = true) (hch : chainsOk q = true) (ho : opensWell r.prog = true) (hfr : frees r.toRowW = true) (hwi : r.within = []) (hb : r.prog.bare) (hw : r.toRowW.promised) (call : WalkN' q loose XP r.toRowW) : r.Holds := by
  refine ⟨k1, hw, ?_⟩
  obtain ⟨hsame, hu, ha, hap, hm⟩ := frees_parts hfr
  refine ⟨⟨hb, ho, by show r.makers.map _ = []; rw [hm]; rfl⟩, hw.witness, fun w => ⟨(left.behind hX hch w).1, fun s' hs' => ?_⟩⟩
  obtain ⟨s₀, hf, hg0, s, hT, hz, hgens, hg, G0, _⟩ := (left.behind hX hch w).2 s' hs'
  have RF : RecFacts r.records s.heap := recFacts_nil hrec
  have pin : ∀ n ∈ (if r.pinned then [r.name] else []), isTheDefsW r.prog s.heap n := fun n hn => by
    obtain rfl : n = r.name := by split at hn <;> simp_all
    exact pinned_of_view hg G0 hdef hp hk
  refine ⟨s₀, hf, hg0, s, hT, pin, RF.1, RF.2.1, ?_⟩
  have hgens : s.gens = #[] := Array.eq_empty_of_size_eq_zero (beq_iff_eq.mp hgens)
  have G : Ground q loose r.records XP w s _ _ s.heap := RF.ground G0
  refine callFrom_N (c := r.claim) (tree := fun vs => do match ← nsGet mainNs r.name with
      | some f => do ret (← PySem.call f vs)
      | none => unsupported "claim.caller:no-such-global") hz hgens fun args hpre hlay ord hord => ?_
  obtain ⟨⟨vs, s₁⟩, hlaid⟩ := Option.isSome_iff_exists.mp (layAllW_isSome (P := w.params) (ord := ord) G.has args r.args s (pre_splitW hpre).1)
  have keeps := layAllW_keeps _ _ _ hlaid
  have rest := layAllW_rest _ _ _ hlaid
  obtain ⟨as, hrd, hin, hold⟩ := reads_layAllW hord _ _ _ hlaid hlay s₁.heap (fun _ _ e => e)
  have L : Laid r.records w s s₁ args vs as := ⟨⟨ord, hord, hlaid⟩, hrd, hin, hold, keeps, rest.1.trans hgens, rest.2.2.1⟩
  have G₁ := G.keeps hXk keeps
  obtain ⟨f, hf, h⟩ := call w s s₁ _ _ G₁ args vs as L hpre
  have hi := ident_freeW hu ha hap
  have fin : ∀ r' s', GoodWG r.claim (classAt s.heap) (ExcName.means s.heap) args s₁ r' s' → r.claim.Ends s args vs s₁ r' s' ∧ s'.os = s.os ∧ AllBare s'.gens ∧ (∀ _ : True, namesKept r.prog r.keeps s.heap s'.heap) := fun r' s' g =>
    have z := g.laid (c := r.claim) hsame hwi hi L
    ⟨z.1, z.2.1, z.2.2, fun _ => namesKept_of hT hg r.keeps keeps g.2.1.old⟩
  refine ⟨vs, s₁, hlaid, nBind (.of (wpAny_nsGet G₁.T.g ?_))⟩
  rw [hf]
  refine nBind (nMono h (fun v s' g => nPure ⟨_, rfl, ?_⟩) fun e s' g => ?_)
  · have z := fin _ _ g
    exact ⟨z.1, z.2.1, z.2.2.1, fun q => absurd (hwr.symm.trans q) (by decide)⟩
  · have z := fin _ _ g
    exact ⟨z.1, z.2.1, z.2.2.1, fun q => absurd (hwr.symm.trans q) (by decide)⟩
end Mine
end
section
open PySem PySem.W PySem.Calls PyProof.Rows
namespace Mine
open Sem (wp)
/-! what the head has to look at -/
theorem frag_in {h : Heap} : ∀ {l : List Addr} {a : Addr} {o : Obj}, (a, o) ∈ l.filterMap (fun a => (h.get? a).map fun o => (a, o)) → h.get? a = some o := fun {l a o} hm => by
  obtain ⟨b, _, hb⟩ := List.mem_filterMap.mp hm
  obtain ⟨o', ho, e⟩ := Option.map_eq_some_iff.mp hb
  cases e; exact ho
theorem mem_of_lookupA {α : Type} : ∀ {l : List (Addr × α)} {n : Addr} {c : α}, l.lookup n = some c → (n, c) ∈ l
  | (k, v) :: r, n, c, h => by
    rw [List.lookup_cons] at h
    cases hb : n == k with
    | true => rw [hb] at h; cases h; rw [beq_iff_eq.mp hb]; exact List.mem_cons_self
    | false => rw [hb] at h; exact List.mem_cons_of_mem _ (mem_of_lookupA h)
theorem fragOf_in (h : Heap) : (fragOf h).In h := fun a o e => frag_in (l := addrs) (mem_of_lookupA e)
theorem tabEmpty_ok {h : Heap} (e : tabEmpty h = true) : h.get? tabAddr = some (tabObj #[]) := by
  unfold tabEmpty at e
  split at e
  · rename_i vs sl hh
    obtain ⟨h1, h2⟩ := Bool.and_eq_true_iff.mp e
    rw [hh]
    have e1 : vs = #[] := Array.ext' (List.isEmpty_iff.mp h1)
    have e2 : sl = #[] := Array.ext' (List.isEmpty_iff.mp h2)
    rw [e1, e2]
  · cases e
noncomputable def XPL (mg : Str → Option Value) (h : Heap) : Prop := ∃ K : Frag, K.In h ∧ kAll K = true ∧ h.get? tabAddr = some (tabObj #[])
theorem xpl_of : ∀ s, XtL s = true → XPL (s.heap.nsMap mainGlobals) s.heap := fun s h => by
  obtain ⟨h1, h2⟩ := Bool.and_eq_true_iff.mp h
  exact ⟨fragOf s.heap, fragOf_in _, h1, tabEmpty_ok h2⟩
theorem xpl_keeps : ∀ (mg : Str → Option Value) (h h' : Heap), XPL mg h → (∀ b o, h.get? b = some o → h'.get? b = some o) → XPL mg h' := fun mg h h' x k => by
  obtain ⟨K, h1, h2, h3⟩ := x
  exact ⟨K, fun a o e => k _ _ (h1 a o e), h2, k _ _ h3⟩
/-! the list as it is laid -/
theorem ints_laid {cl : Str → Option Addr} {P : Params} {ord : List DictEntry → List DictEntry} {R : WRecords} : ∀ (xs : List WData) (s : Shared), WShape.hasItems R xs .int = true → ∃ (is : List Int) (vs : List Value) (t : Nat), xs.length = is.length ∧ layAllW R cl P ord xs s = some (vs, { s with toks := t }) ∧ vs.map av = is.map V.int
  | [], s, h => ⟨[], [], s.toks, rfl, by unfold layAllW; rfl, rfl⟩
  | x :: xs, s, h => by
    unfold WShape.hasItems at h
    obtain ⟨h1, h2⟩ := Bool.and_eq_true_iff.mp h
    obtain ⟨i, rfl⟩ := hasW_int h1
    obtain ⟨is, vs, t, e1, e2, e3⟩ := ints_laid (cl := cl) (P := P) (ord := ord) xs { s with toks := s.toks + 1 } h2
    refine ⟨i :: is, .int i s.toks :: vs, t, by simp [e1], ?_, by simp [e3, av]⟩
    unfold layAllW layW
    dsimp only
    rw [e2]
theorem list_laid {cl : Str → Option Addr} {P : Params} {ord : List DictEntry → List DictEntry} {R : WRecords} {args : List WData} {s₀ s₁ : Shared} {vs : List Value} (hs : WShape.hasAll R args [.list .int] = true) (h : layAllW R cl P ord args s₀ = some (vs, s₁)) :
    ∃ (xs : List WData) (is : List Int) (ws : Array Value), args = [.list xs] ∧ xs.length = is.length ∧ vs = [.ref s₀.heap.objs.size] ∧ s₀.heap.get? s₀.heap.objs.size = none ∧ s₁.heap.get? s₀.heap.objs.size = some { cls := .type "list", data := .seq ws } ∧ ws.toList.map av = is.map V.int := by
  obtain ⟨d, r, rfl, h1, h2⟩ := hasAllW_cons hs
  obtain rfl := hasAllW_nil h2
  obtain ⟨xs, rfl, h3⟩ := hasW_list h1
  obtain ⟨is, ws, t, e1, e2, e3⟩ := ints_laid (cl := cl) (P := P) (ord := ord) xs s₀ h3
  unfold layAllW layW at h
  rw [e2] at h
  dsimp only at h
  unfold layAllW at h
  simp only [Option.some.injEq, Prod.mk.injEq] at h
  obtain ⟨rfl, rfl⟩ := h
  exact ⟨xs, is, ws.toArray, rfl, e1, rfl, no_obj s₀, Heap.get?_push_size _ rfl, by simpa using e3⟩
theorem ns_hide {h : Heap} {l : List Addr} {a : Addr} {m : Str → Option Value} (hn : h.Ns a m) (ha : a ∉ l) : (hideAll h l).Ns a m :=
  let ⟨o, es, ep, e, r⟩ := hn; ⟨o, es, ep, hideAll_get _ e ha, r⟩
theorem ns_ne {h : Heap} {a b : Addr} {m : Str → Option Value} {o : Obj} (hn : h.Ns a m) (hb : h.get? b = some o) (hd : ∀ es ep, o.data ≠ .dict es ep) : a ≠ b := fun e => by
  obtain ⟨o', es, ep, e1, e2, _⟩ := hn
  subst e
  rw [hb] at e1; cases e1
  exact hd _ _ e2
theorem walk_law {r : RowW} {q : Program} {loose : List Str} (hname : r.name = "law") (hrec : r.records = []) (hargs : r.args = [.list .int]) (hraise : ∀ args cls, r.claim.raises args cls = false) (hpost : ∀ args, r.claim.post args (.bool true) args = true)
    (hlen : ∀ xs, r.claim.pre [.list xs] = true → xs.length ≤ 1000) : WalkN' q loose XPL r := by
  intro w s₀ s₁ mg mb GG args vs as L hpre
  obtain ⟨K, hK, hall, htab⟩ := GG.X
  unfold kAll at hall
  simp only [Bool.and_eq_true, decide_eq_true_eq] at hall
  obtain ⟨⟨⟨k1, k2⟩, k3⟩, k4⟩ := hall
  have T := GG.T
  have hmg := mg_of hK T.g k4
  obtain ⟨ord, _, hlaid⟩ := L.laid
  obtain ⟨xs, is, ws, rfl, hl, rfl, hf0, hf1, hws⟩ := list_laid (by have := (pre_splitW hpre).1; rw [hargs] at this; exact this) hlaid
  generalize hscr : s₀.heap.objs.size = scr at *
  have tabScr : tabAddr ≠ scr := fun e => by rw [← e, htab] at hf1; cases hf1
  have hideK : K.In (hideAll s₁.heap [tabAddr, scr]) := fun a o e => by
    refine hideAll_get _ (hK a o e) fun hm => ?_
    rcases List.mem_cons.mp hm with rfl | hm
    · rw [e] at k2; cases k2
    · obtain rfl := List.mem_singleton.mp hm
      have h1 := hK _ _ e
      rw [hf1] at h1; cases h1
      have := List.all_eq_true.mp k3 _ (mem_of_lookupA e)
      have z : notList { cls := .type "list", data := .seq ws } = false := by simp [notList]
      rw [z] at this; cases this
  have out : ∀ {a : Addr} {m : Str → Option Value}, s₁.heap.Ns a m → a ∉ [tabAddr, scr] := fun hn hm => by
    rcases List.mem_cons.mp hm with e | hm
    · exact ns_ne hn htab (fun _ _ z => by cases z) e
    · exact ns_ne hn hf1 (fun _ _ z => by cases z) (List.mem_singleton.mp hm)
  obtain ⟨d, hd, k1⟩ := anyS k1
  have j0 := bt k1
  have j1 := bt j0.1
  have j2 := bt j1.1
  have j3 := bt j2.1
  have j4 := bt j3.1
  have j5 := bt j4.1
  have p1 := j5.1
  have p2 := j5.2
  have p3 := j4.2
  have p4 := j3.2
  have p5 := j2.2
  have p6 := j1.2
  have p7 := j0.2
  clear j0 j1 j2 j3 j4 j5
  let G : Glob := { prog := r.prog, w := w, K := K, base := hideAll s₁.heap [tabAddr, scr], mg := mg, mb := mb, os := s₁.os, lamP := lamPD (DK d), codeP := codePD, tabP := tabPD (DK d) }
  have O : G.Ok := ⟨hideK, ns_hide T.g (out T.g), ns_hide T.b (out T.b), let ⟨mc, h1, h2⟩ := T.nolimit; ⟨mc, ns_hide h1 (out h1), h2⟩, T.builtins⟩
  have hb : G.base.BuiltinsAt G.mg tabAddr := by
    obtain ⟨bm, ob, b1, b2, b3, b4, b5, b6⟩ := T.bmain
    have n1 : bm ≠ tabAddr := fun e => by rw [e, htab] at b3; cases b3; cases b4
    have n2 : bm ≠ scr := fun e => by rw [e, hf1] at b3; cases b3; cases b6
    refine ⟨bm, ob, b1, b2, fun e => ?_, n1, hideAll_get _ b3 fun hm => ?_, b4, b5, b6⟩
    · exact ns_ne (a := mainGlobals) T.g b3 (fun _ _ z => by rw [b6] at z; cases z) e.symm
    · rcases List.mem_cons.mp hm with e | hm
      · exact n1 e
      · exact n2 (List.mem_singleton.mp hm)
  have PFg : PF G (DK d) gt (lamOkD d) := PF_of O p2 p3 p4 p5 p6 p7 rfl rfl rfl hb
  let σ : St := fun b => if b = tabAddr then some (.tab []) else if b = scr then some (.raw { cls := .type "list", data := .seq ws }) else none
  have σt : σ tabAddr = some (.tab []) := if_pos rfl
  have σs : σ scr = some (.raw { cls := .type "list", data := .seq ws }) := by show (if scr = tabAddr then _ else _) = _; rw [if_neg (Ne.symm tabScr), if_pos rfl]
  have R : Rel G [] σ s₁ := by
    refine ⟨fun b o e => of_hideAll _ e, fun a o e => ?_, fun env he => (nomatch he), L.gens, rfl⟩
    by_cases h1 : a = tabAddr
    · subst h1
      rw [σt] at e; cases e
      exact ⟨hideAll_none _ List.mem_cons_self, _, htab, fun p hp => (nomatch hp), rfl⟩
    · by_cases h2 : a = scr
      · subst h2
        rw [σs] at e; cases e
        exact ⟨hideAll_none _ (List.mem_cons_of_mem _ List.mem_cons_self), _, hf1, rfl⟩
      · have e' : (if a = tabAddr then some (AO.tab []) else if a = scr then some (.raw { cls := .type "list", data := .seq ws }) else none) = some o := e
        rw [if_neg h1, if_neg h2] at e'; cases e'
  have H : AOk 101 [] callerA := ⟨rfl, rfl, rfl, by decide +kernel, by decide +kernel⟩
  have C := call_law (A := callerA) PFg p1 (scr := scr) (is := is) R H (.inr ⟨ws, _, σs, hws⟩) (by rw [← hl]; exact hlen xs hpre) σt
  refine ⟨.ref lawA, by rw [hname]; exact hmg, nCall (cMono C fun res s' z => ?_)⟩
  cases res with
  | error e => exact z.elim
  | ok fl =>
    cases fl with
    | ret v =>
      obtain ⟨rfl, τ, Rτ, ⟨cs, hcs⟩, keep⟩ := z
      have hscr' := keep scr _ (Ne.symm tabScr) σs
      obtain ⟨_, ob, g1, g2⟩ := Rτ.objs _ _ hscr'
      obtain rfl : ob = _ := g2
      obtain ⟨_, ot, t1, t2⟩ := Rτ.objs _ _ hcs
      have t2 : ot = tabObj (tabOf (DK d) cs).toArray := t2.2
      subst t2
      have was : ∀ b o, s₁.heap.get? b = some o → asItWas s₁.heap s'.heap b o ∧ ∃ o', s'.heap.get? b = some o' := fun b o e => by
        by_cases h1 : b = tabAddr
        · subst h1
          rw [htab] at e; cases e
          obtain ⟨oc, vs', _, _, _, _, _, _, _, c1, c2, c3, c4, _⟩ := codeHd_of_K hK (bt p6).2
          exact ⟨.inr (.inl ⟨⟨_, oc, vs', c1, c2, c3, c4⟩, rfl, #[], (tabOf (DK d) cs).toArray, rfl, by rw [t1]; simp⟩), _, t1⟩
        · by_cases h2 : b = scr
          · subst h2
            rw [hf1] at e; cases e
            exact ⟨.inl g1, _, g1⟩
          · have hb' := Rτ.base b o (hideAll_get _ e fun hm => by
              rcases List.mem_cons.mp hm with e | hm
              · exact h1 e
              · exact h2 (List.mem_singleton.mp hm))
            exact ⟨.inl hb', _, hb'⟩
      exact ⟨.inl ⟨_, .bool true, [], rfl, fun cls => hraise _ cls, .bool true, hpost _, fun _ => ⟨List.nodup_nil, fun a ha => (nomatch ha)⟩⟩, ⟨fun b o e => (was b o e).1, fun b o e => (was b o e).2⟩, Rτ.os, .of_eq Rτ.gens⟩
    | _ => exact z.elim
end Mine
end
section
open PySem PySem.W PySem.Calls PyProof.Rows
namespace Mine
abbrev rowL : OpenRow := PySem.Challenge.rw_no0376_01.row
theorem walkL : WalkN' qv looseL XPL rowL.toRowW := walk_law rfl rfl rfl (fun args cls => rfl) (fun args => postW_of (r := rowL.toRowW) (X := true) (by rfl) (by show (match some (WData.bool true), some (WData.bool true) with | some x, some y => some (WData.bool (same x y)) | _, _ => none) = _; simp [same]) rfl) (fun xs h => by
  have h := (pre_splitW h).2
  have e : rowL.toRowW.pre.holds rowL.toRowW.records { args := [.list xs] } = !decide (63 < (xs.length : Int)) := by
    show (match (match (match (less? (.int 63) (.int (xs.length : Int))).map WData.bool with | some (.bool b) => some (WData.bool (!b)) | _ => none) with
      | some (.bool false) => some (WData.bool false) | some (.bool true) => (match some (WData.bool true) with | some (.bool x) => some (.bool x) | _ => none) | _ => none) with | some (.bool true) => true | _ => false) = _
    have z : PySem.W.less? (.int 63) (.int (xs.length : Int)) = some (decide ((63 : Int) < xs.length)) := by unfold PySem.W.less?; rfl
    rw [z]
    by_cases q : (63 : Int) < xs.length <;> simp [q]
  rw [e] at h
  simp at h
  lia)
theorem law_holds (left : LeftO pw qv looseL XtL (fun _ => ()) (fun _ => ()) 3000) (said : rowL.wellSaid = true) : rowL.Holds :=
  holds_N (r := rowL) left xpl_of xpl_keeps (by rfl) (by rfl) (by rfl) rfl rfl said (by decide +kernel) (by decide +kernel) (by decide +kernel) rfl ⟨rfl, rfl, rfl, rfl, rfl, by decide +kernel⟩ (by w_witness2) walkL
end Mine
end
section
open PySem PySem.W PySem.Calls PyProof.Rows
namespace Mine
theorem topRun_of {tb : String → Option Builtin} {p : Program} {w : World} {n₀ : Nat} {ann : Option Value} : ∀ {n : Nat} {s s' : SharedT} {t : Thread}, topRunT stepOk (stepT (denote tb) p w) n₀ ann n s t = some s' → topRun tb p w n₀ ann n s.abs t = some s'.abs
  | 0, _, _, _, h => by cases h
  | n + 1, s, s', t, h => by
    unfold topRunT at h
    unfold topRun
    cases he : through t with
    | true => rw [he] at h; cases h; rfl
    | false =>
      rw [he] at h
      cases hk : stepOk n₀ ann t with
      | false => rw [hk] at h; cases h
      | true =>
        rw [hk] at h
        cases hs : stepT (denote tb) p w s t with
        | none => rw [hs] at h; cases h
        | some r => obtain ⟨s₂, t₂⟩ := r; rw [hs] at h; rw [stepT_spec hs]; exact topRun_of h
theorem evens_at : ∀ (l : List Obj) (i : Nat), (evens l)[i]? = l[2 * i]?
  | [], i => by simp [evens]
  | [a], i => by cases i <;> simp [evens]
  | a :: b :: r, i => by
    cases i with
    | zero => simp [evens]
    | succ i => rw [evens, List.getElem?_cons_succ, evens_at r i, show 2 * (i + 1) = 2 * i + 1 + 1 by lia, List.getElem?_cons_succ, List.getElem?_cons_succ]
theorem evens_len : ∀ (l : List Obj), (evens l).length ≤ l.length
  | [] => Nat.le_refl _
  | [a] => Nat.le_refl _
  | a :: b :: r => by have := evens_len r; simp [evens]; lia
theorem get_nil (i : Nat) : BT.nil.get i = none := rfl
theorem treeOf_cons (n : Nat) (a : Obj) (r : List Obj) : treeOf (n + 1) (a :: r) = .node a (treeOf n (evens r)) (treeOf n (evens r.tail)) := rfl
theorem treeOf_nil (n : Nat) : treeOf n [] = .nil := by cases n <;> rfl
theorem treeOf_at (n : Nat) : ∀ (l : List Obj), l.length ≤ n → ∀ i, (treeOf n l).get i = l[i]? := by
  induction n with
  | zero =>
    intro l h i
    obtain rfl := List.length_eq_zero_iff.mp (Nat.le_zero.mp h)
    rw [treeOf_nil, get_nil]; simp
  | succ n ih =>
    intro l h i
    cases l with
    | nil => rw [treeOf_nil, get_nil]; simp
    | cons a r =>
      rw [treeOf_cons, BT.get_node]
      have hr : r.length ≤ n := Nat.le_of_succ_le_succ h
      have h1 : (evens r).length ≤ n := Nat.le_trans (evens_len r) hr
      have h2 : (evens r.tail).length ≤ n := Nat.le_trans (evens_len r.tail) (Nat.le_trans (by rw [List.length_tail]; exact Nat.sub_le _ _) hr)
      by_cases h0 : i = 0
      · subst h0; simp
      · rw [if_neg h0]
        by_cases hp : i % 2 = 1
        · rw [if_pos hp, ih _ h1, evens_at]
          obtain ⟨j, rfl⟩ : ∃ j, i = 2 * j + 1 := ⟨i / 2, by lia⟩
          rw [List.getElem?_cons_succ, show (2 * j + 1) / 2 = j by lia]
        · rw [if_neg hp, ih _ h2, evens_at]
          obtain ⟨j, rfl⟩ : ∃ j, i = 2 * j + 2 := ⟨i / 2 - 1, by lia⟩
          rw [List.getElem?_cons_succ, show (2 * j + 2) / 2 - 1 = j by lia]
          cases r with
          | nil => simp
          | cons b r => simp
theorem abs_treeOf (h : Heap) : absHeap (treeOf h.objs.size h.objs.toList) h.objs.size h.life = h := by
  have : (absHeap (treeOf h.objs.size h.objs.toList) h.objs.size h.life).objs = h.objs := by
    apply Array.ext_getElem?
    intro i
    rw [absHeap_at, treeOf_at _ _ (by simp)]
    by_cases hi : i < h.objs.size
    · rw [if_pos hi, Array.getElem?_toList, Array.getElem?_eq_getElem hi]; rfl
    · rw [if_neg hi, Array.getElem?_eq_none (Nat.le_of_not_lt hi)]
  exact congrArg (Heap.mk · h.life) this
end Mine
end
section
open PySem PySem.W PySem.Calls PyProof.Rows
namespace Mine
theorem S0_abs (P : Params) (os : OsState) : (S0 P os).abs = ⟨boot_heap P, Array.mk [], boot_drawn, boot_toks, os⟩ := by
  unfold S0 SharedT.abs bootT
  rw [abs_treeOf]
theorem boot_ns : ∀ w : World, ((boot_heap w.params).isNs mainGlobals && (Array.mk [] : Array GenState).size == 0) = true := by
  intro w
  kernel_rfl
theorem boot_e : opening pw = plainProg pw.main.scope.names := rfl
/-- the top from its one check, whatever the program is -/
theorem left_gen {p q : Program} {loose : List Str} {Xt : Shared → Bool} {N : Nat} {H : Params → Heap} {g : Array GenState} {d : Drawn} {k : Nat} {S : Params → OsState → SharedT} {al : Heap → Shared → _} {sok : Nat → Option Value → Thread → Bool} {stp : Program → World → SharedT → Thread → Option (SharedT × Thread)}
    (hsok : sok = stepOk) (hstp : ∀ p w, stp p w = stepT (denote treeTable) p w)
    (open_ : ∀ w : World, (fencedOpening treeTable p w N).map (fun s => (s.heap, s.gens, s.drawn, s.toks)) = some (H w.params, g, d, k))
    (ns : ∀ w : World, ((H w.params).isNs mainGlobals && g.size == 0) = true) (abs : ∀ P os, (S P os).abs = ⟨H P, g, d, k, os⟩)
    (hal : ∀ h s, al h s = (staticsOk (importedModules p.main.body) h s.heap && namesBound p s.heap && gensDone s && laidKept h s.heap, openSeen q loose (importedModules p.main.body) Xt true s))
    (run : ∀ w : World, (fun os => (topRunT sok (stp p w) (H w.params).objs.size ((H w.params).nsMap mainGlobals "__annotations__") N (S w.params os) (topStub p)).map (fun s => al (H w.params) s.abs)) = fun _ => some (true, openGood q loose)) :
    LeftO p q loose Xt (fun _ => ()) (fun _ => ()) N := fun w => by
  obtain ⟨⟨h, gs, d', k', os⟩, e, e'⟩ := Option.map_eq_some_iff.mp (open_ w)
  obtain ⟨rfl, rfl, rfl, rfl⟩ : h = H w.params ∧ gs = g ∧ d' = d ∧ k' = k := by simpa using e'
  obtain ⟨s₁, h1, h2⟩ := Option.map_eq_some_iff.mp (congrFun (run w) os)
  rw [hsok, hstp] at h1
  have r := topRun_of h1
  rw [abs] at r
  rw [hal] at h2
  obtain ⟨l1, l2⟩ : _ ∧ _ := by simpa only [Prod.mk.injEq] using h2
  have t : topFrom treeTable p w N ⟨H w.params, gs, d', k', os⟩ = some s₁.abs := by
    unfold topFrom
    dsimp only
    rw [ns w, r]
    show (match staticsOk (importedModules p.main.body) (H w.params) s₁.abs.heap && namesBound p s₁.abs.heap && gensDone s₁.abs && laidKept (H w.params) s₁.abs.heap with | true => _ | false => _) = _
    rw [l1]
  unfold openEnds
  rw [e]
  show (topFrom treeTable p w N _).map _ = _
  rw [t]
  exact congrArg some (Prod.ext l2 rfl)
theorem stepQ_eq (p : Program) (w : World) : stepQ p w = stepT (denote treeTable) p w := by
  unfold stepQ
  rw [← Fast.te10156331382660048174, ← Fast.te11892475500146522536, ← Fast.te14364793385576792824]
theorem left_of (run1 : ∀ w : World, (fun os => (topRunT Fast.tw6613529449190102663 (stepQ pw w) (boot_heap w.params).objs.size ((boot_heap w.params).nsMap mainGlobals "__annotations__") 3000 (S0 w.params os) (topStub pw)).map (fun s => allLooks (boot_heap w.params) s.abs)) = fun _ => some (true, openGood qv looseL)) :
    LeftO pw qv looseL XtL (fun _ => ()) (fun _ => ()) 3000 :=
  left_gen Fast.te6613529449190102663.symm stepQ_eq (boot_open (p := pw) (N := 3000) boot_e rfl (fun s => rfl)) boot_ns S0_abs (fun _ _ => rfl) run1
end Mine
end
set_option maxHeartbeats 8000000 in
theorem PySem.Challenge.cw_no0376_01_holds : PySem.Challenge.rw_no0376_01.Holds := by
  w_on
  exact PySem.W.holds_law Mine.said1 fun said => Mine.law_holds (Mine.left_of Mine.run1) said
