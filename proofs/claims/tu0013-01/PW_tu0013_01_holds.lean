import PyProof.Rows.All
import Wide.All
import OpenK.AllK
import Wide.FinOn
import Lean
import PySem.Challenge.RW_tu0013_01
set_option Elab.async false
set_option maxRecDepth 100000
set_option maxHeartbeats 8000000
namespace Mine
section
open PySem PySem.W PyProof.Rows PySem.Calls PySem.Spec
theorem bb_special : typeLookup (.type "bytes") "__bytes__" = pure (some (.builtin "bytes.__bytes__")) := by rw [typeLookup_type, builtinLookup_eq_fast]; kernel_rfl
theorem bb_new {prog : Program} {w : World} {A : Around} {E : Value → Shared → Prop} {s : Shared} {b : Array UInt8} {t : Tok} {Q : Value → Shared → Prop} (hQ : Q (.bytes b t) s) :
    codeAny (model prog w) A (.call (.builtin "bytes.__new__") ⟨[.type "bytes", .bytes b t], []⟩) (wants Q E) s := by
  refine codeAny_of_tree ?_
  show wpAny _ A.in1 (do checkBuiltinCall "bytes.__new__" ⟨[.type "bytes", .bytes b t], []⟩; again (.builtin "bytes.__new__" ⟨[.type "bytes", .bytes b t], []⟩)) _ _ s
  refine wpAny_bind (wpAny_of_eq (F.bm_newCall _) (wpAny_pure ⟨plainId_quiet F.bm_plain _, codeAny_builtin F.bm_entry ?_⟩))
  rw [Around.under_plainId F.bm_plain _]
  unfold Builtin.«bytes.__new__»
  refine wpAny_bind (wpAny_of_eq (a := true) rfl ?_)
  refine bm_if_false rfl ?_
  refine wpAny_bind (wpAny_of_eq F.bm_sub ?_)
  refine bm_if_false rfl ?_
  refine wpAny_bind (wpAny_of_eq (F.bm_bind _) ?_)
  refine wpAny_bind (wpAny_of_eq (a := ()) rfl ?_)
  refine wpAny_bind (wpAny_of_eq (a := ()) rfl ?_)
  refine bm_if_false rfl ?_
  refine wpAny_bind (wpAny_specialOf (PySem.W.typeIs_bytes _ _ _) bb_special ?_)
  refine wpAny_bind (wpAny_rule ?_)
  refine wpAny_bind (wpAny_of_eq (a := .type "bytes") rfl ?_)
  refine bm_if_true (by decide) ?_
  show wpAny _ _ (if (Value.type "bytes" == Value.type "bytes") = true then _ else _) _ _ _
  refine bm_if_true (by decide) ?_
  first
    | exact wpAny_pure hQ
    | exact wpAny_bind (wpAny_pure (wpAny_pure hQ))
theorem call_bb {prog : Program} {w : World} {A : Around} {E : Value → Shared → Prop} {s : Shared} {b : Array UInt8} {t : Tok} {Q : Value → Shared → Prop} (hQ : Q (.bytes b t) s) : wpAny (model prog w) A (call (.type "bytes") [.bytes b t]) Q E s := by
  refine callType_codes (Q₁ := fun obj s₁ => s₁.TypeIs obj "bytes" ∧ Q obj s₁) F.bm_called (F.bm_typeCall _) F.entry_object_init
    (bb_new ⟨PySem.W.typeIs_bytes _ _ _, hQ⟩) fun obj s₁ h₁ => ?_
  exact ⟨h₁.1, F.args_object_init_2 obj _, object_init_meets F.bm_called.init.lookup F.bm_called.made (by decide) prog w A.in1 _ s₁ ⟨h₁.1, rfl, h₁.2⟩⟩
theorem isi_bytes_false {b : Array UInt8} {t : Tok} {T : String} (hne : (Value.type "bytes" == Value.type T) = false) (hty : typeOf (.type T) = pure (.type "type")) (hsub : isSubtype (.type "bytes") (.type T) = pure false) :
    Answers (fun s => s.TypeIs (.bytes b t) "bytes") (.bytes b t) (.type T) false :=
  fun _ _ _ _ _ _ s hs => by
    obtain ⟨h, g, d, t, os⟩ := s
    exact isinstance_nested_false_bytes hne hty hsub (hs.2 (t + 1))
theorem call_isi_bytes {prog : Program} {w : World} {A : Around} {E : Value → Shared → Prop} {s : Shared} {b : Array UInt8} {t : Tok} {a : Addr} {Q : Value → Shared → Prop}
    (ht : s.heap.get? a = some { cls := .type "tuple", data := .seq [.type "bytes", .type "bytearray", .type "list", .type "tuple"].toArray }) (h : ∀ tk, Q (.bool true) { s with toks := tk }) : wpAny (model prog w) A (call (.builtin "isinstance") [.bytes b t, .ref a]) Q E s :=
  IsiPair.tupleOf (vs := [true, false, false, false]) (.cons (Answers.of_true PySem.F.isi_meta_bytes (by rw [isSubtype_type]; kernel_rfl)) (.cons (isi_bytes_false (by decide +kernel) PySem.F.isi_meta_bytearray (by rw [isSubtype_type]; kernel_rfl)) (.cons (isi_bytes_false (by decide +kernel) PySem.F.isi_meta_list (by rw [isSubtype_type]; kernel_rfl)) (.cons (isi_bytes_false (by decide +kernel) PySem.F.isi_meta_tuple (by rw [isSubtype_type]; kernel_rfl)) .nil))))
    (PySem.W.typeIs_bytes _ _ _) ht h
theorem call_sorted_empty {prog : Program} {w : World} {A : Around} {E : Value → Shared → Prop} {s : Shared} {d : Addr} {n : Nat} {Q : Value → Shared → Prop} (hh : A.handled = none) (hd : s.heap.get? d = some (PySem.W.dictOf [] n)) (lo : (d == sysModules) = false)
    (h : ∀ D h' tk c, (∀ b o, s.heap.get? b = some o → h'.get? b = some o) → s.heap.get? D = none → h'.get? D = some ({ cls := .type "list", data := .seq [].toArray c } : Obj) → Q (.ref D) { s with heap := h', toks := tk }) :
    wpAny (model prog w) A (call (.builtin "sorted") [.ref d]) Q E s := by
  have hat : s.heap.DictAt (PySem.strKind prog w) d [] n := ⟨_, _, hd, ⟨rfl, rfl, rfl⟩, rfl, (fun e he => by simp at he), .nil, by simp⟩
  refine call_function_entry kind_sorted plain_sorted entry_sorted (args_sorted1 _) ?_
  unfold Builtin.«sorted»
  refine wpAny_bind (m := checkCount "sorted" 1 1 _) (wpAny_pure ?_)
  refine wpAny_bind (kdu_collect (A := A.in1) (kdl_dict lo) hh hat (Nat.zero_le _) fun h' tk acc hk hacc => ?_)
  have hl : acc = #[] := Array.eq_empty_of_size_eq_zero hacc.1
  subst hl
  refine wpAny_bind (wpAny_newList ?_ (Nat.zero_le _))
  have ho : (h'.push { cls := .type "list", data := .seq ([] : List Value).toArray }).get? h'.objs.size = some (PyProof.Rows.seqObj "list" ([] : List Value).toArray 0) := Heap.get?_push_size _ rfl
  refine wpAny_bind (wpAny_holding (wpAny_call_entry PyProof.Rows.slot_list_sort ⟨_, ho, rfl⟩ PyProof.Rows.entry_list_sort (list_sort_tree (n := 0) (vs := []) (ns := []) ho .nil (by decide) fun out ns' hI hp hP => ⟨.none, rfl, ?_⟩) (PyProof.Rows.args_list_sort _)))
  have e1 : ns' = [] := List.perm_nil.mp hp
  subst e1
  have e2 : out = #[] := by
    have := hI.length
    exact Array.eq_empty_of_size_eq_zero (by simpa using this)
  subst e2
  refine wpAny_pure ⟨_, rfl, ?_⟩
  have hfresh : s.heap.get? h'.objs.size = none := by
    cases q : s.heap.get? h'.objs.size with
    | none => rfl
    | some o => exact absurd (Heap.lt_size (hk _ _ q)) (Nat.lt_irrefl _)
  have hlt : h'.objs.size < (h'.push { cls := .type "list", data := .seq ([] : List Value).toArray }).objs.size := by rw [Heap.size_push]; exact Nat.lt_succ_self _
  obtain ⟨c, h2⟩ : ∃ c, ((h'.push { cls := .type "list", data := .seq ([] : List Value).toArray }).update h'.objs.size (Obj.mapSeq fun _ => #[])).get? h'.objs.size = some (seqObj "list" #[] c) := ⟨_, get?_update_seq ho (fun _ => #[])⟩
  have hc : (((((h'.push { cls := .type "list", data := .seq ([] : List Value).toArray }).update h'.objs.size (Obj.mapSeq fun _ => #[])).push (seqObj "tuple" ([] : List Value).toArray 0)).push (seqObj "list" #[] 0)).get? h'.objs.size) = some (seqObj "list" #[] c) := by
    rw [Heap.get?_push_ne _ _ _ (by rw [size_push', Heap.size_update]; exact Nat.ne_of_lt (Nat.lt_succ_of_lt hlt)), Heap.get?_push_ne _ _ _ (by rw [Heap.size_update]; exact Nat.ne_of_lt hlt)]
    exact h2
  refine h h'.objs.size _ _ _ (fun b o e => ?_) hfresh (get?_update_seq hc (fun _ => #[]))
  have hb : b ≠ h'.objs.size := Nat.ne_of_lt (Heap.lt_size (hk _ _ e))
  unfold sortedHeap
  rw [Heap.get?_update_other _ _ (Ne.symm hb)]
  refine Heap.get?_push_of_some _ (Heap.get?_push_of_some _ ?_)
  rw [Heap.get?_update_other _ _ (Ne.symm hb)]
  exact Heap.get?_push_of_some _ (hk _ _ e)
end
section
open PySem PySem.W PyProof.Rows PySem.Calls PySem.Spec
/-- what a dict of names says -/
noncomputable def look (x : Str) (es : List DictEntry) : Option Value := (es.find? (fun e => e.key.isStr x)).map (·.val)
noncomputable def Strs (es : List DictEntry) : Prop := ∀ e ∈ es, ∃ nm t, e.key = .str nm t

inductive Bi where
  | int | bool | list | tuple | bytes | bytearray | range | len | abs | max | isinstance | sorted
noncomputable def Bi.val : Bi → Value
  | .int => .type "int" | .bool => .type "bool" | .list => .type "list" | .tuple => .type "tuple" | .bytes => .type "bytes" | .bytearray => .type "bytearray" | .range => .type "range"
  | .len => .builtin "len" | .abs => .builtin "abs" | .max => .builtin "max" | .isinstance => .builtin "isinstance" | .sorted => .builtin "sorted"

/-- abstract values: what will never change is a tree; a changeable thing is its address -/
inductive AV where
  | none
  | bool (b : Bool)
  | int (i : Int)
  | str (s : Str)
  | bytes (b : Array UInt8)
  | bi (b : Bi)
  | glob (a : Addr)
  | ref (a : Addr)
  | obj (C : Addr) (fs : List (Str × AV))
  | tup (xs : List AV)
  | lst (xs : List AV)
  | src (xs : List AV)
  | edict
  | rng (n : Int)

noncomputable abbrev Base := Addr → Option Obj
noncomputable abbrev listO (vs : List Value) (n : Nat) : Obj := { cls := .type "list", data := .seq vs.toArray n }
noncomputable abbrev tupO (vs : List Value) (n : Nat) : Obj := { cls := .type "tuple", data := .seq vs.toArray n }
noncomputable abbrev rngO (n : Int) (t u v : Tok) : Obj := { cls := .type "range", data := .fields #[.int 0 t, .int n u, .int 1 v] }

noncomputable def fieldTab : List (Addr × List Str) := [
  (246, ["width", "stretch", "stretch_order", "shrink", "shrink_order"]),
  (309, ["natural", "stretch", "shrink"]),
  (354, ["kind", "width", "height", "depth", "items", "shift", "sign", "order", "ratio"]),
  (375, ["width", "height", "depth"]),
  (396, ["width", "sort"]),
  (418, ["glue", "sort", "leader"]),
  (439, ["value"]),
  (460, ["tokens"]),
  (481, ["octets"]),
  (740, ["place", "penalty", "cost", "size"]),
  (874, ["vsize", "max_depth", "no_glue", "contributions", "held", "page", "state", "total", "stretch", "shrink", "depth", "best", "goal", "most_depth", "inserts", "insert_penalties", "last_penalty", "last_kern", "last_glue"])]
/-- a field that a class's things may bear -/
noncomputable def InTab (C : Addr) (x : Str) : Prop := ∃ l, (C, l) ∈ fieldTab ∧ x ∈ l
inductive Rep (B : Base) : AV → Value → Prop
  | none : Rep B .none .none
  | bool (b) : Rep B (.bool b) (.bool b)
  | int (i t) : Rep B (.int i) (.int i t)
  | str (s t) : Rep B (.str s) (.str s t)
  | bytes (b t) : Rep B (.bytes b) (.bytes b t)
  | bi (b) : Rep B (.bi b) b.val
  | glob (a) : Rep B (.glob a) (.ref a)
  | ref (a) : Rep B (.ref a) (.ref a)
  | obj {C : Addr} {fs : List (Str × AV)} {a d : Addr} {es : List DictEntry} {n : Nat} : B a = some (instObj C d) → B d = some (dictOf es n) → Strs es → (∀ x, (fs.lookup x).isSome = (look x es).isSome) →
      (∀ x v y, fs.lookup x = some v → look x es = some y → Rep B v y) → (∀ x y, look x es = some y → InTab C x ∧ handedIn y = true) → Rep B (.obj C fs) (.ref a)
  | tup {xs : List AV} {a : Addr} {vs : List Value} : B a = some (tupO vs 0) → xs.length = vs.length → (∀ (i : Nat) x v, xs[i]? = some x → vs[i]? = some v → Rep B x v) → Rep B (.tup xs) (.ref a)
  | lst {xs : List AV} {a : Addr} {vs : List Value} {n : Nat} : B a = some (listO vs n) → xs.length = vs.length → (∀ (i : Nat) x v, xs[i]? = some x → vs[i]? = some v → Rep B x v) → Rep B (.lst xs) (.ref a)
  | src {xs : List AV} {a : Addr} {vs : List Value} {o : Obj} {n : Nat} : B a = some o → o.cls = .type "list" → o.data = .seq vs.toArray n → xs.length = vs.length → (∀ (i : Nat) x v, xs[i]? = some x → vs[i]? = some v → Rep B x v) → Rep B (.src xs) (.ref a)
  | edict {a n} : B a = some (dictOf [] n) → (a == sysModules) = false → Rep B .edict (.ref a)
  | rng {n a t u v} : B a = some (rngO n t u v) → Rep B (.rng n) (.ref a)

noncomputable def BLe (B B' : Base) : Prop := ∀ b o, B b = some o → B' b = some o
theorem BLe.refl (B : Base) : BLe B B := fun _ _ e => e
theorem BLe.trans {B B' B'' : Base} (x : BLe B B') (y : BLe B' B'') : BLe B B'' := fun b o e => y b o (x b o e)

theorem Rep.mono {B B' : Base} (hb : BLe B B') {x : AV} {v : Value} (r : Rep B x v) : Rep B' x v := by
  induction r with
  | none => exact .none
  | bool b => exact .bool b
  | int i t => exact .int i t
  | str s t => exact .str s t
  | bytes b t => exact .bytes b t
  | bi b => exact .bi b
  | glob a => exact .glob a
  | ref a => exact .ref a
  | obj h1 h2 h3 h4 _ h6 ih => exact .obj (hb _ _ h1) (hb _ _ h2) h3 h4 ih h6
  | tup h1 h2 _ ih => exact .tup (hb _ _ h1) h2 ih
  | lst h1 h2 _ ih => exact .lst (hb _ _ h1) h2 ih
  | src h1 h2 h3 h4 _ ih => exact .src (hb _ _ h1) h2 h3 h4 ih
  | edict h1 h2 => exact .edict (hb _ _ h1) h2
  | rng h1 => exact .rng (hb _ _ h1)

inductive RepL (B : Base) : List AV → List Value → Prop
  | nil : RepL B [] []
  | cons {x v xs vs} : Rep B x v → RepL B xs vs → RepL B (x :: xs) (v :: vs)
theorem RepL.mono {B B' : Base} (hb : BLe B B') {x : List AV} {v : List Value} (r : RepL B x v) : RepL B' x v := by
  induction r with
  | nil => exact .nil
  | cons h _ ih => exact .cons (h.mono hb) ih
theorem RepL.length {B : Base} {x : List AV} {v : List Value} (r : RepL B x v) : x.length = v.length := by
  induction r with
  | nil => rfl
  | cons _ _ ih => simp [ih]
theorem RepL.get {B : Base} {xs : List AV} {vs : List Value} (r : RepL B xs vs) : ∀ {i : Nat} {x v}, xs[i]? = some x → vs[i]? = some v → Rep B x v := by
  induction r with
  | nil => intro i x v h; simp at h
  | cons h _ ih =>
    intro i x v h1 h2
    cases i with
    | zero => simp at h1 h2; subst h1 h2; exact h
    | succ i => simp at h1 h2; exact ih h1 h2
theorem RepL.of {B : Base} : ∀ {xs : List AV} {vs : List Value}, xs.length = vs.length → (∀ (i : Nat) x v, xs[i]? = some x → vs[i]? = some v → Rep B x v) → RepL B xs vs
  | [], [], _, _ => .nil
  | [], _ :: _, h, _ => by simp at h
  | _ :: _, [], h, _ => by simp at h
  | x :: xs, v :: vs, h, k => .cons (k 0 x v rfl rfl) (RepL.of (by simpa using h) fun i x v h1 h2 => k (i + 1) x v (by simpa using h1) (by simpa using h2))
theorem RepL.append {B : Base} {xs ys : List AV} {vs ws : List Value} (r : RepL B xs vs) (q : RepL B ys ws) : RepL B (xs ++ ys) (vs ++ ws) := by
  induction r with
  | nil => exact q
  | cons h _ ih => exact .cons h ih
theorem RepL.take {B : Base} {xs : List AV} {vs : List Value} (r : RepL B xs vs) : ∀ n, RepL B (xs.take n) (vs.take n) := by
  induction r with
  | nil => intro n; simp; exact .nil
  | cons h _ ih => intro n; cases n with
    | zero => exact .nil
    | succ n => exact .cons h (ih n)
theorem RepL.drop {B : Base} {xs : List AV} {vs : List Value} (r : RepL B xs vs) : ∀ n, RepL B (xs.drop n) (vs.drop n) := by
  induction r with
  | nil => intro n; simp; exact .nil
  | cons h q ih => intro n; cases n with
    | zero => exact .cons h q
    | succ n => exact ih n
theorem RepL.toTup {B : Base} {xs : List AV} {vs : List Value} {a : Addr} (r : RepL B xs vs) (h : B a = some (tupO vs 0)) : Rep B (.tup xs) (.ref a) := .tup h r.length fun _ _ _ => r.get
theorem RepL.toLst {B : Base} {xs : List AV} {vs : List Value} {a : Addr} {n : Nat} (r : RepL B xs vs) (h : B a = some (listO vs n)) : Rep B (.lst xs) (.ref a) := .lst h r.length fun _ _ _ => r.get

/-- changeable things -/
inductive AObj where
  | inst (C d : Addr) (fs : List (Str × AV))
  | list (xs : List AV)
noncomputable abbrev Led := List (Addr × AObj)
structure AS where
  loc : List (Str × AV)
  T : Led

noncomputable def fpt : Addr × AObj → List Addr
  | (a, .inst _ d _) => [a, d]
  | (a, .list _) => [a]
noncomputable def addrs (T : Led) : List Addr := T.flatMap fpt

inductive ObjAt (B : Base) (h : Heap) : Addr → AObj → Prop
  | inst {a C d : Addr} {fs : List (Str × AV)} {es : List DictEntry} {n : Nat} : h.get? a = some (instObj C d) → h.get? d = some (dictOf es n) → Strs es → es.length ≤ fs.length → (∀ x, (fs.lookup x).isSome = (look x es).isSome) →
      (∀ x v y, fs.lookup x = some v → look x es = some y → Rep B v y) → (∀ x y, look x es = some y → InTab C x ∧ handedIn y = true) → ObjAt B h a (.inst C d fs)
  | list {a : Addr} {xs : List AV} {vs : List Value} {n : Nat} : h.get? a = some (listO vs n) → RepL B xs vs → ObjAt B h a (.list xs)
theorem ObjAt.mono {B B' : Base} {h h' : Heap} {a : Addr} {o : AObj} (hb : BLe B B') (hk : ∀ b ∈ fpt (a, o), ∀ o', h.get? b = some o' → h'.get? b = some o') (r : ObjAt B h a o) : ObjAt B' h' a o := by
  cases r with
  | inst h1 h2 h3 h4 h5 h6 h7 => exact .inst (hk _ (by simp [fpt]) _ h1) (hk _ (by simp [fpt]) _ h2) h3 h4 h5 (fun x v y e1 e2 => (h6 x v y e1 e2).mono hb) h7
  | list h1 h2 => exact .list (hk _ (by simp [fpt]) _ h1) (h2.mono hb)
theorem ObjAt.has {B : Base} {h : Heap} {a : Addr} {o : AObj} (r : ObjAt B h a o) : ∀ b ∈ fpt (a, o), ∃ o', h.get? b = some o' := by
  cases r with
  | inst h1 h2 _ _ _ _ _ => intro b hb; simp [fpt] at hb; rcases hb with rfl | rfl; exact ⟨_, h1⟩; exact ⟨_, h2⟩
  | list h1 _ => intro b hb; simp [fpt] at hb; subst hb; exact ⟨_, h1⟩
end
section
open PySem PySem.W PyProof.Rows PySem.Calls PySem.Spec
/-- what may be called -/
noncomputable def keepTab : List Addr := [101, 108, 115, 122, 164, 193, 246, 257, 271, 278, 285, 292, 299, 309, 351, 354, 372, 375, 393, 396, 415, 418, 436, 439, 457, 460, 478, 481, 490, 495, 500, 521, 528, 543, 550, 557, 564, 571, 578, 585, 593, 695, 737, 740, 759, 766, 773, 780, 808, 815, 822, 829, 836, 843, 850, 857, 874, 885, 892, 899, 906, 913, 918, 925, 932, 939, 946]
noncomputable def clsTab : List (Addr × List (Str × AV)) := [(375, [("kind", .int 4)]), (396, [("kind", .int 5)]), (418, [("kind", .int 6)]), (439, [("kind", .int 7)]), (460, [("kind", .int 9)]), (481, [("kind", .int 13)])]
noncomputable def methTab : List (Addr × List (Str × Addr)) := [
  (309, [("add", 278), ("widen", 285), ("stretch_top", 292), ("shrink_top", 299)]),
  (874, [("start", 766), ("clear", 773), ("freeze", 780), ("contribute", 808), ("build", 815), ("remember", 822), ("begin", 829), ("penalty_ahead", 836), ("cost", 843), ("tried", 850), ("take", 857)])]
noncomputable def fieldB (K : Frag) (C : Addr) (x : Str) : Bool := hasDictIn K C && plainGet K C x && (match findIn K (.ref C) x with | some attr => noGet K attr | none => false) &&
  (takerIn K C x == some none) && plainOver K C && (findIn K (.ref C) "__setattr__" == some (some (.builtin "object.__setattr__")))
noncomputable def clsB (K : Frag) (C : Addr) (x : Str) (v : AV) : Bool := hasDictIn K C && plainGet K C x && !copiedNames.contains x && (match findIn K (.ref C) x, v with
  | some (some (.int i t)), .int j => decide (i = j) && specialIn K (.int i t) "__get__" == some none
  | _, _ => false)
noncomputable def methB (K : Frag) (C : Addr) (x : Str) (f : Addr) : Bool := plainGet K C x && (findIn K (.ref C) x == some (some (.ref f))) && isFn K (.ref f) && keepIn K (.ref f)

/-- what a name of the text's top stands for -/
noncomputable def GV (K : Frag) (x : Str) (v : AV) : Prop := ∃ y, (nsIn K mainGlobals x = some (some y) ∨ (nsIn K mainGlobals x = some none ∧ bootBuiltins x = some y ∧ x ≠ "__name__")) ∧ ∀ B : Base, (∀ a o, K.lookup a = some o → B a = some o) → Rep B v y
noncomputable def GlOk (K : Frag) (sc : Scope) (gl : List (Str × AV)) : Prop := ∀ x v, gl.lookup x = some v → sc.names.lookup x = some .globalImplicit ∧ GV K x v
theorem GlOk.nil {K : Frag} {sc : Scope} : GlOk K sc [] := fun _ _ h => nomatch h
theorem GlOk.cons {K : Frag} {sc : Scope} {x : Str} {v : AV} {gl : List (Str × AV)} (h1 : sc.names.lookup x = some .globalImplicit) (h2 : GV K x v) (h : GlOk K sc gl) : GlOk K sc ((x, v) :: gl) := by
  intro y u e
  rw [List.lookup_cons] at e
  cases q : y == x with
  | true => rw [q] at e; simp only [Option.some.injEq] at e; subst e; rw [eq_of_beq q]; exact ⟨h1, h2⟩
  | false => rw [q] at e; exact h y u e
noncomputable def isLoc (sc : Scope) (p : Str) : Bool := match sc.names.lookup p with
  | some .local => true
  | _ => false
/-- the text's own rows -/
noncomputable def pwS (i : Nat) : Stmt := match PySem.Challenge.pw_tu0013_01.main.body.drop i with
  | s :: _ => s
  | [] => .Pass ⟨0, 0, 0, 0⟩
noncomputable def inS (s : Stmt) (i : Nat) : Stmt := match s with
  | .ClassDef (body := b) .. => match b.drop i with
    | s :: _ => s
    | [] => .Pass ⟨0, 0, 0, 0⟩
  | _ => .Pass ⟨0, 0, 0, 0⟩
/-- a def of the text: its name, its row, its parameters, what the last ones are left to, and the names it reads -/
structure FD where
  qual : Str
  st : Stmt
  ps : List Str
  da : List AV
  ds : List Value
  gl : List (Str × AV)
noncomputable def FD.name (d : FD) : Str := match d.st with
  | .FunctionDef (name := n) .. => n
  | _ => ""
noncomputable def FD.params (d : FD) : Arguments := match d.st with
  | .FunctionDef (args := a) .. => a
  | _ => ⟨[], [], none, [], [], none, []⟩
noncomputable def FD.body (d : FD) : List Stmt := match d.st with
  | .FunctionDef (body := b) .. => b
  | _ => []
noncomputable def FD.scope (d : FD) : Scope := match d.st with
  | .FunctionDef (scope := s) .. => s
  | _ => { kind := .function, names := [], isGenerator := false, isCoroutine := false }
noncomputable def FnK (K : Frag) (f : Addr) (d : FD) : Prop := ∃ (oc : Value) (od : Option Addr) (dV kV doc pm : Value) (an : Option Addr) (cdv ct : Value) (osl : Array (Option Value)),
  K.lookup f = some ⟨oc, od, .func (fnOf d.name d.qual d.params d.body d.scope dV kV doc pm an cdv ct), osl⟩ ∧ codeIn K cdv d.qual = true ∧
  ∀ s : Shared, K.In s.heap → ∀ ys : List Value, (ys ++ d.ds).length = d.ps.length → BindsTo s (fnOf d.name d.qual d.params d.body d.scope dV kV doc pm an cdv ct) ⟨ys, []⟩ (d.ps.zip (ys ++ d.ds))
structure Good (d : FD) : Prop where
  nodup : d.ps.Nodup
  loc : d.ps.all (isLoc d.scope) = true
  nodebug : d.scope.names.lookup ("__debug__" : Str) = none
  cell : ∀ x ∈ d.scope.names, x.2 ≠ .cell
  co : d.scope.isCoroutine = false
  gen : d.scope.isGenerator = false
  kind : d.scope.kind = .function
inductive AllFn (K : Frag) : List (Addr × FD) → Prop
  | nil : AllFn K []
  | cons {f d r} : FnK K f d → AllFn K r → AllFn K ((f, d) :: r)
theorem AllFn.get {K : Frag} {l : List (Addr × FD)} (h : AllFn K l) (i : Nat) {f : Addr} {d : FD} (e : l[i]? = some (f, d)) : FnK K f d := by
  induction h generalizing i with
  | nil => cases e
  | cons h _ ih => cases i with
    | zero => cases e; exact h
    | succ i => exact ih i (by simpa using e)
noncomputable def intB (K : Frag) (x : Str) (i : Int) : Bool := match nsIn K mainGlobals x with
  | some (some (.int j _)) => decide (j = i)
  | _ => false
noncomputable def defB (K : Frag) (x : Str) (a : Addr) : Bool := match nsIn K mainGlobals x with
  | some (some (.ref b)) => Nat.beq a b
  | _ => false
noncomputable def noB (K : Frag) (x : Str) : Bool := match nsIn K mainGlobals x with
  | some none => true
  | _ => false
noncomputable def asI : Value → Option Int
  | .int j _ => some j
  | _ => none
noncomputable def intsB (vs : List Value) (l : List Int) : Bool := decide (vs.map asI = l.map some)
noncomputable abbrev mkI (x : Str) (i : Int) : Str × Int := (x, i)
noncomputable abbrev mkD (x : Str) (a : Addr) : Str × Addr := (x, a)
noncomputable def intTab : List (Str × Int) := [mkI "MAX_NUMBER" 2147483647, mkI "MAX_DIMEN" 1073741823, mkI "INF_BAD" 10000, mkI "NORMAL" 0, mkI "FIL" 1, mkI "FILL" 2, mkI "FILLL" 3, mkI "CHAR" 0, mkI "LIGATURE" 1, mkI "HBOX" 2, mkI "VBOX" 3, mkI "RULE" 4, mkI "KERN" 5, mkI "GLUE" 6, mkI "PENALTY" 7, mkI "DISC" 8, mkI "MARK" 9, mkI "INSERT" 10, mkI "MATH" 12, mkI "SPECIAL" 13, mkI "UNSET" 14, mkI "NATURAL" 0, mkI "STRETCHED" 1, mkI "SHRUNK" 2, mkI "FONT_KERN" 0, mkI "MU_KERN" 3, mkI "PLAIN" 0, mkI "ALEADERS" 1, mkI "XLEADERS" 3, mkI "NONSCRIPT" 5, mkI "NAMED" 100, mkI "EXACTLY" 0, mkI "SPREAD" 1, mkI "FINE" 0, mkI "LOOSE" 1, mkI "TIGHT" 2, mkI "OVERFULL" 3, mkI "EMPTY" 0, mkI "BOXES" 2, mkI "AWFUL_pages" 1073741823, mkI "DEPLORABLE_pages" 100000, mkI "EJECT_pages" (-10000), mkI "INF_PENALTY_pages" 10000, mkI "TOP_SORT" 107]
noncomputable def defTab : List (Str × Addr) := [mkD "is_whole" 101, mkD "check_whole" 108, mkD "check_number" 115, mkD "check_dimen" 122, mkD "badness" 164, mkD "Glue" 246, mkD "top_order" 257, mkD "Totals" 309, mkD "Box" 354, mkD "Rule" 375, mkD "Kern" 396, mkD "Skip" 418, mkD "Penalty" 439, mkD "Mark" 460, mkD "Special" 481, mkD "width_of" 490, mkD "height_of" 495, mkD "depth_of" 500, mkD "is_discardable" 521, mkD "is_breakable_ahead" 528, mkD "across" 543, mkD "check_column" 550, mkD "natural_column" 557, mkD "quotient" 564, mkD "set_glue" 571, mkD "goal_size" 578, mkD "set_box" 585, mkD "vpack" 593, mkD "check_finite" 695, mkD "Page" 740, mkD "PageBuilder" 874, mkD "_law_heap" 885, mkD "_law_take" 892, mkD "_law_skip" 899, mkD "_law_standing" 906, mkD "_law_gap" 913, mkD "_law_price" 918, mkD "_law_cost" 925, mkD "_law_end" 932, mkD "_law_right" 939]
noncomputable def biTab : List (Str × Bi) := [("int", .int), ("bool", .bool), ("list", .list), ("tuple", .tuple), ("bytes", .bytes), ("bytearray", .bytearray), ("range", .range), ("len", .len), ("abs", .abs), ("max", .max), ("isinstance", .isinstance), ("sorted", .sorted)]
noncomputable def tupTab : List (Str × List Int) := [("SIZED", [2, 3, 4]), ("PARTS", [2, 3, 4, 5, 6, 7, 9, 10, 13])]
noncomputable def makeTab : List (Addr × Addr) := [(246, 193), (309, 271), (354, 351), (375, 372), (396, 393), (418, 415), (439, 436), (460, 457), (481, 478), (740, 737), (874, 759)]
noncomputable def fd_is_whole : FD := ⟨"is_whole", (pwS 13), ["value", "low", "high"], [], [], [("isinstance", .bi .isinstance), ("int", .bi .int), ("bool", .bi .bool)]⟩
noncomputable def fd_check_whole : FD := ⟨"check_whole", (pwS 14), ["value"], [], [], [("isinstance", .bi .isinstance), ("int", .bi .int), ("bool", .bi .bool)]⟩
noncomputable def fd_check_number : FD := ⟨"check_number", (pwS 15), ["value"], [], [], [("MAX_NUMBER", .int 2147483647), ("check_whole", .glob 108)]⟩
noncomputable def fd_check_dimen : FD := ⟨"check_dimen", (pwS 16), ["value"], [], [], [("MAX_DIMEN", .int 1073741823), ("check_whole", .glob 108)]⟩
noncomputable def fd_badness : FD := ⟨"badness", (pwS 24), ["excess", "total"], [], [], [("INF_BAD", .int 10000)]⟩
noncomputable def fd_Glue_init : FD := ⟨"Glue.__init__", (inS (pwS 27) 0), ["self", "width", "stretch", "stretch_order", "shrink", "shrink_order"], [], [], [("is_whole", .glob 101), ("NORMAL", .int 0), ("FILLL", .int 3), ("check_dimen", .glob 122)]⟩
noncomputable def fd_Glue_initE : FD := ⟨"Glue.__init__", (inS (pwS 27) 0), ["self", "width", "stretch", "stretch_order", "shrink", "shrink_order"], [.int 0, .int 0, .int 0, .int 0, .int 0], [.int 0 431, .int 0 432, .int 0 433, .int 0 434, .int 0 435], [("is_whole", .glob 101), ("NORMAL", .int 0), ("FILLL", .int 3), ("check_dimen", .glob 122)]⟩
noncomputable def fd_top_order : FD := ⟨"top_order", (pwS 28), ["sums"], [], [], [("FILLL", .int 3), ("FILL", .int 2), ("FIL", .int 1), ("NORMAL", .int 0)]⟩
noncomputable def fd_Totals_init : FD := ⟨"Totals.__init__", (inS (pwS 29) 0), ["self"], [], [], []⟩
noncomputable def fd_Totals_add : FD := ⟨"Totals.add", (inS (pwS 29) 1), ["self", "glue"], [], [], []⟩
noncomputable def fd_Totals_widen : FD := ⟨"Totals.widen", (inS (pwS 29) 2), ["self", "width"], [], [], []⟩
noncomputable def fd_Totals_stretch_top : FD := ⟨"Totals.stretch_top", (inS (pwS 29) 3), ["self"], [], [], [("top_order", .glob 257)]⟩
noncomputable def fd_Totals_shrink_top : FD := ⟨"Totals.shrink_top", (inS (pwS 29) 4), ["self"], [], [], [("top_order", .glob 257)]⟩
noncomputable def fd_Box_init : FD := ⟨"Box.__init__", (inS (pwS 37) 0), ["self", "kind", "width", "height", "depth", "items"], [], [], [("is_whole", .glob 101), ("HBOX", .int 2), ("VBOX", .int 3), ("check_dimen", .glob 122), ("NATURAL", .int 0)]⟩
noncomputable def fd_Rule_init : FD := ⟨"Rule.__init__", (inS (pwS 38) 1), ["self", "width", "height", "depth"], [], [], [("check_dimen", .glob 122)]⟩
noncomputable def fd_Kern_init : FD := ⟨"Kern.__init__", (inS (pwS 39) 1), ["self", "width", "sort"], [], [], [("is_whole", .glob 101), ("FONT_KERN", .int 0), ("MU_KERN", .int 3), ("check_dimen", .glob 122)]⟩
noncomputable def fd_Skip_init : FD := ⟨"Skip.__init__", (inS (pwS 40) 1), ["self", "glue", "sort", "leader"], [], [], [("is_whole", .glob 101), ("PLAIN", .int 0), ("NONSCRIPT", .int 5), ("NAMED", .int 100), ("ALEADERS", .int 1), ("XLEADERS", .int 3), ("HBOX", .int 2), ("RULE", .int 4)]⟩
noncomputable def fd_Skip_initE : FD := ⟨"Skip.__init__", (inS (pwS 40) 1), ["self", "glue", "sort", "leader"], [.none], [.none], [("is_whole", .glob 101), ("PLAIN", .int 0), ("NONSCRIPT", .int 5), ("NAMED", .int 100), ("ALEADERS", .int 1), ("XLEADERS", .int 3), ("HBOX", .int 2), ("RULE", .int 4)]⟩
noncomputable def fd_Penalty_init : FD := ⟨"Penalty.__init__", (inS (pwS 41) 1), ["self", "value"], [], [], [("check_number", .glob 115)]⟩
noncomputable def fd_Mark_init : FD := ⟨"Mark.__init__", (inS (pwS 42) 1), ["self", "tokens"], [], [], [("tuple", .bi .tuple)]⟩
noncomputable def fd_Special_init : FD := ⟨"Special.__init__", (inS (pwS 43) 2), ["self", "octets"], [], [], [("isinstance", .bi .isinstance), ("bytes", .bi .bytes), ("bytearray", .bi .bytearray), ("list", .bi .list), ("tuple", .bi .tuple), ("is_whole", .glob 101)]⟩
noncomputable def fd_width_of : FD := ⟨"width_of", (pwS 44), ["node"], [], [], [("CHAR", .int 0), ("LIGATURE", .int 1), ("HBOX", .int 2), ("VBOX", .int 3), ("KERN", .int 5), ("MATH", .int 12), ("UNSET", .int 14), ("RULE", .int 4), ("GLUE", .int 6), ("DISC", .int 8)]⟩
noncomputable def fd_height_of : FD := ⟨"height_of", (pwS 45), ["node"], [], [], [("CHAR", .int 0), ("LIGATURE", .int 1), ("HBOX", .int 2), ("VBOX", .int 3), ("UNSET", .int 14), ("RULE", .int 4), ("GLUE", .int 6), ("height_of", .glob 495), ("DISC", .int 8), ("max", .bi .max)]⟩
noncomputable def fd_depth_of : FD := ⟨"depth_of", (pwS 46), ["node"], [], [], [("CHAR", .int 0), ("LIGATURE", .int 1), ("HBOX", .int 2), ("VBOX", .int 3), ("UNSET", .int 14), ("RULE", .int 4), ("GLUE", .int 6), ("depth_of", .glob 500), ("DISC", .int 8), ("max", .bi .max)]⟩
noncomputable def fd_is_discardable : FD := ⟨"is_discardable", (pwS 49), ["node"], [], [], [("GLUE", .int 6), ("KERN", .int 5), ("PENALTY", .int 7), ("MATH", .int 12)]⟩
noncomputable def fd_is_breakable_ahead : FD := ⟨"is_breakable_ahead", (pwS 50), ["node"], [], [], [("is_discardable", .glob 521)]⟩
noncomputable def fd_across : FD := ⟨"across", (pwS 54), ["node"], [], [], [("HBOX", .int 2), ("VBOX", .int 3), ("GLUE", .int 6), ("width_of", .glob 490), ("KERN", .int 5)]⟩
noncomputable def fd_check_column : FD := ⟨"check_column", (pwS 55), ["items"], [], [], [("CHAR", .int 0), ("LIGATURE", .int 1), ("DISC", .int 8), ("MATH", .int 12)]⟩
noncomputable def fd_natural_column : FD := ⟨"natural_column", (pwS 56), ["items"], [], [], [("check_column", .glob 550), ("Totals", .glob 309), ("max", .bi .max), ("across", .glob 543), ("GLUE", .int 6), ("KERN", .int 5), ("HBOX", .int 2), ("VBOX", .int 3), ("RULE", .int 4), ("UNSET", .int 14), ("height_of", .glob 495), ("depth_of", .glob 500)]⟩
noncomputable def fd_quotient : FD := ⟨"quotient", (pwS 57), ["up", "down"], [], [], []⟩
noncomputable def fd_set_glue : FD := ⟨"set_glue", (pwS 58), ["totals", "excess"], [], [], [("NATURAL", .int 0), ("NORMAL", .int 0), ("FINE", .int 0), ("LOOSE", .int 1), ("TIGHT", .int 2), ("badness", .glob 164), ("abs", .bi .abs), ("OVERFULL", .int 3), ("SHRUNK", .int 2), ("STRETCHED", .int 1), ("quotient", .glob 564)]⟩
noncomputable def fd_goal_size : FD := ⟨"goal_size", (pwS 59), ["own", "mode", "amount"], [], [], [("EXACTLY", .int 0), ("SPREAD", .int 1), ("check_dimen", .glob 122)]⟩
noncomputable def fd_set_box : FD := ⟨"set_box", (pwS 60), ["box", "totals", "excess"], [], [], [("set_glue", .glob 571), ("FINE", .int 0)]⟩
noncomputable def fd_vpack : FD := ⟨"vpack", (pwS 61), ["items", "mode", "amount", "most_depth"], [], [], [("check_dimen", .glob 122), ("natural_column", .glob 557), ("goal_size", .glob 578), ("Box", .glob 354), ("VBOX", .int 3), ("set_box", .glob 585)]⟩
noncomputable def fd_check_finite : FD := ⟨"check_finite", (pwS 84), ["glue"], [], [], [("NORMAL", .int 0)]⟩
noncomputable def fd_Page_init : FD := ⟨"Page.__init__", (inS (pwS 87) 0), ["self", "place", "penalty", "cost", "size"], [], [], []⟩
noncomputable def fd_PageBuilder_init : FD := ⟨"PageBuilder.__init__", (inS (pwS 88) 0), ["self", "vsize", "max_depth"], [], [], [("check_dimen", .glob 122), ("Glue", .glob 246)]⟩
noncomputable def fd_PageBuilder_start : FD := ⟨"PageBuilder.start", (inS (pwS 88) 1), ["self"], [], [], [("EMPTY", .int 0)]⟩
noncomputable def fd_PageBuilder_clear : FD := ⟨"PageBuilder.clear", (inS (pwS 88) 2), ["self"], [], [], []⟩
noncomputable def fd_PageBuilder_freeze : FD := ⟨"PageBuilder.freeze", (inS (pwS 88) 3), ["self", "state"], [], [], []⟩
noncomputable def fd_PageBuilder_contribute : FD := ⟨"PageBuilder.contribute", (inS (pwS 88) 7), ["self", "items"], [], [], [("PARTS", .tup [.int 2, .int 3, .int 4, .int 5, .int 6, .int 7, .int 9, .int 10, .int 13])]⟩
noncomputable def fd_PageBuilder_build : FD := ⟨"PageBuilder.build", (inS (pwS 88) 8), ["self", "top_skip", "classes"], [], [], [("BOXES", .int 2), ("GLUE", .int 6), ("check_finite", .glob 695), ("KERN", .int 5), ("len", .bi .len), ("SIZED", .tup [.int 2, .int 3, .int 4]), ("is_discardable", .glob 521)]⟩
noncomputable def fd_PageBuilder_remember : FD := ⟨"PageBuilder.remember", (inS (pwS 88) 9), ["self", "node"], [], [], [("GLUE", .int 6), ("KERN", .int 5), ("PENALTY", .int 7)]⟩
noncomputable def fd_PageBuilder_begin : FD := ⟨"PageBuilder.begin", (inS (pwS 88) 10), ["self", "node", "top_skip"], [], [], [("check_finite", .glob 695), ("max", .bi .max), ("height_of", .glob 495), ("Glue", .glob 246), ("EMPTY", .int 0), ("BOXES", .int 2), ("Skip", .glob 418), ("TOP_SORT", .int 107)]⟩
noncomputable def fd_PageBuilder_penalty_ahead : FD := ⟨"PageBuilder.penalty_ahead", (inS (pwS 88) 11), ["self", "node"], [], [], [("PENALTY", .int 7), ("GLUE", .int 6), ("is_breakable_ahead", .glob 528), ("KERN", .int 5)]⟩
noncomputable def fd_PageBuilder_cost : FD := ⟨"PageBuilder.cost", (inS (pwS 88) 12), ["self", "penalty"], [], [], [("INF_PENALTY_pages", .int 10000), ("AWFUL_pages", .int 1073741823), ("EJECT_pages", .int (-10000)), ("badness", .glob 164), ("INF_BAD", .int 10000), ("DEPLORABLE_pages", .int 100000)]⟩
noncomputable def fd_PageBuilder_tried : FD := ⟨"PageBuilder.tried", (inS (pwS 88) 13), ["self", "node"], [], [], [("INF_PENALTY_pages", .int 10000), ("Page", .glob 740), ("len", .bi .len), ("PENALTY", .int 7), ("sorted", .bi .sorted), ("AWFUL_pages", .int 1073741823), ("EJECT_pages", .int (-10000))]⟩
noncomputable def fd_PageBuilder_take : FD := ⟨"PageBuilder.take", (inS (pwS 88) 14), ["self", "node", "classes"], [], [], [("INSERT", .int 10), ("SIZED", .tup [.int 2, .int 3, .int 4]), ("height_of", .glob 495), ("depth_of", .glob 500), ("GLUE", .int 6), ("KERN", .int 5)]⟩
noncomputable def fd_law_heap : FD := ⟨"_law_heap", (pwS 90), ["script"], [], [], [("abs", .bi .abs), ("int", .bi .int)]⟩
noncomputable def fd_law_take : FD := ⟨"_law_take", (pwS 91), ["heap", "many"], [], [], []⟩
noncomputable def fd_law_skip : FD := ⟨"_law_skip", (pwS 92), ["heap", "unit"], [], [], [("_law_take", .glob 892), ("Glue", .glob 246), ("Skip", .glob 418), ("Box", .glob 354), ("HBOX", .int 2)]⟩
noncomputable def fd_law_standing : FD := ⟨"_law_standing", (pwS 93), ["heap", "unit"], [], [], [("_law_take", .glob 892), ("Rule", .glob 375), ("Box", .glob 354), ("HBOX", .int 2)]⟩
noncomputable def fd_law_gap : FD := ⟨"_law_gap", (pwS 94), ["heap", "unit"], [], [], [("_law_take", .glob 892), ("_law_skip", .glob 899), ("Penalty", .glob 439), ("Kern", .glob 396), ("Mark", .glob 460), ("Special", .glob 481)]⟩
noncomputable def fd_law_price : FD := ⟨"_law_price", (pwS 95), ["line", "place"], [], [], [("PENALTY", .int 7), ("GLUE", .int 6), ("KERN", .int 5)]⟩
noncomputable def fd_law_cost : FD := ⟨"_law_cost", (pwS 96), ["parts", "price", "goal", "deep"], [], [], [("vpack", .glob 593), ("EXACTLY", .int 0), ("OVERFULL", .int 3)]⟩
noncomputable def fd_law_end : FD := ⟨"_law_end", (pwS 97), ["line", "goal", "deep"], [], [], [("range", .bi .range), ("len", .bi .len), ("_law_price", .glob 918), ("_law_cost", .glob 925), ("PENALTY", .int 7)]⟩
noncomputable def fd_law_right : FD := ⟨"_law_right", (pwS 98), ["builder", "found", "goal", "deep"], [], [], [("_law_end", .glob 932), ("len", .bi .len), ("vpack", .glob 593), ("list", .bi .list), ("SPREAD", .int 1)]⟩
noncomputable def fd_law : FD := ⟨"law", (pwS 99), ["script"], [], [], [("_law_heap", .glob 885), ("_law_take", .glob 892), ("_law_skip", .glob 899), ("_law_gap", .glob 913), ("range", .bi .range), ("_law_standing", .glob 906), ("Penalty", .glob 439), ("len", .bi .len), ("PageBuilder", .glob 874), ("_law_right", .glob 939)]⟩
noncomputable def fnTab : List (Addr × FD) := [(101, fd_is_whole), (108, fd_check_whole), (115, fd_check_number), (122, fd_check_dimen), (164, fd_badness), (193, fd_Glue_init), (193, fd_Glue_initE), (257, fd_top_order), (271, fd_Totals_init), (278, fd_Totals_add), (285, fd_Totals_widen), (292, fd_Totals_stretch_top), (299, fd_Totals_shrink_top), (351, fd_Box_init), (372, fd_Rule_init), (393, fd_Kern_init), (415, fd_Skip_init), (415, fd_Skip_initE), (436, fd_Penalty_init), (457, fd_Mark_init), (478, fd_Special_init), (490, fd_width_of), (495, fd_height_of), (500, fd_depth_of), (521, fd_is_discardable), (528, fd_is_breakable_ahead), (543, fd_across), (550, fd_check_column), (557, fd_natural_column), (564, fd_quotient), (571, fd_set_glue), (578, fd_goal_size), (585, fd_set_box), (593, fd_vpack), (695, fd_check_finite), (737, fd_Page_init), (759, fd_PageBuilder_init), (766, fd_PageBuilder_start), (773, fd_PageBuilder_clear), (780, fd_PageBuilder_freeze), (808, fd_PageBuilder_contribute), (815, fd_PageBuilder_build), (822, fd_PageBuilder_remember), (829, fd_PageBuilder_begin), (836, fd_PageBuilder_penalty_ahead), (843, fd_PageBuilder_cost), (850, fd_PageBuilder_tried), (857, fd_PageBuilder_take), (885, fd_law_heap), (892, fd_law_take), (899, fd_law_skip), (906, fd_law_standing), (913, fd_law_gap), (918, fd_law_price), (925, fd_law_cost), (932, fd_law_end), (939, fd_law_right), (946, fd_law)]

noncomputable def TupV (K : Frag) (x : Str) (l : List Int) : Prop := ∃ a vs, nsIn K mainGlobals x = some (some (.ref a)) ∧ K.lookup a = some (tupO vs 0) ∧ intsB vs l = true
/-- what the head's heap must say -/
structure Kn (K : Frag) : Prop where
  fields : (fieldTab.all fun e => e.2.all (fieldB K e.1)) = true
  cls : (clsTab.all fun e => e.2.all fun f => clsB K e.1 f.1 f.2) = true
  meths : (methTab.all fun e => e.2.all fun f => methB K e.1 f.1 f.2) = true
  keeps : (keepTab.all fun a => keepIn K (.ref a)) = true
  hint : (intTab.all fun e => intB K e.1 e.2) = true
  hdef : (defTab.all fun e => defB K e.1 e.2) = true
  hbi : (biTab.all fun e => noB K e.1) = true
  htup : ∀ e ∈ tupTab, TupV K e.1 e.2
  makes : (makeTab.all fun e => makesIn K e.1 && (findIn K (.ref e.1) "__init__" == some (some (.ref e.2)) && (typeIn K (.ref e.2) == some (.type "function")))) = true
  fns : AllFn K fnTab
theorem mem_lk {α β : Type} [BEq α] [LawfulBEq α] {l : List (α × β)} {x : α} {v : β} (h : l.lookup x = some v) : (x, v) ∈ l := by
  induction l with
  | nil => cases h
  | cons p r ih =>
    rw [List.lookup_cons] at h
    cases q : x == p.1 with
    | true => rw [q] at h; simp only [Option.some.injEq] at h; rw [eq_of_beq q, ← h]; exact .head _
    | false => rw [q] at h; exact .tail _ (ih h)
theorem asI_some {v : Value} {i : Int} (h : asI v = some i) : ∃ t, v = .int i t := by
  cases v with
  | int j t => cases h; exact ⟨_, rfl⟩
  | _ => cases h
theorem intsB_rep {B : Base} {vs : List Value} : ∀ {l : List Int}, intsB vs l = true → RepL B (l.map AV.int) vs := by
  unfold intsB
  induction vs with
  | nil => intro l h; cases l with
    | nil => exact .nil
    | cons i l => rw [decide_eq_true_eq] at h; cases h
  | cons v r ih => intro l h; rw [decide_eq_true_eq] at h; cases l with
    | nil => cases h
    | cons i l =>
      obtain ⟨h1, h2⟩ := List.cons.inj h
      obtain ⟨t, rfl⟩ := asI_some h1
      exact .cons (.int _ _) (ih (decide_eq_true h2))
section
variable {K : Frag}
theorem Kn.g_ints (kn : Kn K) {x : Str} {i : Int} (h : intTab.lookup x = some i) : GV K x (.int i) := by
  have g := List.all_eq_true.mp kn.hint _ (mem_lk h)
  unfold intB at g
  split at g
  · rename_i j t e
    rw [decide_eq_true_eq] at g
    subst g
    exact ⟨_, .inl e, fun _ _ => .int _ _⟩
  · cases g
theorem Kn.g_defs (kn : Kn K) {x : Str} {a : Addr} (h : defTab.lookup x = some a) : GV K x (.glob a) := by
  have g := List.all_eq_true.mp kn.hdef _ (mem_lk h)
  unfold defB at g
  split at g
  · rename_i b e
    have g := Nat.eq_of_beq_eq_true g
    dsimp only at g
    rw [← g] at e
    exact ⟨_, .inl e, fun _ _ => .glob _⟩
  · cases g
theorem bi_all : (biTab.all fun e => bootBuiltins e.1 == some e.2.val && e.1 != ("__name__" : Str)) = true := by kernel_rfl
theorem Kn.g_bis (kn : Kn K) {x : Str} {b : Bi} (h : biTab.lookup x = some b) : GV K x (.bi b) := by
  have g := List.all_eq_true.mp kn.hbi _ (mem_lk h)
  have g2 := List.all_eq_true.mp bi_all _ (mem_lk h)
  rw [Bool.and_eq_true, beq_iff_eq, bne_iff_ne] at g2
  unfold noB at g
  split at g
  · rename_i e
    exact ⟨_, .inr ⟨e, g2.1, g2.2⟩, fun _ _ => .bi _⟩
  · cases g
theorem Kn.g_tups (kn : Kn K) {x : Str} {l : List Int} (h : tupTab.lookup x = some l) : GV K x (.tup (l.map AV.int)) := by
  obtain ⟨a, vs, e1, e2, e3⟩ := kn.htup _ (mem_lk h)
  exact ⟨_, .inl e1, fun _ k => (intsB_rep e3).toTup (k _ _ e2)⟩
theorem Kn.make (kn : Kn K) {C fI : Addr} (h : makeTab.lookup C = some fI) : makesIn K C = true ∧ findIn K (.ref C) "__init__" = some (some (.ref fI)) ∧ typeIn K (.ref fI) = some (.type "function") := by
  have g := List.all_eq_true.mp kn.makes _ (mem_lk h)
  simp only [Bool.and_eq_true, beq_iff_eq] at g
  exact g
structure Inn (K : Frag) (f : Addr) (d : FD) : Prop where
  fn : FnK K f d
  gl : GlOk K d.scope d.gl
  good : Good d
theorem in_is_whole (kn : Kn K) : Inn K 101 fd_is_whole := ⟨kn.fns.get 0 rfl, .cons rfl (kn.g_bis rfl) (.cons rfl (kn.g_bis rfl) (.cons rfl (kn.g_bis rfl) .nil)), ⟨by decide +kernel, rfl, rfl, by decide +kernel, rfl, rfl, rfl⟩⟩
theorem in_check_whole (kn : Kn K) : Inn K 108 fd_check_whole := ⟨kn.fns.get 1 rfl, .cons rfl (kn.g_bis rfl) (.cons rfl (kn.g_bis rfl) (.cons rfl (kn.g_bis rfl) .nil)), ⟨by decide +kernel, rfl, rfl, by decide +kernel, rfl, rfl, rfl⟩⟩
theorem in_check_number (kn : Kn K) : Inn K 115 fd_check_number := ⟨kn.fns.get 2 rfl, .cons rfl (kn.g_ints rfl) (.cons rfl (kn.g_defs rfl) .nil), ⟨by decide +kernel, rfl, rfl, by decide +kernel, rfl, rfl, rfl⟩⟩
theorem in_check_dimen (kn : Kn K) : Inn K 122 fd_check_dimen := ⟨kn.fns.get 3 rfl, .cons rfl (kn.g_ints rfl) (.cons rfl (kn.g_defs rfl) .nil), ⟨by decide +kernel, rfl, rfl, by decide +kernel, rfl, rfl, rfl⟩⟩
theorem in_badness (kn : Kn K) : Inn K 164 fd_badness := ⟨kn.fns.get 4 rfl, .cons rfl (kn.g_ints rfl) .nil, ⟨by decide +kernel, rfl, rfl, by decide +kernel, rfl, rfl, rfl⟩⟩
theorem in_Glue_init (kn : Kn K) : Inn K 193 fd_Glue_init := ⟨kn.fns.get 5 rfl, .cons rfl (kn.g_defs rfl) (.cons rfl (kn.g_ints rfl) (.cons rfl (kn.g_ints rfl) (.cons rfl (kn.g_defs rfl) .nil))), ⟨by decide +kernel, rfl, rfl, by decide +kernel, rfl, rfl, rfl⟩⟩
theorem in_Glue_initE (kn : Kn K) : Inn K 193 fd_Glue_initE := ⟨kn.fns.get 6 rfl, .cons rfl (kn.g_defs rfl) (.cons rfl (kn.g_ints rfl) (.cons rfl (kn.g_ints rfl) (.cons rfl (kn.g_defs rfl) .nil))), ⟨by decide +kernel, rfl, rfl, by decide +kernel, rfl, rfl, rfl⟩⟩
theorem in_top_order (kn : Kn K) : Inn K 257 fd_top_order := ⟨kn.fns.get 7 rfl, .cons rfl (kn.g_ints rfl) (.cons rfl (kn.g_ints rfl) (.cons rfl (kn.g_ints rfl) (.cons rfl (kn.g_ints rfl) .nil))), ⟨by decide +kernel, rfl, rfl, by decide +kernel, rfl, rfl, rfl⟩⟩
theorem in_Totals_init (kn : Kn K) : Inn K 271 fd_Totals_init := ⟨kn.fns.get 8 rfl, .nil, ⟨by decide +kernel, rfl, rfl, by decide +kernel, rfl, rfl, rfl⟩⟩
theorem in_Totals_add (kn : Kn K) : Inn K 278 fd_Totals_add := ⟨kn.fns.get 9 rfl, .nil, ⟨by decide +kernel, rfl, rfl, by decide +kernel, rfl, rfl, rfl⟩⟩
theorem in_Totals_widen (kn : Kn K) : Inn K 285 fd_Totals_widen := ⟨kn.fns.get 10 rfl, .nil, ⟨by decide +kernel, rfl, rfl, by decide +kernel, rfl, rfl, rfl⟩⟩
theorem in_Totals_stretch_top (kn : Kn K) : Inn K 292 fd_Totals_stretch_top := ⟨kn.fns.get 11 rfl, .cons rfl (kn.g_defs rfl) .nil, ⟨by decide +kernel, rfl, rfl, by decide +kernel, rfl, rfl, rfl⟩⟩
theorem in_Totals_shrink_top (kn : Kn K) : Inn K 299 fd_Totals_shrink_top := ⟨kn.fns.get 12 rfl, .cons rfl (kn.g_defs rfl) .nil, ⟨by decide +kernel, rfl, rfl, by decide +kernel, rfl, rfl, rfl⟩⟩
theorem in_Box_init (kn : Kn K) : Inn K 351 fd_Box_init := ⟨kn.fns.get 13 rfl, .cons rfl (kn.g_defs rfl) (.cons rfl (kn.g_ints rfl) (.cons rfl (kn.g_ints rfl) (.cons rfl (kn.g_defs rfl) (.cons rfl (kn.g_ints rfl) .nil)))), ⟨by decide +kernel, rfl, rfl, by decide +kernel, rfl, rfl, rfl⟩⟩
theorem in_Rule_init (kn : Kn K) : Inn K 372 fd_Rule_init := ⟨kn.fns.get 14 rfl, .cons rfl (kn.g_defs rfl) .nil, ⟨by decide +kernel, rfl, rfl, by decide +kernel, rfl, rfl, rfl⟩⟩
theorem in_Kern_init (kn : Kn K) : Inn K 393 fd_Kern_init := ⟨kn.fns.get 15 rfl, .cons rfl (kn.g_defs rfl) (.cons rfl (kn.g_ints rfl) (.cons rfl (kn.g_ints rfl) (.cons rfl (kn.g_defs rfl) .nil))), ⟨by decide +kernel, rfl, rfl, by decide +kernel, rfl, rfl, rfl⟩⟩
theorem in_Skip_init (kn : Kn K) : Inn K 415 fd_Skip_init := ⟨kn.fns.get 16 rfl, .cons rfl (kn.g_defs rfl) (.cons rfl (kn.g_ints rfl) (.cons rfl (kn.g_ints rfl) (.cons rfl (kn.g_ints rfl) (.cons rfl (kn.g_ints rfl) (.cons rfl (kn.g_ints rfl) (.cons rfl (kn.g_ints rfl) (.cons rfl (kn.g_ints rfl) .nil))))))), ⟨by decide +kernel, rfl, rfl, by decide +kernel, rfl, rfl, rfl⟩⟩
theorem in_Skip_initE (kn : Kn K) : Inn K 415 fd_Skip_initE := ⟨kn.fns.get 17 rfl, .cons rfl (kn.g_defs rfl) (.cons rfl (kn.g_ints rfl) (.cons rfl (kn.g_ints rfl) (.cons rfl (kn.g_ints rfl) (.cons rfl (kn.g_ints rfl) (.cons rfl (kn.g_ints rfl) (.cons rfl (kn.g_ints rfl) (.cons rfl (kn.g_ints rfl) .nil))))))), ⟨by decide +kernel, rfl, rfl, by decide +kernel, rfl, rfl, rfl⟩⟩
theorem in_Penalty_init (kn : Kn K) : Inn K 436 fd_Penalty_init := ⟨kn.fns.get 18 rfl, .cons rfl (kn.g_defs rfl) .nil, ⟨by decide +kernel, rfl, rfl, by decide +kernel, rfl, rfl, rfl⟩⟩
theorem in_Mark_init (kn : Kn K) : Inn K 457 fd_Mark_init := ⟨kn.fns.get 19 rfl, .cons rfl (kn.g_bis rfl) .nil, ⟨by decide +kernel, rfl, rfl, by decide +kernel, rfl, rfl, rfl⟩⟩
theorem in_Special_init (kn : Kn K) : Inn K 478 fd_Special_init := ⟨kn.fns.get 20 rfl, .cons rfl (kn.g_bis rfl) (.cons rfl (kn.g_bis rfl) (.cons rfl (kn.g_bis rfl) (.cons rfl (kn.g_bis rfl) (.cons rfl (kn.g_bis rfl) (.cons rfl (kn.g_defs rfl) .nil))))), ⟨by decide +kernel, rfl, rfl, by decide +kernel, rfl, rfl, rfl⟩⟩
theorem in_width_of (kn : Kn K) : Inn K 490 fd_width_of := ⟨kn.fns.get 21 rfl, .cons rfl (kn.g_ints rfl) (.cons rfl (kn.g_ints rfl) (.cons rfl (kn.g_ints rfl) (.cons rfl (kn.g_ints rfl) (.cons rfl (kn.g_ints rfl) (.cons rfl (kn.g_ints rfl) (.cons rfl (kn.g_ints rfl) (.cons rfl (kn.g_ints rfl) (.cons rfl (kn.g_ints rfl) (.cons rfl (kn.g_ints rfl) .nil))))))))), ⟨by decide +kernel, rfl, rfl, by decide +kernel, rfl, rfl, rfl⟩⟩
theorem in_height_of (kn : Kn K) : Inn K 495 fd_height_of := ⟨kn.fns.get 22 rfl, .cons rfl (kn.g_ints rfl) (.cons rfl (kn.g_ints rfl) (.cons rfl (kn.g_ints rfl) (.cons rfl (kn.g_ints rfl) (.cons rfl (kn.g_ints rfl) (.cons rfl (kn.g_ints rfl) (.cons rfl (kn.g_ints rfl) (.cons rfl (kn.g_defs rfl) (.cons rfl (kn.g_ints rfl) (.cons rfl (kn.g_bis rfl) .nil))))))))), ⟨by decide +kernel, rfl, rfl, by decide +kernel, rfl, rfl, rfl⟩⟩
theorem in_depth_of (kn : Kn K) : Inn K 500 fd_depth_of := ⟨kn.fns.get 23 rfl, .cons rfl (kn.g_ints rfl) (.cons rfl (kn.g_ints rfl) (.cons rfl (kn.g_ints rfl) (.cons rfl (kn.g_ints rfl) (.cons rfl (kn.g_ints rfl) (.cons rfl (kn.g_ints rfl) (.cons rfl (kn.g_ints rfl) (.cons rfl (kn.g_defs rfl) (.cons rfl (kn.g_ints rfl) (.cons rfl (kn.g_bis rfl) .nil))))))))), ⟨by decide +kernel, rfl, rfl, by decide +kernel, rfl, rfl, rfl⟩⟩
theorem in_is_discardable (kn : Kn K) : Inn K 521 fd_is_discardable := ⟨kn.fns.get 24 rfl, .cons rfl (kn.g_ints rfl) (.cons rfl (kn.g_ints rfl) (.cons rfl (kn.g_ints rfl) (.cons rfl (kn.g_ints rfl) .nil))), ⟨by decide +kernel, rfl, rfl, by decide +kernel, rfl, rfl, rfl⟩⟩
theorem in_is_breakable_ahead (kn : Kn K) : Inn K 528 fd_is_breakable_ahead := ⟨kn.fns.get 25 rfl, .cons rfl (kn.g_defs rfl) .nil, ⟨by decide +kernel, rfl, rfl, by decide +kernel, rfl, rfl, rfl⟩⟩
theorem in_across (kn : Kn K) : Inn K 543 fd_across := ⟨kn.fns.get 26 rfl, .cons rfl (kn.g_ints rfl) (.cons rfl (kn.g_ints rfl) (.cons rfl (kn.g_ints rfl) (.cons rfl (kn.g_defs rfl) (.cons rfl (kn.g_ints rfl) .nil)))), ⟨by decide +kernel, rfl, rfl, by decide +kernel, rfl, rfl, rfl⟩⟩
theorem in_check_column (kn : Kn K) : Inn K 550 fd_check_column := ⟨kn.fns.get 27 rfl, .cons rfl (kn.g_ints rfl) (.cons rfl (kn.g_ints rfl) (.cons rfl (kn.g_ints rfl) (.cons rfl (kn.g_ints rfl) .nil))), ⟨by decide +kernel, rfl, rfl, by decide +kernel, rfl, rfl, rfl⟩⟩
theorem in_natural_column (kn : Kn K) : Inn K 557 fd_natural_column := ⟨kn.fns.get 28 rfl, .cons rfl (kn.g_defs rfl) (.cons rfl (kn.g_defs rfl) (.cons rfl (kn.g_bis rfl) (.cons rfl (kn.g_defs rfl) (.cons rfl (kn.g_ints rfl) (.cons rfl (kn.g_ints rfl) (.cons rfl (kn.g_ints rfl) (.cons rfl (kn.g_ints rfl) (.cons rfl (kn.g_ints rfl) (.cons rfl (kn.g_ints rfl) (.cons rfl (kn.g_defs rfl) (.cons rfl (kn.g_defs rfl) .nil))))))))))), ⟨by decide +kernel, rfl, rfl, by decide +kernel, rfl, rfl, rfl⟩⟩
theorem in_quotient (kn : Kn K) : Inn K 564 fd_quotient := ⟨kn.fns.get 29 rfl, .nil, ⟨by decide +kernel, rfl, rfl, by decide +kernel, rfl, rfl, rfl⟩⟩
theorem in_set_glue (kn : Kn K) : Inn K 571 fd_set_glue := ⟨kn.fns.get 30 rfl, .cons rfl (kn.g_ints rfl) (.cons rfl (kn.g_ints rfl) (.cons rfl (kn.g_ints rfl) (.cons rfl (kn.g_ints rfl) (.cons rfl (kn.g_ints rfl) (.cons rfl (kn.g_defs rfl) (.cons rfl (kn.g_bis rfl) (.cons rfl (kn.g_ints rfl) (.cons rfl (kn.g_ints rfl) (.cons rfl (kn.g_ints rfl) (.cons rfl (kn.g_defs rfl) .nil)))))))))), ⟨by decide +kernel, rfl, rfl, by decide +kernel, rfl, rfl, rfl⟩⟩
theorem in_goal_size (kn : Kn K) : Inn K 578 fd_goal_size := ⟨kn.fns.get 31 rfl, .cons rfl (kn.g_ints rfl) (.cons rfl (kn.g_ints rfl) (.cons rfl (kn.g_defs rfl) .nil)), ⟨by decide +kernel, rfl, rfl, by decide +kernel, rfl, rfl, rfl⟩⟩
theorem in_set_box (kn : Kn K) : Inn K 585 fd_set_box := ⟨kn.fns.get 32 rfl, .cons rfl (kn.g_defs rfl) (.cons rfl (kn.g_ints rfl) .nil), ⟨by decide +kernel, rfl, rfl, by decide +kernel, rfl, rfl, rfl⟩⟩
theorem in_vpack (kn : Kn K) : Inn K 593 fd_vpack := ⟨kn.fns.get 33 rfl, .cons rfl (kn.g_defs rfl) (.cons rfl (kn.g_defs rfl) (.cons rfl (kn.g_defs rfl) (.cons rfl (kn.g_defs rfl) (.cons rfl (kn.g_ints rfl) (.cons rfl (kn.g_defs rfl) .nil))))), ⟨by decide +kernel, rfl, rfl, by decide +kernel, rfl, rfl, rfl⟩⟩
theorem in_check_finite (kn : Kn K) : Inn K 695 fd_check_finite := ⟨kn.fns.get 34 rfl, .cons rfl (kn.g_ints rfl) .nil, ⟨by decide +kernel, rfl, rfl, by decide +kernel, rfl, rfl, rfl⟩⟩
theorem in_Page_init (kn : Kn K) : Inn K 737 fd_Page_init := ⟨kn.fns.get 35 rfl, .nil, ⟨by decide +kernel, rfl, rfl, by decide +kernel, rfl, rfl, rfl⟩⟩
theorem in_PageBuilder_init (kn : Kn K) : Inn K 759 fd_PageBuilder_init := ⟨kn.fns.get 36 rfl, .cons rfl (kn.g_defs rfl) (.cons rfl (kn.g_defs rfl) .nil), ⟨by decide +kernel, rfl, rfl, by decide +kernel, rfl, rfl, rfl⟩⟩
theorem in_PageBuilder_start (kn : Kn K) : Inn K 766 fd_PageBuilder_start := ⟨kn.fns.get 37 rfl, .cons rfl (kn.g_ints rfl) .nil, ⟨by decide +kernel, rfl, rfl, by decide +kernel, rfl, rfl, rfl⟩⟩
theorem in_PageBuilder_clear (kn : Kn K) : Inn K 773 fd_PageBuilder_clear := ⟨kn.fns.get 38 rfl, .nil, ⟨by decide +kernel, rfl, rfl, by decide +kernel, rfl, rfl, rfl⟩⟩
theorem in_PageBuilder_freeze (kn : Kn K) : Inn K 780 fd_PageBuilder_freeze := ⟨kn.fns.get 39 rfl, .nil, ⟨by decide +kernel, rfl, rfl, by decide +kernel, rfl, rfl, rfl⟩⟩
theorem in_PageBuilder_contribute (kn : Kn K) : Inn K 808 fd_PageBuilder_contribute := ⟨kn.fns.get 40 rfl, .cons rfl (kn.g_tups (l := [2, 3, 4, 5, 6, 7, 9, 10, 13]) rfl) .nil, ⟨by decide +kernel, rfl, rfl, by decide +kernel, rfl, rfl, rfl⟩⟩
theorem in_PageBuilder_build (kn : Kn K) : Inn K 815 fd_PageBuilder_build := ⟨kn.fns.get 41 rfl, .cons rfl (kn.g_ints rfl) (.cons rfl (kn.g_ints rfl) (.cons rfl (kn.g_defs rfl) (.cons rfl (kn.g_ints rfl) (.cons rfl (kn.g_bis rfl) (.cons rfl (kn.g_tups (l := [2, 3, 4]) rfl) (.cons rfl (kn.g_defs rfl) .nil)))))), ⟨by decide +kernel, rfl, rfl, by decide +kernel, rfl, rfl, rfl⟩⟩
theorem in_PageBuilder_remember (kn : Kn K) : Inn K 822 fd_PageBuilder_remember := ⟨kn.fns.get 42 rfl, .cons rfl (kn.g_ints rfl) (.cons rfl (kn.g_ints rfl) (.cons rfl (kn.g_ints rfl) .nil)), ⟨by decide +kernel, rfl, rfl, by decide +kernel, rfl, rfl, rfl⟩⟩
theorem in_PageBuilder_begin (kn : Kn K) : Inn K 829 fd_PageBuilder_begin := ⟨kn.fns.get 43 rfl, .cons rfl (kn.g_defs rfl) (.cons rfl (kn.g_bis rfl) (.cons rfl (kn.g_defs rfl) (.cons rfl (kn.g_defs rfl) (.cons rfl (kn.g_ints rfl) (.cons rfl (kn.g_ints rfl) (.cons rfl (kn.g_defs rfl) (.cons rfl (kn.g_ints rfl) .nil))))))), ⟨by decide +kernel, rfl, rfl, by decide +kernel, rfl, rfl, rfl⟩⟩
theorem in_PageBuilder_penalty_ahead (kn : Kn K) : Inn K 836 fd_PageBuilder_penalty_ahead := ⟨kn.fns.get 44 rfl, .cons rfl (kn.g_ints rfl) (.cons rfl (kn.g_ints rfl) (.cons rfl (kn.g_defs rfl) (.cons rfl (kn.g_ints rfl) .nil))), ⟨by decide +kernel, rfl, rfl, by decide +kernel, rfl, rfl, rfl⟩⟩
theorem in_PageBuilder_cost (kn : Kn K) : Inn K 843 fd_PageBuilder_cost := ⟨kn.fns.get 45 rfl, .cons rfl (kn.g_ints rfl) (.cons rfl (kn.g_ints rfl) (.cons rfl (kn.g_ints rfl) (.cons rfl (kn.g_defs rfl) (.cons rfl (kn.g_ints rfl) (.cons rfl (kn.g_ints rfl) .nil))))), ⟨by decide +kernel, rfl, rfl, by decide +kernel, rfl, rfl, rfl⟩⟩
theorem in_PageBuilder_tried (kn : Kn K) : Inn K 850 fd_PageBuilder_tried := ⟨kn.fns.get 46 rfl, .cons rfl (kn.g_ints rfl) (.cons rfl (kn.g_defs rfl) (.cons rfl (kn.g_bis rfl) (.cons rfl (kn.g_ints rfl) (.cons rfl (kn.g_bis rfl) (.cons rfl (kn.g_ints rfl) (.cons rfl (kn.g_ints rfl) .nil)))))), ⟨by decide +kernel, rfl, rfl, by decide +kernel, rfl, rfl, rfl⟩⟩
theorem in_PageBuilder_take (kn : Kn K) : Inn K 857 fd_PageBuilder_take := ⟨kn.fns.get 47 rfl, .cons rfl (kn.g_ints rfl) (.cons rfl (kn.g_tups (l := [2, 3, 4]) rfl) (.cons rfl (kn.g_defs rfl) (.cons rfl (kn.g_defs rfl) (.cons rfl (kn.g_ints rfl) (.cons rfl (kn.g_ints rfl) .nil))))), ⟨by decide +kernel, rfl, rfl, by decide +kernel, rfl, rfl, rfl⟩⟩
theorem in_law_heap (kn : Kn K) : Inn K 885 fd_law_heap := ⟨kn.fns.get 48 rfl, .cons rfl (kn.g_bis rfl) (.cons rfl (kn.g_bis rfl) .nil), ⟨by decide +kernel, rfl, rfl, by decide +kernel, rfl, rfl, rfl⟩⟩
theorem in_law_take (kn : Kn K) : Inn K 892 fd_law_take := ⟨kn.fns.get 49 rfl, .nil, ⟨by decide +kernel, rfl, rfl, by decide +kernel, rfl, rfl, rfl⟩⟩
theorem in_law_skip (kn : Kn K) : Inn K 899 fd_law_skip := ⟨kn.fns.get 50 rfl, .cons rfl (kn.g_defs rfl) (.cons rfl (kn.g_defs rfl) (.cons rfl (kn.g_defs rfl) (.cons rfl (kn.g_defs rfl) (.cons rfl (kn.g_ints rfl) .nil)))), ⟨by decide +kernel, rfl, rfl, by decide +kernel, rfl, rfl, rfl⟩⟩
theorem in_law_standing (kn : Kn K) : Inn K 906 fd_law_standing := ⟨kn.fns.get 51 rfl, .cons rfl (kn.g_defs rfl) (.cons rfl (kn.g_defs rfl) (.cons rfl (kn.g_defs rfl) (.cons rfl (kn.g_ints rfl) .nil))), ⟨by decide +kernel, rfl, rfl, by decide +kernel, rfl, rfl, rfl⟩⟩
theorem in_law_gap (kn : Kn K) : Inn K 913 fd_law_gap := ⟨kn.fns.get 52 rfl, .cons rfl (kn.g_defs rfl) (.cons rfl (kn.g_defs rfl) (.cons rfl (kn.g_defs rfl) (.cons rfl (kn.g_defs rfl) (.cons rfl (kn.g_defs rfl) (.cons rfl (kn.g_defs rfl) .nil))))), ⟨by decide +kernel, rfl, rfl, by decide +kernel, rfl, rfl, rfl⟩⟩
theorem in_law_price (kn : Kn K) : Inn K 918 fd_law_price := ⟨kn.fns.get 53 rfl, .cons rfl (kn.g_ints rfl) (.cons rfl (kn.g_ints rfl) (.cons rfl (kn.g_ints rfl) .nil)), ⟨by decide +kernel, rfl, rfl, by decide +kernel, rfl, rfl, rfl⟩⟩
theorem in_law_cost (kn : Kn K) : Inn K 925 fd_law_cost := ⟨kn.fns.get 54 rfl, .cons rfl (kn.g_defs rfl) (.cons rfl (kn.g_ints rfl) (.cons rfl (kn.g_ints rfl) .nil)), ⟨by decide +kernel, rfl, rfl, by decide +kernel, rfl, rfl, rfl⟩⟩
theorem in_law_end (kn : Kn K) : Inn K 932 fd_law_end := ⟨kn.fns.get 55 rfl, .cons rfl (kn.g_bis rfl) (.cons rfl (kn.g_bis rfl) (.cons rfl (kn.g_defs rfl) (.cons rfl (kn.g_defs rfl) (.cons rfl (kn.g_ints rfl) .nil)))), ⟨by decide +kernel, rfl, rfl, by decide +kernel, rfl, rfl, rfl⟩⟩
theorem in_law_right (kn : Kn K) : Inn K 939 fd_law_right := ⟨kn.fns.get 56 rfl, .cons rfl (kn.g_defs rfl) (.cons rfl (kn.g_bis rfl) (.cons rfl (kn.g_defs rfl) (.cons rfl (kn.g_bis rfl) (.cons rfl (kn.g_ints rfl) .nil)))), ⟨by decide +kernel, rfl, rfl, by decide +kernel, rfl, rfl, rfl⟩⟩
theorem in_law (kn : Kn K) : Inn K 946 fd_law := ⟨kn.fns.get 57 rfl, .cons rfl (kn.g_defs rfl) (.cons rfl (kn.g_defs rfl) (.cons rfl (kn.g_defs rfl) (.cons rfl (kn.g_defs rfl) (.cons rfl (kn.g_bis rfl) (.cons rfl (kn.g_defs rfl) (.cons rfl (kn.g_defs rfl) (.cons rfl (kn.g_bis rfl) (.cons rfl (kn.g_defs rfl) (.cons rfl (kn.g_defs rfl) .nil))))))))), ⟨by decide +kernel, rfl, rfl, by decide +kernel, rfl, rfl, rfl⟩⟩
end
end
section
open PySem PySem.W PyProof.Rows PySem.Calls PySem.Spec
/-- where a def stands -/
structure Cx where
  prog : Program
  w : World
  A : Around
  g : Heap
  L : Addr
  name : Str
  scope : Scope
  f : Addr
  cd : Value
  K : Frag
noncomputable abbrev Cx.env (cx : Cx) : Env := envOf cx.name cx.scope cx.L cx.f cx.cd
structure Cx.Ok (cx : Cx) (n : Nat) : Prop where
  kin : cx.K.In cx.g
  kn : Kn cx.K
  top : ∃ p loose mg mb, TopRead p loose mg mb cx.g
  depth : cx.A.depth + n < recursionLimit
  units : cx.A.units + 8 * n + 100 < cLine
  handled : cx.A.handled = none
  kind : cx.scope.kind = .function
  nodebug : cx.scope.names.lookup ("__debug__" : Str) = none

structure Rel (cx : Cx) (B : Base) (σ : AS) (h : Heap) : Prop where
  keep : ∀ b o, B b = some o → h.get? b = some o
  gB : ∀ b o, cx.g.get? b = some o → B b = some o
  ns : ∃ m, h.Ns cx.L m ∧ ∀ x v, σ.loc.lookup x = some v → cx.scope.names.lookup x = some .local ∧ ∃ y, m x = some y ∧ Rep B v y
  tab : ∀ p ∈ σ.T, ObjAt B h p.1 p.2
  nodup : (cx.L :: addrs σ.T).Nodup
  off : ∀ a ∈ cx.L :: addrs σ.T, B a = none

/-- what a step may do -/
structure Stp (L : Addr) (B : Base) (h : Heap) (T : Led) (B' : Base) (h' : Heap) (T' : Led) : Prop where
  ext : ∀ b o, h.get? b = some o → b ≠ L → b ∉ addrs T → h'.get? b = some o
  bm : BLe B B'
  newT : ∀ a ∈ addrs T', a ∈ addrs T ∨ h.get? a = none
  newB : ∀ b o, B' b = some o → B b = some o ∨ b ∈ addrs T ∨ h.get? b = none

theorem Stp.refl (L : Addr) (B : Base) (h : Heap) (T : Led) : Stp L B h T B h T := ⟨fun _ _ e _ _ => e, .refl B, fun _ h => .inl h, fun _ _ e => .inl e⟩
theorem Stp.trans {L : Addr} {B B' B'' : Base} {h h' h'' : Heap} {T T' T'' : Led} (x : Stp L B h T B' h' T') (y : Stp L B' h' T' B'' h'' T'') (hL : L ∉ addrs T'') (hB : B'' L = none) : Stp L B h T B'' h'' T'' := by
  have key : ∀ b, h'.get? b = none → b ≠ L → b ∈ addrs T ∨ h.get? b = none := by
    intro b e hb
    cases q : h.get? b with
    | none => exact .inr rfl
    | some o =>
      by_cases hT : b ∈ addrs T
      · exact .inl hT
      · rw [x.ext b o q hb hT] at e; cases e
  refine ⟨fun b o e n1 n2 => y.ext b o (x.ext b o e n1 n2) n1 fun q => ?_, x.bm.trans y.bm, fun a ha => ?_, fun b o e => ?_⟩
  · rcases x.newT b q with q | q
    · exact n2 q
    · rw [e] at q; cases q
  · rcases y.newT a ha with q | q
    · exact x.newT a q
    · exact key a q fun r => hL (r ▸ ha)
  · rcases y.newB b o e with q | q | q
    · exact x.newB b o q
    · rcases x.newT b q with q | q
      · exact .inr (.inl q)
      · exact .inr (.inr q)
    · exact .inr (key b q fun r => by rw [r, hB] at e; cases e)

structure Nx (cx : Cx) (B : Base) (σ : AS) (h : Heap) (B' : Base) (σ' : AS) (h' : Heap) : Prop where
  rel : Rel cx B' σ' h'
  stp : Stp cx.L B h σ.T B' h' σ'.T
theorem Nx.refl {cx : Cx} {B : Base} {σ : AS} {h : Heap} (r : Rel cx B σ h) : Nx cx B σ h B σ h := ⟨r, .refl ..⟩
theorem Rel.Lnot {cx : Cx} {B : Base} {σ : AS} {h : Heap} (r : Rel cx B σ h) : cx.L ∉ addrs σ.T := (List.nodup_cons.mp r.nodup).1
theorem Rel.Lnone {cx : Cx} {B : Base} {σ : AS} {h : Heap} (r : Rel cx B σ h) : B cx.L = none := r.off _ (.head _)
theorem Nx.trans {cx : Cx} {B B' B'' : Base} {σ σ' σ'' : AS} {h h' h'' : Heap} (x : Nx cx B σ h B' σ' h') (y : Nx cx B' σ' h' B'' σ'' h'') : Nx cx B σ h B'' σ'' h'' := ⟨y.rel, x.stp.trans y.stp y.rel.Lnot y.rel.Lnone⟩

/-- a step from a given state -/
noncomputable def At {α β : Type} (cx : Cx) (S : Base → β → α → Prop) (B : Base) (σ : AS) (s : Shared) (m : Sem α) (k : β → AS → Prop) : Prop :=
  ∀ (Q : α → Shared → Prop) (E : Value → Shared → Prop), (∀ B' b σ' y h' tk, Nx cx B σ s.heap B' σ' h' → S B' b y → k b σ' → Q y { s with heap := h', toks := tk }) → wpAny (model cx.prog cx.w) cx.A m Q E s
noncomputable def Tr {α β : Type} (cx : Cx) (S : Base → β → α → Prop) (m : Sem α) (σ : AS) (k : β → AS → Prop) : Prop := ∀ B s, Rel cx B σ s.heap → At cx S B σ s m k

section
variable {α β γ δ : Type} {cx : Cx} {S : Base → β → α → Prop} {S' : Base → δ → γ → Prop} {B : Base} {σ : AS} {s : Shared}
theorem At.bind {m : Sem α} {f : α → Sem γ} {k1 : β → AS → Prop} {k2 : δ → AS → Prop} (h : At cx S B σ s m k1)
    (hf : ∀ B1 b σ1 y h1 tk1, Nx cx B σ s.heap B1 σ1 h1 → S B1 b y → k1 b σ1 → At cx S' B1 σ1 { s with heap := h1, toks := tk1 } (f y) k2) : At cx S' B σ s (m >>= f) k2 := by
  intro Q E hQ
  refine wpAny_bind (h _ E fun B1 b σ1 y h1 tk1 n1 r1 e1 => hf B1 b σ1 y h1 tk1 n1 r1 e1 Q E fun B' b' σ' y' h' tk' n' r' e' => hQ B' b' σ' y' h' tk' (n1.trans n') r' e')
theorem At.pure {y : α} {b : β} {k : β → AS → Prop} (hR : Rel cx B σ s.heap) (hS : S B b y) (hk : k b σ) : At cx S B σ s (pure y) k := fun _ _ hQ => wpAny_pure (hQ B b σ y _ s.toks (.refl hR) hS hk)
theorem At.stand {m : Unit → Sem α} {pos : Pos} {k : β → AS → Prop} (h : At cx S B σ s (m ()) k) : At cx S B σ s (standAt pos >>= m) k := fun Q E hQ => wpAny_bind (wpAny_standAt (h Q E hQ))
theorem At.hold {m : Sem α} {vs : List Value} {k : β → AS → Prop} (h : At cx S B σ s m k) : At cx S B σ s (holding vs m) k := fun Q E hQ => wpAny_holding (h Q E hQ)
theorem At.of_eq {m m' : Sem α} {k : β → AS → Prop} (e : m = m') (h : At cx S B σ s m' k) : At cx S B σ s m k := e ▸ h
theorem At.mono {m : Sem α} {k k' : β → AS → Prop} (h : At cx S B σ s m k) (hk : ∀ b σ, k b σ → k' b σ) : At cx S B σ s m k' := fun Q E hQ => h Q E fun B' b σ' y h' tk n r e => hQ B' b σ' y h' tk n r (hk b σ' e)
/-- only the toks move -/
theorem At.now {m : Sem α} {y : α} {b : β} {tk : Tok} {k : β → AS → Prop} (hR : Rel cx B σ s.heap) (h : ∀ (Q : α → Shared → Prop) (E : Value → Shared → Prop), Q y { s with toks := tk } → wpAny (model cx.prog cx.w) cx.A m Q E s) (hS : S B b y) (hk : k b σ) : At cx S B σ s m k :=
  fun Q E hQ => h Q E (hQ B b σ y _ tk (.refl hR) hS hk)
theorem At.seq {m : Sem PUnit} {f : PUnit → Sem γ} {k2 : δ → AS → Prop} (h : ∀ (Q : PUnit → Shared → Prop) (E : Value → Shared → Prop), Q ⟨⟩ s → wpAny (model cx.prog cx.w) cx.A m Q E s) (hf : At cx S' B σ s (f ⟨⟩) k2) : At cx S' B σ s (m >>= f) k2 := fun Q E hQ => wpAny_bind (h _ E (hf Q E hQ))
end
theorem mem_addrs {T : Led} {p : Addr × AObj} {a : Addr} (hp : p ∈ T) (ha : a ∈ fpt p) : a ∈ addrs T := List.mem_flatMap.mpr ⟨p, hp, ha⟩

section
variable {cx : Cx} {B : Base} {σ : AS} {h : Heap}
theorem Rel.kin (r : Rel cx B σ h) {n : Nat} (ok : cx.Ok n) : cx.K.In h := fun a o e => r.keep _ _ (r.gB _ _ (ok.kin a o e))
theorem Rel.hasT (r : Rel cx B σ h) {a : Addr} (ha : a ∈ addrs σ.T) : ∃ o, h.get? a = some o := by
  obtain ⟨p, hp, ha⟩ := List.mem_flatMap.mp ha
  exact (r.tab p hp).has a ha
theorem Rel.hasL (r : Rel cx B σ h) : ∃ o, h.get? cx.L = some o := let ⟨_, ⟨o, _, _, e, _⟩, _⟩ := r.ns; ⟨o, e⟩
/-- new things are laid, nothing that stood is touched -/
theorem Rel.grow (r : Rel cx B σ h) {h' : Heap} (hk : ∀ b o, h.get? b = some o → h'.get? b = some o) : Nx cx B σ h B σ h' :=
  ⟨⟨fun b o e => hk b o (r.keep b o e), r.gB, let ⟨m, hn, hm⟩ := r.ns; ⟨m, hn.keeps hk, hm⟩, fun p hp => (r.tab p hp).mono (.refl B) fun b _ o e => hk b o e, r.nodup, r.off⟩, fun b o e _ _ => hk b o e, .refl B, fun _ h => .inl h, fun _ _ e => .inl e⟩
/-- a thing laid anew never changes -/
noncomputable def bset (B : Base) (a : Addr) (o : Obj) : Base := fun b => if b = a then some o else B b
theorem bset_self {B : Base} {a : Addr} {o : Obj} : bset B a o a = some o := if_pos rfl
theorem bset_le {B : Base} {a : Addr} {o : Obj} (h : B a = none) : BLe B (bset B a o) := fun b o' e => by
  unfold bset
  by_cases q : b = a
  · subst q; rw [h] at e; cases e
  · rw [if_neg q]; exact e
theorem Rel.none_of (r : Rel cx B σ h) {a : Addr} (ha : h.get? a = none) : B a = none := by
  cases q : B a with
  | none => rfl
  | some o => rw [r.keep _ _ q] at ha; cases ha
theorem Rel.freezeNew (r : Rel cx B σ h) {h' : Heap} {a : Addr} {o : Obj} (ha : h.get? a = none) (hk : ∀ b o, h.get? b = some o → h'.get? b = some o) (ho : h'.get? a = some o) : Nx cx B σ h (bset B a o) σ h' := by
  have le : BLe B (bset B a o) := bset_le (r.none_of ha)
  refine ⟨⟨fun b o' e => ?_, fun b o' e => le _ _ (r.gB b o' e), let ⟨m, hn, hm⟩ := r.ns; ⟨m, hn.keeps hk, fun x v e => let ⟨a1, y, a2, a3⟩ := hm x v e; ⟨a1, y, a2, a3.mono le⟩⟩, fun p hp => (r.tab p hp).mono le fun b _ o e => hk b o e, r.nodup, fun b hb => ?_⟩,
    fun b o e _ _ => hk b o e, le, fun _ h => .inl h, fun b o' e => ?_⟩
  · unfold bset at e
    split at e
    · rename_i q; cases e; subst q; exact ho
    · exact hk _ _ (r.keep _ _ e)
  · have : b ≠ a := fun q => by
      subst q
      rcases List.mem_cons.mp hb with q | q
      · obtain ⟨o, e⟩ := r.hasL; rw [q] at ha; rw [ha] at e; cases e
      · obtain ⟨o, e⟩ := r.hasT q; rw [ha] at e; cases e
    show (if b = a then some o else B b) = none
    rw [if_neg this]; exact r.off b hb
  · unfold bset at e
    split at e
    · rename_i q; subst q; exact .inr (.inr ha)
    · exact .inl e
theorem push_none (h : Heap) : h.get? h.objs.size = none := by
  cases q : h.get? h.objs.size with
  | none => rfl
  | some o => exact absurd (Heap.lt_size q) (Nat.lt_irrefl _)
end
theorem addrs_app (T T' : Led) : addrs (T ++ T') = addrs T ++ addrs T' := List.flatMap_append
noncomputable def Wk (T T' : Led) : Prop := ∃ X, (T' ++ X).Perm T
theorem Wk.refl (T : Led) : Wk T T := ⟨[], by simp⟩
theorem Wk.mem {T T' : Led} (w : Wk T T') {p : Addr × AObj} (h : p ∈ T') : p ∈ T := let ⟨_, q⟩ := w; q.mem_iff.mp (List.mem_append_left _ h)
theorem Wk.addr {T T' : Led} (w : Wk T T') {a : Addr} (h : a ∈ addrs T') : a ∈ addrs T := by
  obtain ⟨p, hp, ha⟩ := List.mem_flatMap.mp h
  exact mem_addrs (w.mem hp) ha
theorem Wk.nodup {T T' : Led} (w : Wk T T') (h : (addrs T).Nodup) : (addrs T').Nodup := by
  obtain ⟨X, q⟩ := w
  have := (q.flatMap_right fpt).nodup_iff.mpr h
  rw [show List.flatMap fpt (T' ++ X) = addrs (T' ++ X) from rfl, addrs_app] at this
  exact (List.nodup_append.mp this).1
theorem Wk.trans {T T' T'' : Led} (x : Wk T T') (y : Wk T' T'') : Wk T T'' := by
  obtain ⟨X, p⟩ := x
  obtain ⟨Y, q⟩ := y
  refine ⟨Y ++ X, ?_⟩
  rw [← List.append_assoc]
  exact (q.append_right X).trans p

section
variable {cx cx' : Cx} {B B' : Base} {σ σ' : AS} {h h₁ h' : Heap} {T₀ T₁ R : Led} {loc₀ : List (Str × AV)}
theorem Rel.wk (hR : Rel cx B σ h) {T : Led} (w : Wk σ.T T) : Rel cx B ⟨σ.loc, T⟩ h := by
  obtain ⟨n1, n2⟩ := List.nodup_cons.mp hR.nodup
  refine ⟨hR.keep, hR.gB, hR.ns, fun p hp => hR.tab p (w.mem hp), List.nodup_cons.mpr ⟨fun q => n1 (w.addr q), w.nodup n2⟩, fun a ha => ?_⟩
  rcases List.mem_cons.mp ha with rfl | ha
  · exact hR.Lnone
  · exact hR.off a (.tail _ (w.addr ha))
theorem Nx.wk (N : Nx cx B σ h B' σ' h') {T : Led} (w : Wk σ'.T T) : Nx cx B σ h B' ⟨σ'.loc, T⟩ h' :=
  ⟨N.rel.wk w, N.stp.ext, N.stp.bm, fun a ha => N.stp.newT a (w.addr ha), N.stp.newB⟩

end
/-- names and things are forgotten -/
noncomputable def SubL : List (Str × AV) → List (Str × AV) → Prop
  | [], _ => True
  | (x, v) :: r, l => l.lookup x = some v ∧ SubL r l
theorem SubL.look {l : List (Str × AV)} : ∀ {l' : List (Str × AV)}, SubL l' l → ∀ x v, l'.lookup x = some v → l.lookup x = some v
  | [], _, _, _, e => nomatch e
  | (y, w) :: r, ⟨h1, h2⟩, x, v, e => by
    rw [List.lookup_cons] at e
    cases q : x == y with
    | true => rw [q] at e; rw [eq_of_beq q, h1]; exact e
    | false => rw [q] at e; exact h2.look x v e
structure Ease (σ : AS) (k : AS → Prop) : Prop where
  go : ∃ l T, SubL l σ.loc ∧ Wk σ.T T ∧ k ⟨l, T⟩
theorem Nx.ease {cx : Cx} {B B' : Base} {σ σ' : AS} {h h' : Heap} (N : Nx cx B σ h B' σ' h') {k : AS → Prop} (e : Ease σ' k) : ∃ σ'', Nx cx B σ h B' σ'' h' ∧ (∀ a ∈ addrs σ''.T, a ∈ addrs σ'.T) ∧ k σ'' := by
  obtain ⟨l, T, h1, h2, h3⟩ := e.go
  have N := N.wk h2
  exact ⟨⟨l, T⟩, ⟨⟨N.rel.keep, N.rel.gB, let ⟨m, a, b⟩ := N.rel.ns; ⟨m, a, fun x v e => b x v (h1.look x v e)⟩, N.rel.tab, N.rel.nodup, N.rel.off⟩, N.stp⟩, fun _ q => h2.addr q, h3⟩
end
section
open PySem PySem.W PyProof.Rows PySem.Calls PySem.Spec
inductive Fl where
  | next | brk | cont
  | ret (v : AV)
inductive RepF (B : Base) : Fl → Flow → Prop
  | next : RepF B .next .next
  | brk : RepF B .brk .brk
  | cont : RepF B .cont .cont
  | ret {v y} : Rep B v y → RepF B (.ret v) (.ret y)
noncomputable abbrev KV := AV → AS → Prop
noncomputable abbrev KF := Fl → AS → Prop
noncomputable abbrev KB := Bool → AS → Prop

noncomputable def keepK (a : Addr) : List Addr → Bool
  | [] => false
  | b :: r => cond (Nat.beq a b) true (keepK a r)
/-- on to what follows: evaluation stops here -/
structure NextK (K : AS → Prop) (σ : AS) : Prop where
  go : K σ
/-- evaluation stops here -/
structure Stop (p : Prop) : Prop where
  go : p
structure CallX (cx : Cx) (f : Addr) (args : List AV) (σ : AS) (k : KV) : Prop where
  run : ∀ B s ys, Rel cx B σ s.heap → RepL B args ys → ∀ (R : Result → Shared → Prop), (∀ B' v σ' y h' tk, Nx cx B σ s.heap B' σ' h' → Rep B' v y → k v σ' → R (.ok (.ret y)) { s with heap := h', toks := tk }) →
    codeAny (model cx.prog cx.w) cx.A (.call (.ref f) ⟨ys, []⟩) R s
theorem CallX.at {cx : Cx} {f : Addr} {args : List AV} {σ : AS} {k : KV} (h : CallX cx f args σ k) (B : Base) (s : Shared) (ys : List Value) (hR : Rel cx B σ s.heap) (hr : RepL B args ys) : At cx Rep B σ s (call (.ref f) ys) k :=
  fun _ _ hQ => wpAny_call (h.run B s ys hR hr _ hQ)
/-- a call, from wherever there is room for n more -/
structure CallT (n : Nat) (f : Addr) (args : List AV) (σ : AS) (k : KV) : Prop where
  run : ∀ cx : Cx, cx.Ok n → CallX cx f args σ k
structure CompT (n : Nat) (sc : Scope) (e : PySem.Expr) (σ : AS) (k : KV) : Prop where
  run : ∀ cx : Cx, cx.Ok n → cx.scope = sc → Tr cx Rep (eval e cx.env) σ k

inductive Hole (a : Addr) (o : AObj) : Led → (AObj → Led) → Prop
  | head {r} : Hole a o ((a, o) :: r) (fun o' => (a, o') :: r)
  | tail {p r c} : Hole a o r c → Hole a o (p :: r) (fun o' => p :: c o')

noncomputable def getK (x : Str) : List (Str × AV) → (AV → Prop) → Prop → Prop
  | [], _, e => e
  | (y, w) :: r, k, e => cond (x == y) (k w) (getK x r k e)
noncomputable def setK (x : Str) (v : AV) : List (Str × AV) → (List (Str × AV) → Prop) → Prop
  | [], k => k [(x, v)]
  | (y, w) :: r, k => cond (x == y) (k ((y, v) :: r)) (setK x v r fun r' => k ((y, w) :: r'))
noncomputable def hasK (x : Str) : List (Str × AV) → Bool
  | [] => false
  | (y, _) :: r => cond (x == y) true (hasK x r)
noncomputable def atK {α : Type} (a : Addr) : List (Addr × α) → (α → Prop) → Prop
  | [], _ => False
  | (b, x) :: r, k => cond (Nat.beq a b) (k x) (atK a r k)
noncomputable def nameK (x : Str) : List Str → Bool
  | [] => false
  | y :: r => cond (x == y) true (nameK x r)

noncomputable def assocK {α : Type} (x : Str) : List (Str × α) → (α → Prop) → Prop
  | [], _ => False
  | (y, v) :: r, k => cond (x == y) (k v) (assocK x r k)

noncomputable def getT (a : Addr) (T : Led) (k : AObj → Prop) : Prop := Stop (∃ o, (a, o) ∈ T ∧ k o)
noncomputable def updT (a : Addr) (T : Led) (k : AObj → (AObj → Led) → Prop) : Prop := Stop (∃ o c, Hole a o T c ∧ k o c)

/-- frames: what is left to do, by name -/
noncomputable def atS (k : KV) (σ : AS) (v : AV) : Prop := k v σ
noncomputable def atB (k : KB) (σ : AS) (b : Bool) : Prop := k b σ
noncomputable def clsO (n : Str) (k : AV → Prop) (l : List (Str × AV)) : Prop := getK n l k False
noncomputable def attO (n : Str) (k : AV → Prop) (o : AObj) : Prop := match o with
  | .inst C _ fs => getK n fs k (atK C clsTab (clsO n k))
  | _ => False
noncomputable def lstO (k : List AV → Prop) (o : AObj) : Prop := match o with
  | .list xs => k xs
  | _ => False
noncomputable def attrK (v : AV) (n : Str) (σ : AS) (k : AV → Prop) : Prop := match v with
  | .obj C fs => getK n fs k (atK C clsTab (clsO n k))
  | .ref a => getT a σ.T (attO n k)
  | _ => False
noncomputable def notBi : AV → Bool
  | .bi _ => false
  | _ => true
noncomputable def satO (n : Str) (v : AV) (σ : AS) (k : AS → Prop) (o : AObj) (c : AObj → Led) : Prop := match o with
  | .inst C d fs => atK C fieldTab fun l => cond (nameK n l && (notBi v && Nat.ble fs.length 100)) (setK n v fs fun fs' => NextK k ⟨σ.loc, c (.inst C d fs')⟩) False
  | _ => False
noncomputable def setAttrK (ov : AV) (n : Str) (v : AV) (σ : AS) (k : AS → Prop) : Prop := match ov with
  | .ref a => updT a σ.T (satO n v σ k)
  | _ => False
noncomputable def itemsK (v : AV) (σ : AS) (k : List AV → Prop) : Prop := match v with
  | .lst xs => k xs
  | .tup xs => k xs
  | .ref a => getT a σ.T (lstO k)
  | _ => False
noncomputable def listK (v : AV) (σ : AS) (k : List AV → Prop) : Prop := match v with
  | .lst xs => k xs
  | .ref a => getT a σ.T (lstO k)
  | _ => False
noncomputable def sliK (v : AV) (σ : AS) (k : List AV → Prop) : Prop := match v with
  | .src xs => k xs
  | v => listK v σ k
noncomputable def pyIdx (xs : List AV) (i : Int) : Option AV := cond (decide (0 ≤ i)) xs[i.toNat]? (cond (decide (-(xs.length : Int) ≤ i)) xs[((xs.length : Int) + i).toNat]? none)
noncomputable def idxK (o : Option AV) (k : AV → Prop) : Prop := match o with
  | some v => k v
  | none => False
noncomputable def bndK (v : AV) (k : Option Nat → Prop) : Prop := match v with
  | .none => k none
  | .int i => 0 ≤ i ∧ k (some i.toNat)
  | _ => False
noncomputable def cut (lo hi : Option Nat) (xs : List AV) : List AV := (match hi with | some n => xs.take n | none => xs).drop (lo.getD 0)

noncomputable def intsK : List AV → (List Int → Prop) → Prop
  | [], k => k []
  | .int i :: r, k => intsK r fun ns => k (i :: ns)
  | _ :: _, _ => False
noncomputable def isNone : AV → Bool
  | .none => true
  | _ => false
noncomputable def isNil : List AV → Bool
  | [] => true
  | _ => false
noncomputable def truthK (v : AV) (k : Bool → Prop) : Prop := match v with
  | .bool b => k b
  | .none => k false
  | _ => False
noncomputable def intI (v : AV) (k : Int → Prop) : Prop := match v with
  | .int i => k i
  | _ => False
noncomputable def tupI (v : AV) (k : List AV → Prop) : Prop := match v with
  | .tup xs => k xs
  | _ => False
noncomputable def lstI (v : AV) (k : List AV → Prop) : Prop := match v with
  | .lst xs => k xs
  | _ => False
noncomputable def biI (v : AV) (k : Bi → Prop) : Prop := match v with
  | .bi b => k b
  | _ => False
noncomputable def nilI (xs : List AV) (p : Prop) : Prop := match xs with
  | [] => p
  | _ => False
noncomputable def consI (xs : List AV) (k : AV → List AV → Prop) : Prop := match xs with
  | v :: r => k v r
  | _ => False
noncomputable def noneI (v : AV) (p : Prop) : Prop := match v with
  | .none => p
  | _ => False
noncomputable def eqK (a b : AV) (k : Bool → Prop) : Prop := match a with
  | .int a => intI b fun b => k (decide (a = b))
  | .bool a => match b with
    | .bool b => k (a == b)
    | _ => False
  | .tup xs => tupI b fun ys => intsK xs fun ns => intsK ys fun ms => k (decide (ns = ms))
  | .lst xs => lstI b fun ys => intsK xs fun ns => intsK ys fun ms => k (decide (ns = ms))
  | _ => False
noncomputable def neK (a b : AV) (σ : AS) (k : Bool → Prop) : Prop := match b with
  | .int b => intI a fun a => k (!decide (a = b))
  | .tup ys => tupI a fun xs => intsK xs fun ns => intsK ys fun ms => k (!decide (ns = ms))
  | .lst ys => nilI ys (listK a σ fun xs => k (!isNil xs))
  | _ => False
noncomputable def cmpK (op : CmpOp) (a b : AV) (σ : AS) (k : Bool → Prop) : Prop := match op with
  | .Is => noneI b (k (isNone a))
  | .IsNot => noneI b (k (!isNone a))
  | .Eq => eqK a b k
  | .NotEq => neK a b σ k
  | .Lt => intI a fun a => intI b fun b => k (decide (a < b))
  | .LtE => intI a fun a => intI b fun b => k (decide (a ≤ b))
  | .Gt => intI a fun a => intI b fun b => k (decide (b < a))
  | .GtE => intI a fun a => intI b fun b => k (decide (b ≤ a))
  | .In => intI a fun a => tupI b fun xs => intsK xs fun ns => k (ns.contains a)
  | .NotIn => intI a fun a => tupI b fun xs => intsK xs fun ns => k (!ns.contains a)
noncomputable def addK (a b : AV) (σ : AS) (k : AV → Prop) : Prop := match a with
  | .int a => intI b fun b => k (.int (a + b))
  | a => listK a σ fun xs => listK b σ fun ys => xs.length + ys.length ≤ 1000 ∧ k (.lst (xs ++ ys))
noncomputable def binK (op : Operator) (a b : AV) (σ : AS) (k : AV → Prop) : Prop := match op with
  | .Add => addK a b σ k
  | .Sub => intI a fun a => intI b fun b => k (.int (a - b))
  | .Mult => intI a fun a => intI b fun b => IntMulOk a b ∧ k (.int (a * b))
  | .FloorDiv => intI a fun a => intI b fun b => (b ≠ 0 ∧ b.natAbs < 1073741824) ∧ k (.int (a.fdiv b))
  | .Mod => intI a fun a => intI b fun b => b ≠ 0 ∧ k (.int (a.fmod b))
  | .Pow => intI a fun a => intI b fun b => (2 ≤ a ∧ a ≤ 10 ∧ 1 ≤ b ∧ b ≤ 400) ∧ k (.int (a ^ b.toNat))
  | _ => False
noncomputable def negK (a : AV) (k : AV → Prop) : Prop := match a with
  | .int i => k (.int (-i))
  | _ => False
noncomputable def augK (op : Operator) (a b : AV) (k : AV → Prop) : Prop := match op with
  | .Add => intI a fun a => intI b fun b => k (.int (a + b))
  | _ => False
noncomputable def Bi.num : Bi → Nat
  | .int => 0 | .bool => 1 | .list => 2 | .tuple => 3 | .bytes => 4 | .bytearray => 5 | .range => 6 | .len => 7 | .abs => 8 | .max => 9 | .isinstance => 10 | .sorted => 11
/-- just these types -/
noncomputable def typesK (xs : List AV) : List Bi → Prop → Prop
  | [], p => nilI xs p
  | c :: cs, p => consI xs fun v r => biI v fun b => cond (Nat.beq b.num c.num) (typesK r cs p) False
noncomputable def isiK (v t : AV) (k : Bool → Prop) : Prop := match v with
  | .int _ => biI t fun b => cond (Nat.beq b.num 0) (k true) (cond (Nat.beq b.num 1) (k false) False)
  | .bytes _ => tupI t fun xs => typesK xs [.bytes, .bytearray, .list, .tuple] (k true)
  | _ => False
noncomputable def oneI (vs : List AV) (k : AV → Prop) : Prop := consI vs fun v r => nilI r (k v)
noncomputable def twoI (vs : List AV) (k : AV → AV → Prop) : Prop := consI vs fun v r => oneI r (k v)
noncomputable def biK (b : Bi) (vs : List AV) (σ : AS) (k : AV → Prop) : Prop := match b with
  | .len => oneI vs fun v => listK v σ fun xs => xs.length ≤ 1000 ∧ k (.int xs.length)
  | .abs => oneI vs fun v => intI v fun i => k (.int (i.natAbs : Int))
  | .max => twoI vs fun v w => intI v fun a => intI w fun b => k (.int (max a b))
  | .int => oneI vs fun v => match v with
    | .bool b => k (.int (cond b 1 0))
    | _ => False
  | .isinstance => twoI vs fun v t => isiK v t fun b => k (.bool b)
  | .list => oneI vs fun v => listK v σ fun xs => xs.length ≤ 1000 ∧ k (.lst xs)
  | .range => oneI vs fun v => intI v fun n => (0 ≤ n ∧ n ≤ 1000) ∧ k (.rng n)
  | .sorted => oneI vs fun v => match v with
    | .edict => k (.lst [])
    | _ => False
  | .tuple => oneI vs fun v => tupI v fun xs => k (.tup xs)
  | .bytes => oneI vs fun v => match v with
    | .bytes b => k (.bytes b)
    | _ => False
  | _ => False
noncomputable def iterK (v : AV) (k : List AV → Prop) : Prop := match v with
  | .lst xs => k xs
  | .tup xs => k xs
  | .rng n => (0 ≤ n ∧ n ≤ 1000) ∧ k ((List.range n.toNat).map fun (i : Nat) => AV.int i)
  | .bytes b => k (b.toList.map fun c => .int c.toNat)
  | _ => False
inductive LM where
  | append | pop | insert | extend
noncomputable def LM.nm : LM → Str
  | .append => "append" | .pop => "pop" | .insert => "insert" | .extend => "extend"
noncomputable def lmK (n : Str) (k : LM → Prop) : Prop := cond (n == ("append" : Str)) (k .append) (cond (n == ("pop" : Str)) (k .pop) (cond (n == ("insert" : Str)) (k .insert) (cond (n == ("extend" : Str)) (k .extend) False)))
/-- a list of the ledger turns -/
noncomputable def updO (σ : AS) (k : List AV → (List AV → (AS → Prop) → Prop) → Prop) (o : AObj) (c : AObj → Led) : Prop := match o with
  | .list xs => k xs fun ys kk => NextK kk ⟨σ.loc, c (.list ys)⟩
  | _ => False
noncomputable def updL (a : Addr) (σ : AS) (k : List AV → (List AV → (AS → Prop) → Prop) → Prop) : Prop := updT a σ.T (updO σ k)
noncomputable def lmethK (m : LM) (a : Addr) (vs : List AV) (σ : AS) (k : KV) : Prop := match m with
  | .append => oneI vs fun v => updL a σ fun xs go => xs.length ≤ 1000 ∧ go (xs ++ [v]) (k .none)
  | .pop => oneI vs fun v => intI v fun i => cond (decide (i = 0)) (updL a σ fun xs go => consI xs fun x xs => xs.length ≤ 1000 ∧ go xs (k x)) False
  | .insert => twoI vs fun i v => intI i fun i => cond (decide (i = 0)) (updL a σ fun xs go => xs.length ≤ 1000 ∧ go (v :: xs) (k .none)) False
  | .extend => oneI vs fun v => lstI v fun ys => updL a σ fun xs go => xs.length + ys.length ≤ 1000 ∧ go (xs ++ ys) (k .none)

noncomputable def setItemK (ov iv v : AV) (σ : AS) (k : AS → Prop) : Prop := match ov with
  | .ref a => intI iv fun i => updL a σ fun xs go => (0 ≤ i ∧ i ≤ 1000 ∧ i < xs.length) ∧ go (xs.set i.toNat v) k
  | _ => False
noncomputable def subK (o i : AV) (σ : AS) (k : AV → Prop) : Prop := intI i fun i => itemsK o σ fun xs => (-1000 ≤ i ∧ i ≤ 1000) ∧ idxK (pyIdx xs i) k
structure EC where
  sc : Scope
  gl : List (Str × AV)
  ml : Bool
  n : Nat
structure Rec where
  e : PySem.Expr → AS → KV → Prop
  t : PySem.Expr → AS → KB → Prop
  s : List Stmt → AS → KF → Prop
  w : PySem.Expr → List Stmt → AS → KF → Prop

noncomputable def consL (v : AV) (k : List AV → AS → Prop) (vs : List AV) (σ : AS) : Prop := k (v :: vs) σ
noncomputable def evD (ih : AS → (List AV → AS → Prop) → Prop) (k : List AV → AS → Prop) (v : AV) (σ : AS) : Prop := ih σ (consL v k)
noncomputable def chE (op : CmpOp) (a : AV) (k : KB) (b : AV) (σ : AS) : Prop := cmpK op a b σ (atB k σ)
noncomputable def chD (ih : AS → KB → Prop) (k : KB) (σ : AS) (c : Bool) : Prop := cond c (ih σ k) (k false σ)
noncomputable def chC (op : CmpOp) (a : AV) (ih : AV → List PySem.Expr → AS → KB → Prop) (es : List PySem.Expr) (k : KB) (b : AV) (σ : AS) : Prop := cmpK op a b σ (chD (ih b es) k σ)
noncomputable def boolD (op : BoolOp) (ih : AS → KV → Prop) (k : KV) (v : AV) (σ : AS) (b : Bool) : Prop := match op with
  | .And => cond b (ih σ k) (k v σ)
  | .Or => cond b (k v σ) (ih σ k)
noncomputable def boolC (op : BoolOp) (ih : AS → KV → Prop) (k : KV) (v : AV) (σ : AS) : Prop := truthK v (boolD op ih k v σ)
noncomputable def allC (op : BoolOp) (ih : AS → KB → Prop) (k : KB) (b : Bool) (σ : AS) : Prop := match op with
  | .And => cond b (ih σ k) (k false σ)
  | .Or => cond b (k true σ) (ih σ k)
section
variable (ev : PySem.Expr → AS → KV → Prop)
noncomputable def evL (es : List PySem.Expr) : AS → (List AV → AS → Prop) → Prop :=
  List.rec (motive := fun _ => AS → (List AV → AS → Prop) → Prop) (fun σ k => k [] σ) (fun e _ ih σ k => ev e σ (evD ih k)) es
noncomputable def evO : Option PySem.Expr → AS → KV → Prop
  | none, σ, k => k .none σ
  | some e, σ, k => ev e σ k
noncomputable def chainK (a : AV) (ops : List CmpOp) (es : List PySem.Expr) (σ : AS) (k : KB) : Prop :=
  List.rec (motive := fun _ => AV → List PySem.Expr → AS → KB → Prop) (fun _ _ _ _ => False) (fun op rest ih a es σ k => match rest, es with
    | [], [e] => ev e σ (chE op a k)
    | _ :: _, e :: es => ev e σ (chC op a ih es k)
    | _, _ => False) ops a es σ k
noncomputable def boolK (op : BoolOp) (es : List PySem.Expr) : AS → KV → Prop :=
  List.rec (motive := fun _ => AS → KV → Prop) (fun _ _ => False) (fun e rest ih σ k => match rest with
    | [] => ev e σ k
    | _ :: _ => ev e σ (boolC op ih k)) es
end
noncomputable def allK (t : PySem.Expr → AS → KB → Prop) (op : BoolOp) (es : List PySem.Expr) : AS → KB → Prop :=
  List.rec (motive := fun _ => AS → KB → Prop) (fun σ k => match op with | .And => k true σ | .Or => k false σ) (fun e _ ih σ k => t e σ (allC op ih k)) es
noncomputable def storeK (ec : EC) (x : Str) (v : AV) (σ : AS) (k : AS → Prop) : Prop :=
  match ec.sc.names.lookup x with
  | some .local => setK x v σ.loc fun l => k ⟨l, σ.T⟩
  | _ => False
noncomputable def asgI (ih : List AV → AS → (AS → Prop) → Prop) (vs : List AV) (k : AS → Prop) (σ : AS) : Prop := ih vs σ k
noncomputable def asgA (n : Str) (v : AV) (k : AS → Prop) (ov : AV) (σ : AS) : Prop := setAttrK ov n v σ k
noncomputable def asgT (ec : EC) (ev : PySem.Expr → AS → KV → Prop) (t : PySem.Expr) (v : AV) (k : AS → Prop) (σ : AS) : Prop := match t with
  | .Name x _ => storeK ec x v σ k
  | .Attribute o n _ => ev o σ (asgA n v k)
  | _ => False
noncomputable def assignL (ec : EC) (ev : PySem.Expr → AS → KV → Prop) (ts : List PySem.Expr) : List AV → AS → (AS → Prop) → Prop :=
  List.rec (motive := fun _ => List AV → AS → (AS → Prop) → Prop) (fun vs σ k => match vs with
    | [] => k σ
    | _ => False) (fun t _ ih vs σ k => match vs with
    | v :: vs => asgT ec ev t v (asgI ih vs k) σ
    | _ => False) ts
/-- a row of statements: evaluation stops here -/
structure Blk (s : List Stmt → AS → KF → Prop) (ss : List Stmt) (σ : AS) (k : KF) : Prop where
  go : s ss σ k
structure WhB (w : PySem.Expr → List Stmt → AS → KF → Prop) (t : PySem.Expr) (body : List Stmt) (σ : AS) (k : KF) : Prop where
  go : w t body σ k
/-- after a row of statements -/
noncomputable def blkP (S : List Stmt → AS → KF → Prop) (rest : List Stmt) (k : KF) (σ : AS) : Prop := Blk S rest σ k
noncomputable def blkS (S : List Stmt → AS → KF → Prop) (body : List Stmt) (k : KF) (σ : AS) : Prop := Stop (Blk S body σ k)
noncomputable def seqK (K : AS → Prop) (k : KF) (f : Fl) (σ : AS) : Prop := match f with
  | .next => NextK K σ
  | .brk => k .brk σ
  | .cont => k .cont σ
  | .ret v => k (.ret v) σ
noncomputable def lpK (K : AS → Prop) (k : KF) (f : Fl) (σ : AS) : Prop := match f with
  | .next => Stop (Ease σ K)
  | .cont => Stop (Ease σ K)
  | .brk => k .next σ
  | .ret v => k (.ret v) σ
noncomputable def toK (ih : AS → KF → Prop) (k : KF) (σ : AS) : Prop := ih σ k
noncomputable def forK (ec : EC) (s : List Stmt → AS → KF → Prop) (x : Str) (body : List Stmt) (xs : List AV) : AS → KF → Prop :=
  List.rec (motive := fun _ => AS → KF → Prop) (fun σ k => k .next σ) (fun v _ ih σ k => storeK ec x v σ (blkS s body (lpK (toK ih k) k))) xs
/-- a loop over items: evaluation stops here -/
structure ForB (ec : EC) (s : List Stmt → AS → KF → Prop) (x : Str) (body : List Stmt) (xs : List AV) (σ : AS) (k : KF) : Prop where
  go : forK ec s x body xs σ k

noncomputable def baseOk : PySem.Expr → Bool
  | .Name .. => true
  | .Attribute .. => true
  | .Call (.Name ..) (_ :: _) _ _ => true
  | .Subscript .. => true
  | _ => false
noncomputable def notComp : PySem.Expr → Bool
  | .ListComp .. | .SetComp .. | .DictComp .. | .Set .. => false
  | _ => true
noncomputable def plainTs : List PySem.Expr → Bool
  | [] => true
  | .Name .. :: r => plainTs r
  | .Attribute .. :: r => plainTs r
  | _ => false
noncomputable def swapNames (sc : Scope) (line : Nat) : List PySem.Expr → Option (List Str)
  | [] => some []
  | .Name id pos :: r => match sc.names.lookup id, swapNames sc line r with
    | some .local, some l => cond (pos.line == line) (some (id :: l)) none
    | _, _ => none
  | _ => none
noncomputable def storeL (ec : EC) (ts : List Str) : List AV → AS → (AS → Prop) → Prop :=
  List.rec (motive := fun _ => List AV → AS → (AS → Prop) → Prop) (fun vs σ k => match vs with
    | [] => k σ
    | _ => False) (fun x _ ih vs σ k => match vs with
    | v :: vs => storeK ec x v σ (asgI ih vs k)
    | [] => False) ts
noncomputable def noStar : List PySem.Expr → Bool
  | [] => true
  | .Starred .. :: _ => false
  | _ :: r => noStar r
noncomputable def notSlice : PySem.Expr → Bool
  | .Slice .. => false
  | _ => true

noncomputable def calV (n : Nat) (f : Addr) (ov : AV) (k : KV) (vs : List AV) (σ : AS) : Prop := Stop (CallT n f (ov :: vs) σ k)
noncomputable def calG (n : Nat) (f : Addr) (k : KV) (vs : List AV) (σ : AS) : Prop := Stop (CallT n f vs σ k)
noncomputable def lmC (m : LM) (a : Addr) (k : KV) (vs : List AV) (σ : AS) : Prop := lmethK m a vs σ k
noncomputable def biC (b : Bi) (k : KV) (vs : List AV) (σ : AS) : Prop := biK b vs σ (atS k σ)
noncomputable def mthO (ec : EC) (R : Rec) (a : Addr) (n : Str) (args : List PySem.Expr) (σ : AS) (k : KV) (o : AObj) : Prop := match o with
  | .inst C _ fs => cond (hasK n fs) False (atK C methTab fun l => assocK n l fun f => evL R.e args σ (calV ec.n f (.ref a) k))
  | .list _ => lmK n fun m => evL R.e args σ (lmC m a k)
noncomputable def methK (ec : EC) (R : Rec) (ov : AV) (n : Str) (args : List PySem.Expr) (σ : AS) (k : KV) : Prop := match ov with
  | .ref a => getT a σ.T (mthO ec R a n args σ k)
  | _ => False
noncomputable def calleeK (ec : EC) (R : Rec) (args : List PySem.Expr) (σ : AS) (k : KV) (fv : AV) : Prop := match fv with
  | .glob a => cond (keepK a keepTab) (evL R.e args σ (calG ec.n a k)) False
  | .bi b => evL R.e args σ (biC b k)
  | _ => False
noncomputable def binR (op : Operator) (a : AV) (k : KV) (b : AV) (σ : AS) : Prop := binK op a b σ (atS k σ)
noncomputable def binL (R : Rec) (op : Operator) (r : PySem.Expr) (k : KV) (a : AV) (σ : AS) : Prop := R.e r σ (binR op a k)
noncomputable def negC (k : KV) (a : AV) (σ : AS) : Prop := negK a (atS k σ)
noncomputable def notS (k : KV) (σ : AS) (b : Bool) : Prop := k (.bool (!b)) σ
noncomputable def notV (k : KV) (a : AV) (σ : AS) : Prop := truthK a (notS k σ)
noncomputable def ifE (R : Rec) (b o : PySem.Expr) (k : KV) (c : Bool) (σ : AS) : Prop := cond c (R.e b σ k) (R.e o σ k)
noncomputable def boolV (k : KV) (c : Bool) (σ : AS) : Prop := k (.bool c) σ
noncomputable def cmpC (R : Rec) (ops : List CmpOp) (rs : List PySem.Expr) (k : KB) (a : AV) (σ : AS) : Prop := chainK R.e a ops rs σ k
noncomputable def tupC (k : KV) (vs : List AV) (σ : AS) : Prop := cond (Nat.ble vs.length 1000) (k (.tup vs) σ) False
noncomputable def newK (vs : List AV) (k : KV) (σ : AS) (a : Addr) : Prop := k (.ref a) ⟨σ.loc, (a, .list vs) :: σ.T⟩
noncomputable def lstC (ml : Bool) (k : KV) (vs : List AV) (σ : AS) : Prop := cond (Nat.ble vs.length 1000) (cond ml (Stop (∀ a, newK vs k σ a)) (k (.lst vs) σ)) False
noncomputable def attC (n : Str) (k : KV) (v : AV) (σ : AS) : Prop := attrK v n σ (atS k σ)
noncomputable def slC (o lo : AV) (k : KV) (hi : AV) (σ : AS) : Prop := sliK o σ fun xs => bndK lo fun lo => bndK hi fun hi => xs.length ≤ 1000 ∧ k (.lst (cut lo hi xs)) σ
noncomputable def slB (R : Rec) (hi : Option PySem.Expr) (o : AV) (k : KV) (lo : AV) (σ : AS) : Prop := evO R.e hi σ (slC o lo k)
noncomputable def slA (R : Rec) (lo hi : Option PySem.Expr) (k : KV) (o : AV) (σ : AS) : Prop := evO R.e lo σ (slB R hi o k)
noncomputable def subB (o : AV) (k : KV) (i : AV) (σ : AS) : Prop := subK o i σ (atS k σ)
noncomputable def subA (R : Rec) (i : PySem.Expr) (k : KV) (o : AV) (σ : AS) : Prop := R.e i σ (subB o k)
noncomputable def metC (ec : EC) (R : Rec) (n : Str) (args : List PySem.Expr) (k : KV) (ov : AV) (σ : AS) : Prop := methK ec R ov n args σ k
noncomputable def stepE (ec : EC) (R : Rec) (e : PySem.Expr) (σ : AS) (k : KV) : Prop := match e with
  | .Constant c _ _ => (match c with
    | .int i => k (.int i) σ
    | .none => k .none σ
    | .bool b => k (.bool b) σ
    | .bytes b => k (.bytes b.toArray) σ
    | _ => False)
  | .Name x _ => getK x σ.loc (atS k σ) (getK x ec.gl (atS k σ) False)
  | .BinOp l op r _ => R.e l σ (binL R op r k)
  | .UnaryOp op x _ => (match op with
    | .USub => R.e x σ (negC k)
    | .Not => R.e x σ (notV k)
    | _ => False)
  | .BoolOp op vs _ => boolK R.e op vs σ k
  | .IfExp t b o _ => R.t t σ (ifE R b o k)
  | .Compare l ops rs _ => cond (lastMarks ops rs) False (R.e l σ (cmpC R ops rs (boolV k)))
  | .Tuple es _ _ => cond (noStar es) (evL R.e es σ (tupC k)) False
  | .List es _ => cond (noStar es) (evL R.e es σ (lstC ec.ml k)) False
  | .Dict ks vs _ => (match ks with
    | [] => (match vs with
      | [] => k .edict σ
      | _ => False)
    | _ => False)
  | .Attribute o n _ => cond (baseOk o) (R.e o σ (attC n k)) False
  | .Subscript v i _ => (match i with
    | .Slice lo hi none _ => R.e v σ (slA R lo hi k)
    | _ => cond (notSlice i) (R.e v σ (subA R i k)) False)
  | .Call f args ks p => (match ks with
    | [] => (match f with
      | .Attribute o n ap => cond (baseOk o && (ap.endLine == p.line && (Nat.ble args.length 25 && noStar args))) (R.e o σ (metC ec R n args k)) False
      | .Name f _ => cond (Nat.ble args.length 25 && noStar args) (getK f σ.loc (calleeK ec R args σ k) (getK f ec.gl (calleeK ec R args σ k) False)) False
      | _ => False)
    | _ => False)
  | .ListComp a b c d => Stop (CompT ec.n ec.sc (.ListComp a b c d) σ k)
  | _ => False
noncomputable def notT (k : KB) (b : Bool) (σ : AS) : Prop := k (!b) σ
noncomputable def ifT (R : Rec) (b o : PySem.Expr) (k : KB) (c : Bool) (σ : AS) : Prop := cond c (R.t b σ k) (R.t o σ k)
noncomputable def truT (k : KB) (v : AV) (σ : AS) : Prop := truthK v (atB k σ)
noncomputable def stepT (R : Rec) (e : PySem.Expr) (σ : AS) (k : KB) : Prop := match e with
  | .UnaryOp op x _ => (match op with
    | .Not => R.t x σ (notT k)
    | _ => False)
  | .BoolOp op vs _ => allK R.t op vs σ k
  | .IfExp t b o _ => R.t t σ (ifT R b o k)
  | .Compare l ops rs _ => cond (lastMarks ops rs) False (R.e l σ (cmpC R ops rs k))
  | .Name x p => R.e (.Name x p) σ (truT k)
  | .Call f a c p => R.e (.Call f a c p) σ (truT k)
  | _ => False
noncomputable def retC (k : KF) (v : AV) (σ : AS) : Prop := k (.ret v) σ
noncomputable def nxtS (k : KF) (σ : AS) : Prop := k .next σ
noncomputable def nxtC (k : KF) (_ : AV) (σ : AS) : Prop := k .next σ
noncomputable def fwdC (ec : EC) (R : Rec) (ts : List PySem.Expr) (k : KF) (v : AV) (σ : AS) : Prop := tupI v fun xs => cond (xs.length == ts.length) (assignL ec R.e ts xs σ (nxtS k)) False
noncomputable def fwdK (ec : EC) (R : Rec) (ts : List PySem.Expr) (e : PySem.Expr) (σ : AS) (k : KF) : Prop := R.e e σ (fwdC ec R ts k)
noncomputable def swpC (ec : EC) (names : List Str) (k : KF) (v : AV) (σ : AS) : Prop := tupI v fun xs => cond (xs.length == names.length) (storeL ec names.reverse xs.reverse σ (nxtS k)) False
noncomputable def asnC (ec : EC) (x : Str) (k : KF) (v : AV) (σ : AS) : Prop := storeK ec x v σ (nxtS k)
noncomputable def asaA (R : Rec) (o : PySem.Expr) (n : Str) (k : KF) (v : AV) (σ : AS) : Prop := R.e o σ (asgA n v (nxtS k))
noncomputable def asbC (ov v : AV) (k : KF) (iv : AV) (σ : AS) : Prop := setItemK ov iv v σ (nxtS k)
noncomputable def asbB (R : Rec) (i : PySem.Expr) (v : AV) (k : KF) (ov : AV) (σ : AS) : Prop := R.e i σ (asbC ov v k)
noncomputable def asbA (R : Rec) (o i : PySem.Expr) (k : KF) (v : AV) (σ : AS) : Prop := R.e o σ (asbB R i v k)
noncomputable def tupS (ec : EC) (R : Rec) (ts : List PySem.Expr) (e : PySem.Expr) (σ : AS) (k : KF) : Prop := match e with
  | .Tuple vs vk vp => cond (!(ts.length == 2 || ts.length == 3) || vs.all (foldedForSure 8)) (fwdK ec R ts (.Tuple vs vk vp) σ k)
      (cond (vs.length == ts.length && (noStar vs && !vs.all (constantsAlone 8))) (match swapNames ec.sc ((ts.head?.map (·.pos.line)).getD 0) ts with
        | some names => cond (names.eraseDups.length == names.length && names.length == ts.length) (R.e (.Tuple vs vk vp) σ (swpC ec names k)) False
        | none => False) False)
  | .Call f as ks p => fwdK ec R ts (.Call f as ks p) σ k
  | .Subscript a b p => fwdK ec R ts (.Subscript a b p) σ k
  | _ => False
noncomputable def asgS (ec : EC) (R : Rec) (t e : PySem.Expr) (σ : AS) (k : KF) : Prop := match t with
  | .Name x _ => cond (notComp e) (R.e e σ (asnC ec x k)) False
  | .Attribute o n _ => cond (notComp e) (R.e e σ (asaA R o n k)) False
  | .Subscript o i _ => cond (notComp e && notSlice i) (R.e e σ (asbA R o i k)) False
  | .Tuple ts _ _ => cond (plainTs ts) (tupS ec R ts e σ k) False
  | _ => False
noncomputable def agD (ov : AV) (n : Str) (σ : AS) (k : KF) (new : AV) : Prop := setAttrK ov n new σ (nxtS k)
noncomputable def agC (ov : AV) (n : Str) (op : Operator) (old : AV) (k : KF) (v : AV) (σ : AS) : Prop := augK op old v (agD ov n σ k)
noncomputable def agB (R : Rec) (ov : AV) (n : Str) (op : Operator) (e : PySem.Expr) (k : KF) (old : AV) (σ : AS) : Prop := R.e e σ (agC ov n op old k)
noncomputable def agA (R : Rec) (n : Str) (op : Operator) (e : PySem.Expr) (k : KF) (ov : AV) (σ : AS) : Prop := attrK ov n σ (atS (agB R ov n op e k) σ)
noncomputable def aiE (ov iv : AV) (σ : AS) (k : KF) (new : AV) : Prop := setItemK ov iv new σ (nxtS k)
noncomputable def aiD (ov iv : AV) (op : Operator) (old : AV) (k : KF) (v : AV) (σ : AS) : Prop := augK op old v (aiE ov iv σ k)
noncomputable def aiC (R : Rec) (ov iv : AV) (op : Operator) (e : PySem.Expr) (k : KF) (old : AV) (σ : AS) : Prop := R.e e σ (aiD ov iv op old k)
noncomputable def aiB (R : Rec) (ov : AV) (op : Operator) (e : PySem.Expr) (k : KF) (iv : AV) (σ : AS) : Prop := subK ov iv σ (atS (aiC R ov iv op e k) σ)
noncomputable def aiA (R : Rec) (i : PySem.Expr) (op : Operator) (e : PySem.Expr) (k : KF) (ov : AV) (σ : AS) : Prop := R.e i σ (aiB R ov op e k)
noncomputable def ifK (R : Rec) (b o : List Stmt) (k : KF) (c : Bool) (σ : AS) : Prop := cond c (Stop (Blk R.s b σ k)) (Stop (Blk R.s o σ k))
noncomputable def forX (ec : EC) (R : Rec) (x : Str) (body : List Stmt) (σ : AS) (k : KF) (xs : List AV) : Prop := Stop (ForB ec R.s x body xs σ k)
noncomputable def forC (ec : EC) (R : Rec) (x : Str) (body : List Stmt) (k : KF) (v : AV) (σ : AS) : Prop := iterK v (forX ec R x body σ k)
noncomputable def stmtK (ec : EC) (R : Rec) (st : Stmt) (σ : AS) (k : KF) : Prop := match st with
  | .Pass _ => k .next σ
  | .Break _ => k .brk σ
  | .Return o _ => (match o with
    | none => k (.ret .none) σ
    | some e => R.e e σ (retC k))
  | .Expr e _ => cond (notComp e) (R.e e σ (nxtC k)) False
  | .Assign ts e _ => (match ts with
    | [t] => asgS ec R t e σ k
    | _ => False)
  | .AugAssign t op e _ => (match t with
    | .Attribute o n _ => R.e o σ (agA R n op e k)
    | .Subscript o i _ => cond (notSlice i) (R.e o σ (aiA R i op e k)) False
    | _ => False)
  | .If t b o _ => R.t t σ (ifK R b o k)
  | .For t it body els _ => (match els with
    | [] => (match t with
      | .Name x _ => cond (notComp it) (R.e it σ (forC ec R x body k)) False
      | _ => False)
    | _ => False)
  | .While t body els _ => (match els with
    | [] => Stop (WhB R.w t body σ k)
    | _ => False)
  | _ => False
noncomputable def stepS (ec : EC) (R : Rec) (ss : List Stmt) (σ : AS) (k : KF) : Prop := match ss with
  | [] => k .next σ
  | st :: rest => stmtK ec R st σ (seqK (blkP R.s rest k) k)
noncomputable def whK (R : Rec) (t : PySem.Expr) (body : List Stmt) (k : KF) (σ : AS) : Prop := R.w t body σ k
noncomputable def whC (S : List Stmt → AS → KF → Prop) (body : List Stmt) (K : AS → Prop) (k : KF) (c : Bool) (σ : AS) : Prop := cond c (Stop (Blk S body σ (lpK K k))) (k .next σ)
noncomputable def stepW (R : Rec) (t : PySem.Expr) (body : List Stmt) (σ : AS) (k : KF) : Prop := R.t t σ (whC R.s body (whK R t body k) k)
noncomputable def rec0 : Rec := ⟨fun _ _ _ => False, fun _ _ _ => False, fun _ _ _ => False, fun _ _ _ _ => False⟩
noncomputable def recS (ec : EC) (_ : Nat) (R : Rec) : Rec := ⟨stepE ec R, stepT R, stepS ec R, stepW R⟩
noncomputable def rec (ec : EC) (n : Nat) : Rec := Nat.rec (motive := fun _ => Rec) rec0 (recS ec) n
end
section
open PySem PySem.W PyProof.Rows PySem.Calls PySem.Spec
theorem getK_iff {x : Str} {l : List (Str × AV)} {k : AV → Prop} {e : Prop} (h : getK x l k e) : (∃ v, l.lookup x = some v ∧ k v) ∨ (l.lookup x = none ∧ e) := by
  induction l with
  | nil => exact .inr ⟨rfl, h⟩
  | cons p r ih =>
    obtain ⟨y, w⟩ := p
    unfold getK at h
    rw [List.lookup_cons]
    cases q : x == y with
    | true => rw [q] at h; exact .inl ⟨w, rfl, h⟩
    | false => rw [q] at h; exact ih h
noncomputable def setL (x : Str) (v : AV) : List (Str × AV) → List (Str × AV)
  | [] => [(x, v)]
  | (y, w) :: r => cond (x == y) ((y, v) :: r) ((y, w) :: setL x v r)
theorem setK_iff {x : Str} {v : AV} {l : List (Str × AV)} : ∀ {k : List (Str × AV) → Prop}, setK x v l k → k (setL x v l) := by
  induction l with
  | nil => intro k h; exact h
  | cons p r ih =>
    obtain ⟨y, w⟩ := p
    intro k h
    unfold setK at h
    unfold setL
    cases q : x == y with
    | true => rw [q] at h; exact h
    | false => rw [q] at h; exact ih (k := fun r' => k ((y, w) :: r')) h
theorem lookup_setL (x : Str) (v : AV) (y : Str) (l : List (Str × AV)) : (setL x v l).lookup y = if y = x then some v else l.lookup y := by
  induction l with
  | nil =>
    unfold setL
    rw [List.lookup_cons]
    by_cases q : y = x
    · rw [if_pos q, q, beq_self_eq_true]
    · rw [if_neg q, beq_false_of_ne q]
  | cons p r ih =>
    obtain ⟨z, w⟩ := p
    unfold setL
    cases q : x == z with
    | true =>
      have := eq_of_beq q; subst this
      rw [cond_true, List.lookup_cons, List.lookup_cons]
      by_cases e : y = x
      · rw [if_pos e, e, beq_self_eq_true]
      · rw [if_neg e, beq_false_of_ne e]
    | false =>
      rw [cond_false, List.lookup_cons, List.lookup_cons, ih]
      by_cases e : y = x
      · subst e; rw [q]
      · rw [if_neg e, if_neg e]
theorem setL_length (x : Str) (v : AV) (l : List (Str × AV)) : l.length ≤ (setL x v l).length := by
  induction l with
  | nil => exact Nat.zero_le _
  | cons p r ih =>
    obtain ⟨z, w⟩ := p
    unfold setL
    cases x == z
    · exact Nat.succ_le_succ ih
    · exact Nat.le_refl _
theorem atK_iff {α : Type} {a : Addr} {k : α → Prop} {l : List (Addr × α)} (h : atK a l k) : ∃ x, (a, x) ∈ l ∧ k x := by
  induction l with
  | nil => exact h.elim
  | cons p r ih =>
    obtain ⟨b, x⟩ := p
    unfold atK at h
    cases q : Nat.beq a b with
    | true => rw [q] at h; exact ⟨x, by rw [Nat.eq_of_beq_eq_true q]; exact .head _, h⟩
    | false => rw [q] at h; obtain ⟨x, a, b⟩ := ih h; exact ⟨x, .tail _ a, b⟩
theorem assocK_iff {α : Type} {x : Str} {k : α → Prop} {l : List (Str × α)} (h : assocK x l k) : ∃ v, (x, v) ∈ l ∧ k v := by
  induction l with
  | nil => exact h.elim
  | cons p r ih =>
    obtain ⟨y, v⟩ := p
    unfold assocK at h
    cases q : x == y with
    | true => rw [q] at h; exact ⟨v, by rw [eq_of_beq q]; exact .head _, h⟩
    | false => rw [q] at h; obtain ⟨x, a, b⟩ := ih h; exact ⟨x, .tail _ a, b⟩
theorem nameK_iff {x : Str} {l : List Str} (h : nameK x l = true) : x ∈ l := by
  induction l with
  | nil => cases h
  | cons y r ih =>
    unfold nameK at h
    cases q : x == y with
    | true => rw [eq_of_beq q]; exact .head _
    | false => rw [q] at h; exact .tail _ (ih h)
theorem hasK_iff {x : Str} {l : List (Str × AV)} (h : hasK x l = false) : l.lookup x = none := by
  induction l with
  | nil => rfl
  | cons p r ih =>
    obtain ⟨y, w⟩ := p
    unfold hasK at h
    rw [List.lookup_cons]
    cases q : x == y with
    | true => rw [q] at h; cases h
    | false => rw [q] at h; exact ih h
theorem cond_of {b : Bool} {p q : Prop} (h : cond b p q) : (b = true ∧ p) ∨ (b = false ∧ q) := by cases b; exact .inr ⟨rfl, h⟩; exact .inl ⟨rfl, h⟩
theorem cond_l {b : Bool} {p : Prop} (h : cond b p False) : b = true ∧ p := by cases b; exact h.elim; exact ⟨rfl, h⟩
theorem cond_r {b : Bool} {p : Prop} (h : cond b False p) : b = false ∧ p := by cases b; exact ⟨rfl, h⟩; exact h.elim

structure Gd (ec : EC) (cx : Cx) : Prop where
  ok : cx.Ok ec.n
  gl : ∀ x v, ec.gl.lookup x = some v → cx.scope.names.lookup x = some .globalImplicit ∧ GV cx.K x v
  nodebug : cx.scope.names.lookup ("__debug__" : Str) = none
  sc : cx.scope = ec.sc

theorem ff {P : Prop} (h : false = true) : P := (Bool.false_ne_true h).elim
theorem intI_iff {v : AV} {k : Int → Prop} (h : intI v k) : ∃ i, v = .int i ∧ k i := by cases v <;> first | exact h.elim | exact ⟨_, rfl, h⟩
theorem tupI_iff {v : AV} {k : List AV → Prop} (h : tupI v k) : ∃ i, v = .tup i ∧ k i := by cases v <;> first | exact h.elim | exact ⟨_, rfl, h⟩
theorem lstI_iff {v : AV} {k : List AV → Prop} (h : lstI v k) : ∃ i, v = .lst i ∧ k i := by cases v <;> first | exact h.elim | exact ⟨_, rfl, h⟩
theorem biI_iff {v : AV} {k : Bi → Prop} (h : biI v k) : ∃ i, v = .bi i ∧ k i := by cases v <;> first | exact h.elim | exact ⟨_, rfl, h⟩
theorem noneI_iff {v : AV} {p : Prop} (h : noneI v p) : v = .none ∧ p := by cases v <;> first | exact h.elim | exact ⟨rfl, h⟩
theorem nilI_iff {xs : List AV} {p : Prop} (h : nilI xs p) : xs = [] ∧ p := by cases xs <;> first | exact h.elim | exact ⟨rfl, h⟩
theorem consI_iff {xs : List AV} {k : AV → List AV → Prop} (h : consI xs k) : ∃ v r, xs = v :: r ∧ k v r := by cases xs <;> first | exact h.elim | exact ⟨_, _, rfl, h⟩
theorem oneI_iff {xs : List AV} {k : AV → Prop} (h : oneI xs k) : ∃ v, xs = [v] ∧ k v := by
  obtain ⟨v, r, e, h⟩ := consI_iff h
  obtain ⟨e', h⟩ := nilI_iff h
  exact ⟨v, by rw [e, e'], h⟩
theorem twoI_iff {xs : List AV} {k : AV → AV → Prop} (h : twoI xs k) : ∃ v w, xs = [v, w] ∧ k v w := by
  obtain ⟨v, r, e, h⟩ := consI_iff h
  obtain ⟨w, e', h⟩ := oneI_iff h
  exact ⟨v, w, by rw [e, e'], h⟩
noncomputable def RInv (B : Base) (x : AV) (y : Value) : Prop := match x with
  | .none => y = .none
  | .bool b => y = .bool b
  | .int i => ∃ t, y = .int i t
  | .str _ => True
  | .bytes i => ∃ t, y = .bytes i t
  | .bi b => y = b.val
  | .glob a => y = .ref a
  | .ref a => y = .ref a
  | .obj C fs => ∃ a d es n, y = .ref a ∧ B a = some (instObj C d) ∧ B d = some (dictOf es n) ∧ Strs es ∧ (∀ x, (fs.lookup x).isSome = (look x es).isSome) ∧
      (∀ x v y, fs.lookup x = some v → look x es = some y → Rep B v y) ∧ ∀ x y, look x es = some y → InTab C x ∧ handedIn y = true
  | .tup xs => ∃ a vs, ∃ n : Nat, y = .ref a ∧ B a = some (tupO vs 0) ∧ RepL B xs vs
  | .lst xs => ∃ a vs n, y = .ref a ∧ B a = some (listO vs n) ∧ RepL B xs vs
  | .src xs => ∃ a vs o n, y = .ref a ∧ B a = some o ∧ o.cls = .type "list" ∧ o.data = .seq vs.toArray n ∧ RepL B xs vs
  | .edict => ∃ a n, y = .ref a ∧ B a = some (dictOf [] n) ∧ (a == sysModules) = false
  | .rng n => ∃ a t u v, y = .ref a ∧ B a = some (rngO n t u v)
theorem Rep.inv {B : Base} {x : AV} {y : Value} (r : Rep B x y) : RInv B x y := by
  cases r with
  | none => exact rfl
  | bool _ => exact rfl
  | int _ t => exact ⟨t, rfl⟩
  | str _ _ => trivial
  | bytes _ t => exact ⟨t, rfl⟩
  | bi _ => exact rfl
  | glob _ => exact rfl
  | ref _ => exact rfl
  | obj h1 h2 h3 h4 h5 h6 => exact ⟨_, _, _, _, rfl, h1, h2, h3, h4, h5, h6⟩
  | tup h1 h2 h3 => exact ⟨_, _, 0, rfl, h1, .of h2 h3⟩
  | lst h1 h2 h3 => exact ⟨_, _, _, rfl, h1, .of h2 h3⟩
  | src h1 h2 h3 h4 h5 => exact ⟨_, _, _, _, rfl, h1, h2, h3, .of h4 h5⟩
  | edict h1 h2 => exact ⟨_, _, rfl, h1, h2⟩
  | rng h1 => exact ⟨_, _, _, _, rfl, h1⟩
theorem Rep.intL {B : Base} {i : Int} {y : Value} (r : Rep B (.int i) y) : ∃ t, y = .int i t := r.inv
theorem Rep.boolL {B : Base} {i : Bool} {y : Value} (r : Rep B (.bool i) y) : y = .bool i := r.inv
theorem Rep.noneL {B : Base} {y : Value} (r : Rep B .none y) : y = .none := r.inv
theorem Rep.refL {B : Base} {a : Addr} {y : Value} (r : Rep B (.ref a) y) : y = .ref a := r.inv
theorem Rep.globL {B : Base} {a : Addr} {y : Value} (r : Rep B (.glob a) y) : y = .ref a := r.inv
theorem Rep.biL {B : Base} {b : Bi} {y : Value} (r : Rep B (.bi b) y) : y = b.val := r.inv
theorem Rep.bytesL {B : Base} {i : Array UInt8} {y : Value} (r : Rep B (.bytes i) y) : ∃ t, y = .bytes i t := r.inv
theorem Rep.tupL {B : Base} {xs : List AV} {y : Value} (r : Rep B (.tup xs) y) : ∃ a vs, ∃ n : Nat, y = .ref a ∧ B a = some (tupO vs 0) ∧ RepL B xs vs := r.inv
theorem Rep.lstL {B : Base} {xs : List AV} {y : Value} (r : Rep B (.lst xs) y) : ∃ a vs n, y = .ref a ∧ B a = some (listO vs n) ∧ RepL B xs vs := r.inv
noncomputable def LInv (B : Base) (xs : List AV) (ys : List Value) : Prop := match xs with
  | [] => ys = []
  | x :: r => ∃ y zs, ys = y :: zs ∧ Rep B x y ∧ RepL B r zs
theorem RepL.inv {B : Base} {xs : List AV} {ys : List Value} (r : RepL B xs ys) : LInv B xs ys := by
  cases r with
  | nil => exact rfl
  | cons h1 h2 => exact ⟨_, _, rfl, h1, h2⟩
theorem RepL.nilL {B : Base} {ys : List Value} (r : RepL B [] ys) : ys = [] := r.inv
theorem RepL.consL {B : Base} {x : AV} {xs : List AV} {ys : List Value} (r : RepL B (x :: xs) ys) : ∃ y zs, ys = y :: zs ∧ Rep B x y ∧ RepL B xs zs := r.inv
noncomputable def OInv (B : Base) (h : Heap) (a : Addr) (o : AObj) : Prop := match o with
  | .inst C d fs => ∃ es n, h.get? a = some (instObj C d) ∧ h.get? d = some (dictOf es n) ∧ Strs es ∧ es.length ≤ fs.length ∧ (∀ x, (fs.lookup x).isSome = (look x es).isSome) ∧
      (∀ x v y, fs.lookup x = some v → look x es = some y → Rep B v y) ∧ ∀ x y, look x es = some y → InTab C x ∧ handedIn y = true
  | .list xs => ∃ vs n, h.get? a = some (listO vs n) ∧ RepL B xs vs
theorem ObjAt.inv {B : Base} {h : Heap} {a : Addr} {o : AObj} (t : ObjAt B h a o) : OInv B h a o := by
  cases t with
  | inst h1 h2 h3 h4 h5 h6 h7 => exact ⟨_, _, h1, h2, h3, h4, h5, h6, h7⟩
  | list h1 h2 => exact ⟨_, _, h1, h2⟩
theorem RepL.oneL {B : Base} {x : AV} {ys : List Value} (r : RepL B [x] ys) : ∃ y, ys = [y] ∧ Rep B x y := by
  obtain ⟨y, zs, rfl, h1, h2⟩ := r.consL
  exact ⟨y, by rw [h2.nilL], h1⟩
theorem RepL.twoL {B : Base} {x x' : AV} {ys : List Value} (r : RepL B [x, x'] ys) : ∃ y y', ys = [y, y'] ∧ Rep B x y ∧ Rep B x' y' := by
  obtain ⟨y, zs, rfl, h1, h2⟩ := r.consL
  obtain ⟨y', rfl, h3⟩ := h2.oneL
  exact ⟨y, y', rfl, h1, h3⟩

section
variable {ec : EC} {cx : Cx} {B : Base} {σ : AS} {s : Shared} {k : KV}
theorem Gd.nd (G : Gd ec cx) {x : Str} {c : NameKind} (h : cx.scope.names.lookup x = some c) : (x == ("__debug__" : Str)) = false := by
  cases q : x == ("__debug__" : Str) with
  | false => rfl
  | true => rw [eq_of_beq q, G.nodebug] at h; cases h
theorem store_at (G : Gd ec cx) (hR : Rel cx B σ s.heap) {x : Str} {v : AV} {y : Value} {kk : AS → Prop} (hr : Rep B v y) (h : storeK ec x v σ kk) :
    At cx (fun _ (_ _ : Unit) => True) B σ s (storeName cx.env x y) (fun _ => kk) := by
  unfold storeK at h
  rw [← G.sc] at h
  split at h
  · rename_i hl
    have h := setK_iff h
    obtain ⟨m, hn, hm⟩ := hR.ns
    intro Q E hQ
    refine wpAny_storeName_local hl hn (fun h' hn' hs => ?_) (by show (cx.scope.kind == .class || (cx.scope.kind == .module && cx.L != mainGlobals)) = false; rw [G.ok.kind]; rfl)
    refine hQ B () ⟨setL x v σ.loc, σ.T⟩ () h' _ ⟨⟨fun b o e => ?_, hR.gB, ⟨_, hn', fun z w e => ?_⟩, fun p hp => ?_, hR.nodup, hR.off⟩, ?_⟩ trivial h
    · have : b ≠ cx.L := fun q => by rw [q, hR.Lnone] at e; cases e
      exact (hs.2 b this).trans (hR.keep b o e)
    · rw [lookup_setL] at e
      split at e
      · rename_i q; cases e; subst q; exact ⟨hl, y, by simp, hr⟩
      · rename_i q; obtain ⟨a, y', b, c⟩ := hm z w e; exact ⟨a, y', by rw [if_neg q]; exact b, c⟩
    · refine (hR.tab p hp).mono (.refl B) fun b hb o e => (hs.2 b fun q => ?_).trans e
      exact hR.Lnot ((show b = cx.L from q) ▸ mem_addrs hp hb)
    · exact ⟨fun b o e hb _ => (hs.2 b hb).trans e, .refl B, fun _ h => .inl h, fun _ _ e => .inl e⟩
  · exact h.elim
theorem bind_at (G : Gd ec cx) (hR : Rel cx B σ s.heap) {x : Str} {v : AV} {y : Value} {kk : AS → Prop} (hr : Rep B v y) (h : storeK ec x v σ kk) :
    At cx (fun _ (_ _ : Unit) => True) B σ s (bindName cx.env x y) (fun _ => kk) := fun Q E hQ => wpAny_bindName (store_at G hR hr h Q E hQ)
end
end
section
open PySem PySem.W PyProof.Rows PySem.Calls PySem.Spec
theorem fields_ok {K : Frag} (kn : Kn K) {C : Addr} {x : Str} (h : InTab C x) : fieldB K C x = true := by
  obtain ⟨l, h1, h2⟩ := h
  exact List.all_eq_true.mp (List.all_eq_true.mp kn.fields _ h1) _ h2

theorem isStr_str (x nm : Str) (t : Tok) : (Value.str nm t).isStr x = (nm == x) := rfl
theorem strs_noRef {es : List DictEntry} (h : Strs es) : es.any (·.refKey) = false := by
  rw [List.any_eq_false]
  intro e he
  obtain ⟨nm, t, q⟩ := h e he
  unfold DictEntry.refKey
  rw [q]; simp
theorem getL_look {es : List DictEntry} (h : Strs es) (x : Str) : getL x es = some (look x es) := by
  unfold getL look
  cases List.find? (fun e => e.key.isStr x) es with
  | some e => rfl
  | none => simp [strs_noRef h]
theorem strs_put {es : List DictEntry} (h : Strs es) (name : Str) (hsh : Int) (t : Tok) (v : Value) : Strs (putL name hsh (.str name t) v es) := by
  induction es with
  | nil => intro e he; rw [List.mem_singleton.mp he]; exact ⟨_, _, rfl⟩
  | cons e r ih =>
    have hr : Strs r := fun e he => h e (.tail _ he)
    unfold putL
    split
    · intro e' he'
      rcases List.mem_cons.mp he' with rfl | he'
      · exact h e (.head _)
      · exact hr _ he'
    · intro e' he'
      rcases List.mem_cons.mp he' with rfl | he'
      · exact h e' (.head _)
      · exact ih hr _ he'
theorem look_put (name : Str) (hsh : Int) (t : Tok) (v : Value) (x : Str) {es : List DictEntry} (h : Strs es) : look x (putL name hsh (.str name t) v es) = if x = name then some v else look x es := by
  induction es with
  | nil =>
    unfold putL look
    by_cases q : x = name
    · subst q; simp [isStr_str]
    · have q' : ¬ name = x := fun r => q r.symm
      simp [isStr_str, q, q']
  | cons e r ih =>
    have ih := ih fun e he => h e (.tail _ he)
    obtain ⟨nm, t', q⟩ := h e (.head _)
    obtain ⟨eh, ek, ev⟩ := e
    simp only at q
    subst q
    unfold putL
    by_cases h1 : nm = name
    · subst h1
      by_cases h2 : x = nm
      · subst h2; simp [look, isStr_str]
      · have h2' : ¬ nm = x := fun r => h2 r.symm
        simp [look, isStr_str, h2, h2']
    · have h1' : (Value.str nm t').isStr name = false := by simpa [isStr_str] using h1
      rw [if_neg (by rw [h1']; decide)]
      unfold look at ih ⊢
      by_cases h2 : nm = x
      · subst h2
        simp [isStr_str, h1]
      · have h2' : (Value.str nm t').isStr x = false := by simpa [isStr_str] using h2
        simp only [List.find?_cons, h2']
        exact ih
theorem putL_length (name : Str) (hsh : Int) (key v : Value) (es : List DictEntry) : (putL name hsh key v es).length ≤ es.length + 1 := by
  induction es with
  | nil => exact Nat.le_refl _
  | cons e r ih =>
    unfold putL
    split
    · exact Nat.le_succ _
    · exact Nat.succ_le_succ ih
theorem putL_length_old (name : Str) (hsh : Int) (key v : Value) (es : List DictEntry) (h : es.any (·.key.isStr name) = true) : (putL name hsh key v es).length = es.length := by
  induction es with
  | nil => cases h
  | cons e r ih =>
    unfold putL
    split
    · rfl
    · rename_i h1
      rw [List.any_cons, Bool.eq_false_iff.mpr h1, Bool.false_or] at h
      exact congrArg (· + 1) (ih h)
theorem any_of_look {x : Str} {v : Value} {es : List DictEntry} (e : look x es = some v) : es.any (·.key.isStr x) = true := by
  unfold look at e
  obtain ⟨e', q, _⟩ := Option.map_eq_some_iff.mp e
  exact List.any_eq_true.mpr ⟨e', List.mem_of_find?_eq_some q, by simpa using List.find?_some q⟩
theorem setL_length_new (x : Str) (v : AV) (l : List (Str × AV)) (h : l.lookup x = none) : (setL x v l).length = l.length + 1 := by
  induction l with
  | nil => rfl
  | cons p r ih =>
    obtain ⟨z, w⟩ := p
    rw [List.lookup_cons] at h
    unfold setL
    cases q : x == z with
    | true => rw [q] at h; cases h
    | false => rw [q] at h; exact congrArg (· + 1) (ih h)
theorem mem_of_lookup' {α : Type} {x : Str} {v : α} {l : List (Str × α)} (h : l.lookup x = some v) : (x, v) ∈ l := by
  induction l with
  | nil => cases h
  | cons p r ih =>
    obtain ⟨y, w⟩ := p
    rw [List.lookup_cons] at h
    cases q : x == y with
    | true => rw [q] at h; cases h; rw [eq_of_beq q]; exact .head _
    | false => rw [q] at h; exact .tail _ (ih h)

section
variable {ec : EC} {cx : Cx} {B : Base} {σ : AS} {s : Shared} {k : KV}
theorem InstAt.mk' {h : Heap} {a C d : Addr} {es : List DictEntry} {n : Nat} (h1 : h.get? a = some (instObj C d)) (h2 : h.get? d = some (dictOf es n)) : InstAt h a (instObj C d) C (some (dictOf es n)) := ⟨h1, rfl, rfl, h2⟩
theorem attr_inst' (kn : Kn cx.K) (X : cx.K.In s.heap) {a C d : Addr} {es : List DictEntry} {fs : List (Str × AV)} {m : Nat} {nm : Str} {expr : Bool} (h1 : s.heap.get? a = some (instObj C d)) (h2 : s.heap.get? d = some (dictOf es m)) (h3 : Strs es)
    (h4 : ∀ x, (fs.lookup x).isSome = (look x es).isSome) (h5 : ∀ x v y, fs.lookup x = some v → look x es = some y → Rep B v y) (h6 : ∀ x y, look x es = some y → InTab C x ∧ handedIn y = true)
    (h : getK nm fs (fun w => k w σ) (atK C clsTab fun l => getK nm l (fun w => k w σ) False)) : ∃ v y, Rep B v y ∧ k v σ ∧ ∀ (Q : Value → Shared → Prop) (E : Value → Shared → Prop), Q y { s with toks := s.toks + 1 } → wpAny (model cx.prog cx.w) cx.A (getAttr (.ref a) nm expr) Q E s := by
  have I := InstAt.mk' h1 h2
  rcases getK_iff h with ⟨v, e, hk⟩ | ⟨e, h⟩
  · have hs : (look nm es).isSome = true := by rw [← h4, e]; rfl
    obtain ⟨y, hy⟩ := Option.isSome_iff_exists.mp hs
    have f := fields_ok kn (h6 nm y hy).1
    unfold fieldB at f
    simp only [Bool.and_eq_true] at f
    obtain ⟨⟨⟨⟨⟨f1, f2⟩, f3⟩, f4⟩, f5⟩, f6⟩ := f
    split at f3
    · rename_i attr ha
      refine ⟨v, y, h5 nm v y e hy, hk, fun Q E q => ?_⟩
      exact get_value X I (plainGet_of f2).1 (findObj_own f1 ha f3 (by rw [lookIn_dict, getL_look h3, hy])) (h6 nm y hy).2 q
    · cases f3
  · obtain ⟨l, hl, h⟩ := atK_iff h
    rcases getK_iff h with ⟨v, e', hk⟩ | ⟨_, h⟩
    · have f := List.all_eq_true.mp (List.all_eq_true.mp kn.cls _ hl) _ (mem_of_lookup' e')
      unfold clsB at f
      simp only [Bool.and_eq_true] at f
      obtain ⟨⟨⟨f1, f2⟩, f3⟩, f4⟩ := f
      split at f4
      · rename_i i t j ha
        simp only [Bool.and_eq_true, decide_eq_true_eq] at f4
        obtain ⟨rfl, f5⟩ := f4
        have hn : look nm es = none := by
          have := h4 nm
          rw [e] at this
          cases q : look nm es with
          | none => rfl
          | some _ => rw [q] at this; cases this
        refine ⟨.int i, .int i t, .int i t, hk, fun Q E q => ?_⟩
        exact get_value X I (plainGet_of f2).1 (findObj_cls f1 ha (beq_iff_eq.mp f5) rfl (by simpa using f3) (by rw [lookIn_dict, getL_look h3, hn])) rfl q
      · cases f4
    · exact h.elim
theorem attr_inst (G : Gd ec cx) (hR : Rel cx B σ s.heap) {a C d : Addr} {es : List DictEntry} {fs : List (Str × AV)} {m : Nat} {nm : Str} {expr : Bool} (h1 : s.heap.get? a = some (instObj C d)) (h2 : s.heap.get? d = some (dictOf es m)) (h3 : Strs es)
    (h4 : ∀ x, (fs.lookup x).isSome = (look x es).isSome) (h5 : ∀ x v y, fs.lookup x = some v → look x es = some y → Rep B v y) (h6 : ∀ x y, look x es = some y → InTab C x ∧ handedIn y = true)
    (h : getK nm fs (fun w => k w σ) (atK C clsTab fun l => getK nm l (fun w => k w σ) False)) : At cx Rep B σ s (getAttr (.ref a) nm expr) k := by
  obtain ⟨v, y, hr, hk, run⟩ := attr_inst' G.ok.kn (hR.kin G.ok) h1 h2 h3 h4 h5 h6 h
  exact At.now (y := y) (tk := s.toks + 1) hR (fun Q E q => run Q E q) hr hk
theorem Rel.sys (G : Gd ec cx) (hR : Rel cx B σ s.heap) : (s.heap.objs.size == sysModules) = false := by
  obtain ⟨p, loose, mg, mb, T⟩ := G.ok.top
  have T' := T.keeps (fun b o e => hR.keep b o (hR.gB b o e))
  obtain ⟨o, es, ep, e, _⟩ := T'.g
  have := Heap.lt_size e
  have h3 : mainGlobals = 3 := rfl
  have h1 : sysModules = 1 := rfl
  rw [h1]
  rw [h3] at this
  cases q : s.heap.objs.size == 1 with
  | false => rfl
  | true => rw [eq_of_beq q] at this; exact absurd this (by decide)
theorem attr_at (G : Gd ec cx) (hR : Rel cx B σ s.heap) {v : AV} {y : Value} {nm : Str} {expr : Bool} (hr : Rep B v y) (h : attrK v nm σ (fun w => k w σ)) : At cx Rep B σ s (getAttr y nm expr) k := by
  cases v with
  | obj C fs =>
    obtain ⟨a, d, es, m, rfl, h1, h2, h3, h4, h5, h6⟩ := hr.inv
    exact attr_inst G hR (hR.keep _ _ h1) (hR.keep _ _ h2) h3 h4 h5 h6 h
  | ref a =>
    obtain ⟨o, hm, h⟩ := h.go
    obtain rfl := hr.refL
    have t := hR.tab _ hm
    cases o with
    | inst C d fs =>
      obtain ⟨es, m, h1, h2, h3, _, h4, h5, h6⟩ := t.inv
      exact attr_inst G hR h1 h2 h3 h4 h5 h6 h
    | list _ => exact False.elim h
  | _ => exact False.elim h

theorem hole_mem {a : Addr} {o : AObj} {T : Led} {c : AObj → Led} (h : Hole a o T c) : (a, o) ∈ T ∧ c o = T := by
  induction h with
  | head => exact ⟨.head _, rfl⟩
  | tail _ ih => exact ⟨.tail _ ih.1, by show _ :: _ = _; rw [ih.2]⟩
theorem hole_split {a : Addr} {o : AObj} {T : Led} {c : AObj → Led} (h : Hole a o T c) : ∃ pre post, T = pre ++ (a, o) :: post ∧ ∀ o', c o' = pre ++ (a, o') :: post := by
  induction h with
  | head => exact ⟨[], _, rfl, fun _ => rfl⟩
  | tail _ ih =>
    rename_i p _ _ _
    obtain ⟨pre, post, e1, e2⟩ := ih
    exact ⟨p :: pre, post, by rw [e1]; rfl, fun o' => by show _ :: _ = _; rw [e2]; rfl⟩
theorem addrs_append (S T : Led) : addrs (S ++ T) = addrs S ++ addrs T := List.flatMap_append
theorem addrs_cons (p : Addr × AObj) (T : Led) : addrs (p :: T) = fpt p ++ addrs T := rfl

/-- one thing of the ledger turns; nothing else does -/
theorem Rel.turn {cx : Cx} {h h' : Heap} (r : Rel cx B σ h) {a : Addr} {o o' : AObj} {c : AObj → Led} (H : Hole a o σ.T c) (hf : fpt (a, o') = fpt (a, o))
    (hk : ∀ b o'', b ∉ fpt (a, o) → b ≠ cx.L → h.get? b = some o'' → h'.get? b = some o'') (hns : ∀ m, h.Ns cx.L m → h'.Ns cx.L m) (ho : ObjAt B h' a o') : Nx cx B σ h B ⟨σ.loc, c o'⟩ h' := by
  obtain ⟨pre, post, e1, e2⟩ := hole_split H
  have ea : addrs (c o') = addrs σ.T := by rw [e2, e1, addrs_append, addrs_append, addrs_cons, addrs_cons, hf]
  have nd := r.nodup
  have hin : ∀ b ∈ fpt (a, o), b ∈ addrs σ.T := fun b hb => mem_addrs (hole_mem H).1 hb
  have nL : ∀ {p : Addr × AObj}, p ∈ σ.T → ∀ b ∈ fpt p, b ≠ cx.L := fun hp b hb q => r.Lnot (q ▸ mem_addrs hp hb)
  refine ⟨⟨fun b o'' e => hk b o'' (fun q => ?_) (fun q => by rw [q, r.Lnone] at e; cases e) (r.keep b o'' e), r.gB, ?_, fun p hp => ?_, by rw [ea]; exact r.nodup, by rw [ea]; exact r.off⟩, fun b o'' e n0 nb => hk b o'' (fun q => nb (hin b q)) n0 e, .refl B, fun b hb => .inl (by rw [← ea]; exact hb), fun _ _ e => .inl e⟩
  · have := r.off b (.tail _ (hin b q)); rw [this] at e; cases e
  · obtain ⟨m, hn, hm⟩ := r.ns
    exact ⟨m, hns m hn, hm⟩
  · rw [e2] at hp
    rw [e1, addrs_append, addrs_cons] at nd
    have nd := (List.nodup_cons.mp nd).2
    have n1 := List.nodup_append.mp nd
    have n2 := List.nodup_append.mp n1.2.1
    rcases List.mem_append.mp hp with hp | hp
    · have hp' : p ∈ σ.T := by rw [e1]; exact List.mem_append_left _ hp
      refine (r.tab p hp').mono (.refl B) fun b hb o'' e => hk b o'' (fun q => ?_) (nL hp' b hb) e
      exact n1.2.2 b (mem_addrs hp hb) b (List.mem_append_left _ q) rfl
    · rcases List.mem_cons.mp hp with rfl | hp
      · exact ho
      · have hp' : p ∈ σ.T := by rw [e1]; exact List.mem_append_right _ (.tail _ hp)
        refine (r.tab p hp').mono (.refl B) fun b hb o'' e => hk b o'' (fun q => ?_) (nL hp' b hb) e
        exact n2.2.2 b q b (mem_addrs hp hb) rfl
theorem ns_uniq {h : Heap} {L : Addr} {m m' : Str → Option Value} (x : h.Ns L m) (y : h.Ns L m') : m = m' := by
  obtain ⟨o, es, ep, e1, e2, _, e3⟩ := x
  obtain ⟨o', es', ep', f1, f2, _, f3⟩ := y
  rw [e1] at f1; cases f1
  rw [e2] at f2; cases f2
  funext z
  rw [← e3, ← f3]
end
end
section
open PySem PySem.W PyProof.Rows PySem.Calls PySem.Spec
section
variable {ec : EC} {cx : Cx} {B : Base} {σ : AS} {s : Shared} {k : KV}

/-- all that stands, as a ledger -/
noncomputable def allNews (h : Heap) (L d : Addr) : List (Addr × Obj) := (List.range h.objs.size).filterMap fun a => if a = L ∨ a = d then none else (h.get? a).map fun o => (a, o)
theorem mem_allNews {h : Heap} {L d : Addr} {p : Addr × Obj} : p ∈ allNews h L d ↔ (h.get? p.1 = some p.2 ∧ p.1 ≠ L ∧ p.1 ≠ d) := by
  unfold allNews
  rw [List.mem_filterMap]
  constructor
  · rintro ⟨a, _, e⟩
    split at e
    · cases e
    · rename_i q
      obtain ⟨o, e1, rfl⟩ := Option.map_eq_some_iff.mp e
      exact ⟨e1, fun r => q (.inl r), fun r => q (.inr r)⟩
  · rintro ⟨e, n1, n2⟩
    refine ⟨p.1, List.mem_range.mpr (Heap.lt_size e), ?_⟩
    rw [if_neg (fun q => q.elim n1 n2), e]; rfl
noncomputable def noHeap : Heap := {}
theorem noHeap_get (a : Addr) : noHeap.get? a = none := by simp [noHeap, Heap.get?]

theorem handed_of {v : AV} {y : Value} (hr : Rep B v y) (h : notBi v = true) : handedIn y = true := by
  cases hr <;> first | rfl | exact ff h

theorem setattr_at (G : Gd ec cx) (hR : Rel cx B σ s.heap) {ov v : AV} {y z : Value} {nm : Str} {kk : AS → Prop} (hr : Rep B ov y) (hv : Rep B v z) (h : setAttrK ov nm v σ kk) :
    At cx (fun _ (_ _ : Unit) => True) B σ s (setAttr y nm z) (fun _ => kk) := by
  cases ov with
  | ref a =>
    obtain rfl := hr.refL
    obtain ⟨o, c, H, h⟩ := h.go
    cases o with
    | inst C d fs =>
      obtain ⟨l, hl, h⟩ := atK_iff h
      obtain ⟨hc, h⟩ := cond_l h
      simp only [Bool.and_eq_true] at hc
      obtain ⟨hc, hb, hlen⟩ := hc
      have hlen := Nat.le_of_ble_eq_true hlen
      have hin : InTab C nm := ⟨l, hl, nameK_iff hc⟩
      have h := (setK_iff h).go
      have X := hR.kin G.ok
      have f := fields_ok G.ok.kn hin
      unfold fieldB at f
      simp only [Bool.and_eq_true] at f
      obtain ⟨⟨⟨⟨⟨f1, f2⟩, f3⟩, f4⟩, f5⟩, f6⟩ := f
      have t := hR.tab _ (hole_mem H).1
      obtain ⟨es, m, h1, h2, h3, h4, h5, h6, h7⟩ := t.inv
      have I := InstAt.mk' h1 h2
      have nd := hR.nodup
      have ne : d ≠ cx.L := fun q => hR.Lnot (q ▸ mem_addrs (hole_mem H).1 (by simp [fpt]))
      obtain ⟨m₀, hn, hm⟩ := hR.ns
      intro Q E hQ
      refine set_plain (s := s) (E := E) X I (beq_iff_eq.mp f6) ?_
      have F : Fr noHeap cx.L s.heap m₀ := ⟨hn, (fun b o e => by rw [noHeap_get] at e; cases e), Nat.zero_le _⟩
      have N : News noHeap cx.L s.heap ([] ++ (d, dictOf es m) :: allNews s.heap cx.L d) := by
        intro p hp
        rcases List.mem_cons.mp hp with rfl | hp
        · exact ⟨h2, ne, noHeap_get _⟩
        · obtain ⟨a1, a2, a3⟩ := mem_allNews.mp hp
          exact ⟨a1, a2, noHeap_get _⟩
      have lk : (lookIn nm (dictOf es m)).isSome = true := by rw [lookIn_dict, getL_look h3]; rfl
      have hz := putL_length nm (PyData.keyHash cx.w.params nm) (.str nm (s.toks + 1)) z es
      refine osa_dict (s := { s with toks := s.toks + 1 }) (od' := dictOf (putL nm (PyData.keyHash cx.w.params nm) (.str nm (s.toks + 1)) z es) (putN nm es m)) F N X I rfl f5 (beq_iff_eq.mp f4) f1 lk (fun _ h => nomatch h) (fun p hp => (mem_allNews.mp hp).2.2) (putName_dict ..) rfl (by omega) fun h' F' N' => ?_
      have D' := (N' (d, _) (.head _)).1
      have keep : ∀ b o, b ≠ d → b ≠ cx.L → s.heap.get? b = some o → h'.get? b = some o := fun b o n1 n2 e => (N' (b, o) (.tail _ (mem_allNews.mpr ⟨e, n2, n1⟩))).1
      have ad : a ≠ d := fun q => by rw [q, h2] at h1; cases h1
      have aL : a ≠ cx.L := fun q => hR.Lnot (q ▸ mem_addrs (hole_mem H).1 (by simp [fpt]))
      refine hQ B () ⟨σ.loc, c (.inst C d (setL nm v fs))⟩ () h' _ (hR.turn H rfl (fun b o nb n0 e => keep b o (fun q => nb (by simp [fpt, q])) n0 e) (fun m' hm' => by rw [ns_uniq hm' hn]; exact F'.ns) ?_) trivial h
      refine .inst (keep _ _ ad aL h1) D' (strs_put h3 _ _ _ _) ?_ (fun x => ?_) (fun x v' y e1 e2 => ?_) (fun x y e => ?_)
      · cases q : look nm es with
        | some y =>
          rw [putL_length_old _ _ _ _ _ (any_of_look q)]
          exact Nat.le_trans h4 (setL_length ..)
        | none =>
          have : fs.lookup nm = none := by
            have := h5 nm
            rw [q] at this
            cases r : fs.lookup nm with
            | none => rfl
            | some _ => rw [r] at this; cases this
          rw [setL_length_new _ _ _ this]
          exact Nat.le_trans (putL_length ..) (Nat.succ_le_succ h4)
      · rw [lookup_setL, look_put _ _ _ _ _ h3]
        split
        · rfl
        · exact h5 x
      · rw [lookup_setL] at e1
        rw [look_put _ _ _ _ _ h3] at e2
        split at e1
        · rename_i q; rw [if_pos q] at e2; cases e1; cases e2; exact hv
        · rename_i q; rw [if_neg q] at e2; exact h6 x v' y e1 e2
      · rw [look_put _ _ _ _ _ h3] at e
        split at e
        · rename_i q; cases e; subst q; exact ⟨hin, handed_of hv hb⟩
        · exact h7 x y e
    | list _ => exact False.elim h
  | _ => exact False.elim h
end
end
section
open PySem PySem.W PyProof.Rows PySem.Calls PySem.Spec
theorem starEach_cons {e : PySem.Expr} {es : List PySem.Expr} {env : Env} (h : noStar (e :: es) = true) : starEach (e :: es) env = (false, eval e env) :: starEach es env ∧ noStar es = true := by
  cases e <;> first | exact ⟨rfl, h⟩ | exact ff h
theorem star_any {pos : Pos} {env : Env} {es : List PySem.Expr} (h : noStar es = true) : (backTo pos (starEach es env)).any (·.1) = false := by
  induction es with
  | nil => rfl
  | cons e es ih =>
    obtain ⟨e1, e2⟩ := starEach_cons (env := env) h
    rw [e1]
    show (false || (backTo pos (starEach es env)).any (·.1)) = false
    rw [ih e2]; rfl

section
variable {ec : EC} {cx : Cx} {B : Base} {σ : AS} {s : Shared} {k : KV}
theorem evL_at {ev : PySem.Expr → AS → KV → Prop} (ih : ∀ e σ k, ev e σ k → Tr cx Rep (eval e cx.env) σ k) {pos : Pos} {es : List PySem.Expr} : ∀ {σ : AS} {k : List AV → AS → Prop}, noStar es = true → evL ev es σ k → Tr cx RepL (spliced (backTo pos (starEach es cx.env))) σ k := by
  induction es with
  | nil => exact fun {σ k} _ h B s hR Q E hQ => spliced_nil (hQ B [] σ [] _ s.toks (.refl hR) .nil h)
  | cons e es IH =>
    intro σ k hs h B s hR Q E hQ
    obtain ⟨e1, e2⟩ := starEach_cons (env := cx.env) hs
    refine wpAny_items_cons (ih e σ _ h B s hR _ E fun B1 v σ1 y h1 tk1 n1 r1 k1 => ?_) e1
    exact IH e2 k1 B1 _ n1.rel _ E fun B2 vs σ2 ys h2 tk2 n2 r2 k2 => hQ B2 (v :: vs) σ2 (y :: ys) h2 tk2 (n1.trans n2) (.cons (r1.mono n2.stp.bm) r2) k2

theorem evalArgs_at {M : Model} {A : Around} {E : Value → Shared → Prop} {env : Env} {f : Value} {pos : Pos} {Q : Args → Shared → Prop} : ∀ {es : List PySem.Expr}, noStar es = true →
    wpAny M A (spliced (backTo pos (starEach es env))) (fun vs s1 => Q ⟨vs, []⟩ s1) E s → wpAny M A (evalArgs f true (backTo pos (starEach es env)) []) Q E s
  | [], _, h => by
    unfold evalArgs
    show wpAny M A (spliced [] >>= _) Q E s
    refine wpAny_bind (wpAny_mono h (fun vs s' h' => ?_) fun _ _ x => x)
    refine wpAny_holding ?_
    exact wpAny_bind (wpAny_pure (wpAny_bind (wpAny_pure (wpAny_pure h'))))
  | e :: es, hs, h => by
    obtain ⟨e1, e2⟩ := starEach_cons (env := env) hs
    rw [e1] at h ⊢
    exact evalArgs_plain h
theorem base_ok {o : PySem.Expr} {nm : Str} {env : Env} (h : baseOk o = true) (t : Sem Value) : attributeBase o nm env t = t := by
  cases o with
  | Name _ _ => rfl
  | Attribute _ _ _ => rfl
  | Subscript _ _ _ => rfl
  | Call f as _ _ =>
    cases f with
    | Name _ _ =>
      cases as with
      | nil => exact ff h
      | cons _ _ => rfl
    | _ => exact ff h
  | _ => exact ff h

theorem keep_val (v : Value) (h : ∀ a, v ≠ .ref a) : keeperOf v = pure .machine := by
  cases v <;> first | rfl | exact absurd rfl (h _)

/-- a call whose callee is known -/
theorem callWith_at {ev : PySem.Expr → AS → KV → Prop} (G : Gd ec cx) (ih : ∀ e σ k, ev e σ k → Tr cx Rep (eval e cx.env) σ k) (hR : Rel cx B σ s.heap) {pos : Pos} {f : Value} {first : List Value} {es : List PySem.Expr} {kk : List AV → AS → Prop}
    (hs : noStar es = true) (hk : (∀ a, f ≠ .ref a) ∨ keepIn cx.K f = true) (h : evL ev es σ kk)
    (run : ∀ B1 vs σ1 ys h1 tk1, Nx cx B σ s.heap B1 σ1 h1 → RepL B1 vs ys → kk vs σ1 → At cx Rep B1 σ1 { s with heap := h1, toks := tk1 } (call f (first ++ ys)) k) :
    At cx Rep B σ s (callWith pos f first (backTo pos (starEach es cx.env)) []) k := fun Q E hQ => by
  refine callWith_of (P := fun h => cx.K.In h) (by rw [star_any hs]; rfl) (fun h X => ?_) (evalArgs_at hs (evL_at ih hs h B s hR _ E fun B1 vs σ1 ys h1 tk1 n1 r1 k1 => ⟨n1.rel.kin G.ok, ?_⟩))
  · rcases hk with hk | hk
    · exact ⟨.machine, .inr (.inl rfl), Looks.of_pure (keep_val f hk)⟩
    · exact keeps_K hk h X
  · exact run B1 vs σ1 ys h1 tk1 n1 r1 k1 Q E fun B' b σ' y h' tk n2 r e => hQ B' b σ' y h' tk (n1.trans n2) r e
/-- the method that an object's class hands on -/
theorem meth_at (G : Gd ec cx) (hR : Rel cx B σ s.heap) {a C d : Addr} {fs : List (Str × AV)} {nm : Str} {f : Addr} {l : List (Str × Addr)} {pl : Sem Bool} {Q : Value × List Value → Shared → Prop} {E : Value → Shared → Prop}
    (hm : (a, AObj.inst C d fs) ∈ σ.T) (hf : hasK nm fs = false) (hl : (C, l) ∈ methTab) (hn : (nm, f) ∈ l) (h : Q (.ref f, [.ref a]) s) : wpAny (model cx.prog cx.w) cx.A (getMethod (.ref a) nm pl) Q E s := by
  have t := hR.tab _ hm
  obtain ⟨es, m, h1, h2, h3, _, h4, h5, h6⟩ := t.inv
  have X := hR.kin G.ok
  have I := InstAt.mk' h1 h2
  have g := List.all_eq_true.mp (List.all_eq_true.mp G.ok.kn.meths _ hl) _ hn
  unfold methB at g
  simp only [Bool.and_eq_true] at g
  obtain ⟨⟨⟨g1, g2⟩, g3⟩, g4⟩ := g
  have hn : look nm es = none := by
    have := h4 nm
    rw [hasK_iff hf] at this
    cases q : look nm es with
    | none => rfl
    | some _ => rw [q] at this; cases this
  exact method_fn X I (plainGet_of g1).1 (plainGet_of g1).2 (beq_iff_eq.mp g2) (beq_iff_eq.mp g3) (by show (lookIn nm (dictOf _ _)).map _ = _; rw [lookIn_dict, getL_look h3, hn]; rfl) h
theorem meth_keep {K : Frag} (kn : Kn K) {C : Addr} {nm : Str} {f : Addr} {l : List (Str × Addr)} (hl : (C, l) ∈ methTab) (hn : (nm, f) ∈ l) : keepIn K (.ref f) = true := by
  have g := List.all_eq_true.mp (List.all_eq_true.mp kn.meths _ hl) _ hn
  unfold methB at g
  simp only [Bool.and_eq_true] at g
  exact g.2
end
end
section
open PySem PySem.W PyProof.Rows PySem.Calls PySem.Spec PySem.SeqAt
theorem intsK_iff {xs : List AV} : ∀ {k : List Int → Prop}, intsK xs k → ∃ ns : List Int, xs = ns.map AV.int ∧ k ns := by
  induction xs with
  | nil => exact fun {k} h => ⟨[], rfl, h⟩
  | cons x r ih =>
    intro k h
    have h : intI x fun i => intsK r fun ns => k (i :: ns) := by cases x <;> exact h
    obtain ⟨i, rfl, h⟩ := intI_iff h
    obtain ⟨ns, e, hk⟩ := ih h
    exact ⟨i :: ns, by rw [e]; rfl, hk⟩
theorem ints_are {B : Base} {ns : List Int} : ∀ {vs : List Value}, RepL B (ns.map AV.int) vs → IntsAre vs ns := by
  induction ns with
  | nil => exact fun {vs} r => by rw [r.nilL]; exact .nil
  | cons n ns ih =>
    intro vs r
    obtain ⟨y, zs, rfl, h, r2⟩ := r.consL
    obtain ⟨t, rfl⟩ := h.intL
    exact .cons _ _ (ih r2)
theorem isTup_of {h : Heap} {a : Addr} {vs : List Value} {n : Nat} (e : h.get? a = some (tupO vs n)) : h.IsTuple a vs.toArray := ⟨_, e, rfl, n, rfl⟩
theorem isList_of {h : Heap} {a : Addr} {vs : List Value} {n : Nat} (e : h.get? a = some (listO vs n)) : h.IsList a vs.toArray := ⟨_, e, rfl, n, rfl⟩

section
variable {ec : EC} {cx : Cx} {B : Base} {σ : AS} {s : Shared} {k : KV}
theorem truth_at (hR : Rel cx B σ s.heap) {v : AV} {y : Value} {kb : KB} (hr : Rep B v y) (h : truthK v (fun b => kb b σ)) : At cx (fun _ (b c : Bool) => b = c) B σ s (truthy y) kb := by
  cases v with
  | bool b =>
    obtain rfl := hr.boolL
    exact At.now (tk := s.toks) hR (fun Q E q => wpAny_truthy_bool q) rfl h
  | none =>
    obtain rfl := hr.noneL
    exact At.now (tk := s.toks) hR (fun Q E q => truthy_none q) rfl h
  | _ => exact False.elim h

theorem isNone_eq {v : AV} {y : Value} (hr : Rep B v y) : (y == Value.none) = isNone v := by
  cases hr <;> first | rfl | (rename_i b; cases b <;> rfl)
theorem listK_iff {v : AV} {k : List AV → Prop} (h : listK v σ k) : ∃ xs, k xs ∧ (v = .lst xs ∨ ∃ a, v = .ref a ∧ (a, AObj.list xs) ∈ σ.T) := by
  cases v with
  | lst xs => exact ⟨_, h, .inl rfl⟩
  | ref a =>
    obtain ⟨o, hm, h⟩ := h.go
    cases o with
    | list xs => exact ⟨_, h, .inr ⟨_, rfl, hm⟩⟩
    | inst _ _ _ => exact False.elim h
  | _ => exact False.elim h
theorem list_here (hR : Rel cx B σ s.heap) {v : AV} {y : Value} {xs : List AV} (hr : Rep B v y) (h : v = .lst xs ∨ ∃ a, v = .ref a ∧ (a, AObj.list xs) ∈ σ.T) : ∃ a vs n, y = .ref a ∧ s.heap.get? a = some (listO vs n) ∧ RepL B xs vs := by
  rcases h with rfl | ⟨a, rfl, hm⟩
  · obtain ⟨a, vs, n, e, hb, hl⟩ := hr.lstL
    exact ⟨a, vs, n, e, hR.keep _ _ hb, hl⟩
  · obtain rfl := hr.refL
    obtain ⟨vs, n, h1, h2⟩ := (hR.tab _ hm).inv
    exact ⟨a, _, _, rfl, h1, h2⟩

theorem sli_here (hR : Rel cx B σ s.heap) {v : AV} {y : Value} {k : List AV → Prop} (hr : Rep B v y) (h : sliK v σ k) : ∃ xs, k xs ∧ ∃ a vs, y = .ref a ∧ s.heap.IsList a vs.toArray ∧ RepL B xs vs := by
  have alt : listK v σ k → ∃ xs, k xs ∧ ∃ a vs, y = .ref a ∧ s.heap.IsList a vs.toArray ∧ RepL B xs vs := fun h => by
    obtain ⟨xs, k, hx⟩ := listK_iff h
    obtain ⟨a, vs, m, e, h1, hl⟩ := list_here hR hr hx
    exact ⟨xs, k, a, vs, e, isList_of h1, hl⟩
  cases v with
  | src xs =>
    obtain ⟨a, vs, o, m, rfl, h1, h2, h3, hl⟩ := hr.inv
    exact ⟨_, h, _, _, rfl, ⟨_, hR.keep _ _ h1, h2, _, h3⟩, hl⟩
  | _ => exact alt h

theorem reads_tup {h : Heap} {a : Addr} {vs : List Value} {ns : List Int} (hl : h.IsTuple a vs.toArray) (hi : IntsAre vs ns) : Reads h (.ref a) (.tuple (ns.map PyData.int)) [] := by
  obtain ⟨o, ho, hc, n, hd⟩ := hl
  exact Reads.tuple ho hc hd (by simpa using readsAll_of_ints hi)
theorem shaped_tup (ns : List Int) : PySem.SeqAt.shaped (.tuple (ns.map PyData.int)) = true := by
  have h1 := W.depthAll_ints ns
  have h2 : PyData.depth (.tuple (ns.map PyData.int)) ≤ 64 := by simp only [PyData.depth]; omega
  show (PyData.canLay0 (.tuple (ns.map PyData.int)) && decide (PyData.depth (.tuple (ns.map PyData.int)) ≤ 64)) = true
  rw [Bool.and_eq_true]
  exact ⟨by simp only [PyData.canLay0]; exact W.canLayAll0_ints ns, decide_eq_true h2⟩

noncomputable def BoolRep (_ : Base) (b : Bool) (v : Value) : Prop := v = .bool b
section
variable {a b : AV} {y z : Value} {kb : KB}
theorem two_ints (ha : Rep B a y) (hb : Rep B b z) {k : Int → Int → Prop} (h : intI a fun a => intI b fun b => k a b) : ∃ i j t u, y = .int i t ∧ z = .int j u ∧ k i j := by
  obtain ⟨i, rfl, h1⟩ := intI_iff h
  obtain ⟨j, rfl, h2⟩ := intI_iff h1
  obtain ⟨t, rfl⟩ := ha.intL
  obtain ⟨u, rfl⟩ := hb.intL
  exact ⟨i, j, t, u, rfl, rfl, h2⟩
theorem int_tup (hR : Rel cx B σ s.heap) (ha : Rep B a y) (hb : Rep B b z) {k : Int → List Int → Prop} (h : intI a fun a => tupI b fun xs => intsK xs fun ns => k a ns) : ∃ i ns t l vs, y = .int i t ∧ z = .ref l ∧ s.heap.IsTuple l vs ∧ IntsAre vs.toList ns ∧ k i ns := by
  obtain ⟨i, rfl, h1⟩ := intI_iff h
  obtain ⟨xs, rfl, h2⟩ := tupI_iff h1
  obtain ⟨ns, rfl, h3⟩ := intsK_iff h2
  obtain ⟨t, rfl⟩ := ha.intL
  obtain ⟨l, vs, m, rfl, e, hl⟩ := hb.tupL
  exact ⟨i, ns, t, l, vs.toArray, rfl, rfl, isTup_of (hR.keep _ _ e), ints_are hl, h3⟩
theorem two_seqs {xs ys : List AV} {k : List Int → List Int → Prop} (h : intsK xs fun ns => intsK ys fun ms => k ns ms) : ∃ ns ms, xs = ns.map AV.int ∧ ys = ms.map AV.int ∧ k ns ms := by
  obtain ⟨ns, e, h⟩ := intsK_iff h
  obtain ⟨ms, e', h⟩ := intsK_iff h
  exact ⟨ns, ms, e, e', h⟩
theorem two_tups (hR : Rel cx B σ s.heap) {ns ms : List Int} (ha : Rep B (.tup (ns.map AV.int)) y) (hb : Rep B (.tup (ms.map AV.int)) z) : Reads s.heap y (.tuple (ns.map PyData.int)) [] ∧ Reads s.heap z (.tuple (ms.map PyData.int)) [] := by
  obtain ⟨a, vs, m, rfl, e, hl⟩ := ha.tupL
  obtain ⟨a', vs', m', rfl, e', hl'⟩ := hb.tupL
  exact ⟨reads_tup (isTup_of (hR.keep _ _ e)) (ints_are hl), reads_tup (isTup_of (hR.keep _ _ e')) (ints_are hl')⟩
theorem any_contains (ns : List Int) (i : Int) : (ns.any fun x => x == i) = ns.contains i := by
  rw [List.contains_eq_any_beq]
  congr 1
  funext x
  exact Bool.beq_comm
theorem eq_at (hu : cx.A.units + 64 < cLine) (hR : Rel cx B σ s.heap) (ha : Rep B a y) (hb : Rep B b z) (h : eqK a b (fun c => kb c σ)) : At cx BoolRep B σ s (compareOp .Eq y z) kb := by
  cases a with
  | int i =>
    obtain ⟨i, j, t, u, rfl, rfl, h⟩ := two_ints ha hb (k := fun i j => kb (decide (i = j)) σ) h
    exact At.now (tk := s.toks) hR (fun Q E q => eq_int q) rfl h
  | bool i =>
    cases b with
    | bool j =>
      obtain rfl := ha.boolL
      obtain rfl := hb.boolL
      exact At.now (tk := s.toks) hR (fun Q E q => eq_bool q) rfl h
    | _ => exact False.elim h
  | tup xs =>
    obtain ⟨ys, rfl, h1⟩ := tupI_iff h
    obtain ⟨ns, ms, rfl, rfl, h2⟩ := two_seqs h1
    obtain ⟨r1, r2⟩ := two_tups hR ha hb
    exact At.now (tk := s.toks) hR (fun Q E q => eq_dataH_same r1 r2 (shaped_tup ns) (shaped_tup ms) hu
      (by simp only [PySem.SeqAt.noMix]; exact noMix_ints ns ms) (by simp only [PySem.Spec.same]; rw [same_ints]; exact q)) rfl h2
  | lst xs =>
    obtain ⟨ys, rfl, h1⟩ := lstI_iff h
    obtain ⟨ns, ms, rfl, rfl, h2⟩ := two_seqs h1
    obtain ⟨a, vs, m, rfl, e, hl⟩ := ha.lstL
    obtain ⟨a', vs', m', rfl, e', hl'⟩ := hb.lstL
    exact At.now (tk := s.toks) hR (fun Q E q => eq_intsK (isList_of (hR.keep _ _ e)) (ints_are hl) (isList_of (hR.keep _ _ e')) (ints_are hl') hu q) rfl h2
  | _ => exact False.elim h
theorem ne_at (hu : cx.A.units + 64 < cLine) (hR : Rel cx B σ s.heap) (ha : Rep B a y) (hb : Rep B b z) (h : neK a b σ (fun c => kb c σ)) : At cx BoolRep B σ s (compareOp .NotEq y z) kb := by
  cases b with
  | int j =>
    obtain ⟨i, rfl, h1⟩ := intI_iff h
    obtain ⟨t, rfl⟩ := ha.intL
    obtain ⟨u, rfl⟩ := hb.intL
    exact At.now (tk := s.toks) hR (fun Q E q => ne_int q) rfl h1
  | tup ys =>
    obtain ⟨xs, rfl, h1⟩ := tupI_iff h
    obtain ⟨ns, ms, rfl, rfl, h2⟩ := two_seqs h1
    obtain ⟨r1, r2⟩ := two_tups hR ha hb
    exact At.now (tk := s.toks) hR (fun Q E q => ne_dataH_same r1 r2 (shaped_tup ns) (shaped_tup ms) hu
      (by simp only [PySem.SeqAt.noMix]; exact noMix_ints ns ms) (by simp only [PySem.Spec.same]; rw [same_ints]; exact q)) rfl h2
  | lst ys =>
    obtain ⟨rfl, h⟩ := nilI_iff h
    obtain ⟨xs, h, hx⟩ := listK_iff h
    obtain ⟨a, vs, m, rfl, e, hl⟩ := list_here hR ha hx
    obtain ⟨a', vs', m', rfl, e', hl'⟩ := hb.lstL
    obtain rfl := hl'.nilL
    have hu' : cx.A.units < cLine := by omega
    cases xs with
    | nil =>
      obtain rfl := hl.nilL
      exact At.now (tk := s.toks) hR (fun Q E q => RcNeAt.lists (e := fun _ => true) (isList_of e) (isList_of (hR.keep _ _ e')) rfl hu' (fun j h1 _ => absurd h1 (Nat.not_lt_zero _)) _ _ E Q q) rfl h
    | cons _ _ =>
      obtain ⟨_, _, rfl, _, _⟩ := hl.consL
      exact At.now (tk := s.toks) hR (fun Q E q => RcNeAt.lists_lengths (isList_of e) (isList_of (hR.keep _ _ e')) (by simp) hu' _ _ E Q q) rfl h
  | _ => exact False.elim h
theorem cmp_at (G : Gd ec cx) (hR : Rel cx B σ s.heap) {op : CmpOp} (ha : Rep B a y) (hb : Rep B b z) (h : cmpK op a b σ (fun c => kb c σ)) : At cx BoolRep B σ s (compareOp op y z) kb := by
  have hu : cx.A.units + 64 < cLine := by have := G.ok.units; omega
  cases op with
  | Is =>
    obtain ⟨rfl, h⟩ := noneI_iff h
    obtain rfl := hb.noneL
    exact At.now (tk := s.toks) hR (fun Q E q => is_none q) (congrArg Value.bool (isNone_eq ha)) h
  | IsNot =>
    obtain ⟨rfl, h⟩ := noneI_iff h
    obtain rfl := hb.noneL
    exact At.now (tk := s.toks) hR (fun Q E q => isNot_none q) (congrArg (fun b => Value.bool (!b)) (isNone_eq ha)) h
  | Eq => exact eq_at hu hR ha hb h
  | NotEq => exact ne_at hu hR ha hb h
  | Lt =>
    obtain ⟨i, j, t, u, rfl, rfl, h⟩ := two_ints ha hb (k := fun i j => kb (decide (i < j)) σ) h
    exact At.now (tk := s.toks) hR (fun Q E q => lt_int q) rfl h
  | LtE =>
    obtain ⟨i, j, t, u, rfl, rfl, h⟩ := two_ints ha hb (k := fun i j => kb (decide (i ≤ j)) σ) h
    exact At.now (tk := s.toks) hR (fun Q E q => le_int q) rfl h
  | Gt =>
    obtain ⟨i, j, t, u, rfl, rfl, h⟩ := two_ints ha hb (k := fun i j => kb (decide (j < i)) σ) h
    exact At.now (tk := s.toks) hR (fun Q E q => gt_int q) rfl h
  | GtE =>
    obtain ⟨i, j, t, u, rfl, rfl, h⟩ := two_ints ha hb (k := fun i j => kb (decide (j ≤ i)) σ) h
    exact At.now (tk := s.toks) hR (fun Q E q => ge_int q) rfl h
  | In =>
    obtain ⟨i, ns, t, l, vs, rfl, rfl, e, hi, h⟩ := int_tup hR ha hb (k := fun i ns => kb (ns.contains i) σ) h
    exact At.now (tk := s.toks) hR (fun Q E q => in_tuple_ints e hi q) (congrArg Value.bool (any_contains ns i)) h
  | NotIn =>
    obtain ⟨i, ns, t, l, vs, rfl, rfl, e, hi, h⟩ := int_tup hR ha hb (k := fun i ns => kb (!ns.contains i) σ) h
    exact At.now (tk := s.toks) hR (fun Q E q => notin_tuple_ints e hi q) (congrArg (fun b => Value.bool (!b)) (any_contains ns i)) h
end
end
end
section
open PySem PySem.W PyProof.Rows PySem.Calls PySem.Spec PySem.SeqAt
section
variable {ec : EC} {cx : Cx} {B : Base} {σ : AS} {s : Shared} {k : KV}

/-- a new sequence that never changes -/
theorem Rel.lay (hR : Rel cx B σ s.heap) (o : Obj) (hf : o.isFreed = false) : Nx cx B σ s.heap (bset B s.heap.objs.size o) σ (s.heap.push o) :=
  hR.freezeNew (push_none _) (fun _ _ e => Heap.get?_push_of_some _ e) (Heap.get?_push_size _ hf)
theorem newTuple_at (hR : Rel cx B σ s.heap) {vs : List AV} {ys : List Value} (hr : RepL B vs ys) (hl : vs.length ≤ 1000) (h : k (.tup vs) σ) : At cx Rep B σ s (newTuple ys) k := fun Q E hQ => by
  have N := hR.lay (tupO ys 0) rfl
  refine wpAny_newObj_type (hQ _ _ _ _ _ s.toks N ((hr.mono N.stp.bm).toTup bset_self) h) ?_
  show ys.toArray.size ≤ sizeLine
  rw [List.size_toArray, ← hr.length, sizeLine_eq]; omega
theorem newList_at (hR : Rel cx B σ s.heap) {vs : List AV} {ys : List Value} (hr : RepL B vs ys) (hl : vs.length ≤ 1000) (h : k (.lst vs) σ) : At cx Rep B σ s (newList ys) k := fun Q E hQ => by
  have N := hR.lay (listO ys 0) rfl
  refine wpAny_newObj_type (hQ _ _ _ _ _ s.toks N ((hr.mono N.stp.bm).toLst bset_self) h) ?_
  show ys.toArray.size ≤ sizeLine
  rw [List.size_toArray, ← hr.length, sizeLine_eq]; omega
/-- a new list that may change -/
theorem Rel.layT {cx : Cx} {h : Heap} (hR : Rel cx B σ h) {vs : List AV} {ys : List Value} (hr : RepL B vs ys) : Nx cx B σ h B ⟨σ.loc, (h.objs.size, .list vs) :: σ.T⟩ (h.push (listO ys 0)) := by
  have N := hR.grow (h' := h.push (listO ys 0)) (fun _ _ e => Heap.get?_push_of_some _ e)
  have hn := push_none h
  refine ⟨⟨N.rel.keep, N.rel.gB, N.rel.ns, fun p hp => ?_, ?_, fun a ha => ?_⟩, N.stp.ext, N.stp.bm, fun a ha => ?_, N.stp.newB⟩
  · rcases List.mem_cons.mp hp with rfl | hp
    · exact .list (Heap.get?_push_size _ rfl) hr
    · exact N.rel.tab p hp
  · have nd := hR.nodup
    rw [addrs_cons]
    show (cx.L :: h.objs.size :: addrs σ.T).Nodup
    obtain ⟨n1, n2⟩ := List.nodup_cons.mp nd
    refine List.nodup_cons.mpr ⟨fun q => ?_, List.nodup_cons.mpr ⟨fun q => ?_, n2⟩⟩
    · rcases List.mem_cons.mp q with q | q
      · obtain ⟨o, e⟩ := hR.hasL; rw [q, hn] at e; cases e
      · exact n1 q
    · obtain ⟨o, e⟩ := hR.hasT q; rw [hn] at e; cases e
  · rcases List.mem_cons.mp ha with rfl | ha
    · exact hR.Lnone
    · rw [addrs_cons] at ha
      rcases List.mem_append.mp ha with ha | ha
      · simp [fpt] at ha; subst ha; exact hR.none_of hn
      · exact hR.off a (.tail _ ha)
  · rw [addrs_cons] at ha
    rcases List.mem_append.mp ha with ha | ha
    · simp [fpt] at ha; subst ha; exact .inr hn
    · exact .inl ha
theorem newListT_at (hR : Rel cx B σ s.heap) {vs : List AV} {ys : List Value} (hr : RepL B vs ys) (hl : vs.length ≤ 1000) (h : ∀ a, k (.ref a) ⟨σ.loc, (a, .list vs) :: σ.T⟩) : At cx Rep B σ s (newList ys) k := fun Q E hQ => by
  refine wpAny_newObj_type (hQ _ _ _ _ _ s.toks (hR.layT hr) (.ref _) (h _)) ?_
  show ys.toArray.size ≤ sizeLine
  rw [List.size_toArray, ← hr.length, sizeLine_eq]; omega

theorem neg_at (hR : Rel cx B σ s.heap) {a : AV} {y : Value} (hr : Rep B a y) (h : negK a fun v => k v σ) : At cx Rep B σ s (unaryOp .USub y) k := by
  cases a with
  | int i =>
    obtain ⟨t, rfl⟩ := hr.intL
    exact At.now (tk := s.toks + 1) hR (fun Q E q => neg_int q) (.int _ _) h
  | _ => exact False.elim h
theorem bits_le (a : Int) (h1 : 2 ≤ a) (h2 : a ≤ 10) : Builtin.Int.intBits a ≤ 5 := by
  obtain ⟨m, rfl⟩ := Int.eq_ofNat_of_zero_le (show 0 ≤ a by omega)
  have key : ∀ m : Fin 11, Builtin.Int.intBits (m.val : Int) ≤ 5 := by decide
  exact key ⟨m, by omega⟩
theorem pow_ok {a b : Int} (h1 : 2 ≤ a) (h2 : a ≤ 10) (h3 : 1 ≤ b) (h4 : b ≤ 400) : ¬ Builtin.Int.intTooBig (((Builtin.Int.intBits a : Nat) : Int) * b) = true := by
  have e := bits_le a h1 h2
  have e2 : ((Builtin.Int.intBits a : Nat) : Int) * b ≤ 5 * 400 := Int.mul_le_mul (by omega) h4 (by omega) (by omega)
  unfold Builtin.Int.intTooBig
  have : bitsLine = 134217728 := by decide
  rw [this, decide_eq_true_eq]
  omega
theorem cat_at (hR : Rel cx B σ s.heap) {a b : AV} {y z : Value} (ha : Rep B a y) (hb : Rep B b z) (h : listK a σ fun xs => listK b σ fun ys => xs.length + ys.length ≤ 1000 ∧ k (.lst (xs ++ ys)) σ) : At cx Rep B σ s (binaryOp .Add y z) k := by
  obtain ⟨xs, h, hx⟩ := listK_iff h
  obtain ⟨ys, h, hy⟩ := listK_iff h
  obtain ⟨hz, h⟩ := h
  obtain ⟨l, vs, m, rfl, e, hl⟩ := list_here hR ha hx
  obtain ⟨l', vs', m', rfl, e', hl'⟩ := list_here hR hb hy
  intro Q E hQ
  obtain ⟨m₀, hn, hm⟩ := hR.ns
  have es : vs.toArray ++ vs'.toArray = (vs ++ vs').toArray := List.append_toArray ..
  have hz' : vs.toArray.size + vs'.toArray.size ≤ sizeLine := by simp only [List.size_toArray, ← hl.length, ← hl'.length]; rw [sizeLine_eq]; omega
  refine concat_meets ⟨_, e, rfl⟩ ⟨_, e', rfl⟩ noFill_list_add seq_list_add PySem.F.slot_list_add PySem.F.entry_list_add (PySem.F.args_list_add_2 _ _) (list_addW l l' vs.toArray vs'.toArray m m' none none #[] #[] hz') ⟨e, e', ?_⟩
  rw [es]
  have N := hR.lay (listO (vs ++ vs') 0) rfl
  exact hQ _ _ _ _ _ _ N (((hl.append hl').mono N.stp.bm).toLst bset_self) h
theorem bin_at (hR : Rel cx B σ s.heap) {op : Operator} {a b : AV} {y z : Value} (ha : Rep B a y) (hb : Rep B b z) (h : binK op a b σ (fun c => k c σ)) : At cx Rep B σ s (binaryOp op y z) k := by
  cases op with
  | Add =>
    cases a with
    | int i =>
      obtain ⟨i, j, t, u, rfl, rfl, h⟩ := two_ints ha hb (k := fun i j => k (.int (i + j)) σ) h
      exact At.now (tk := s.toks + 1) hR (fun Q E q => add_int q) (.int _ _) h
    | _ => exact cat_at hR ha hb h
  | Sub =>
    obtain ⟨i, j, t, u, rfl, rfl, h⟩ := two_ints ha hb (k := fun i j => k (.int (i - j)) σ) h
    exact At.now (tk := s.toks + 1) hR (fun Q E q => sub_int' q) (.int _ _) h
  | Mult =>
    obtain ⟨i, j, t, u, rfl, rfl, h⟩ := two_ints ha hb (k := fun i j => IntMulOk i j ∧ k (.int (i * j)) σ) h
    exact At.now (tk := s.toks + 1) hR (fun Q E q => mul_int q h.1) (.int _ _) h.2
  | FloorDiv =>
    obtain ⟨i, j, t, u, rfl, rfl, h⟩ := two_ints ha hb (k := fun i j => (j ≠ 0 ∧ j.natAbs < 1073741824) ∧ k (.int (i.fdiv j)) σ) h
    exact At.now (tk := s.toks + 1) hR (fun Q E q => floordiv_int h.1.1 q (.inl (PyProof.noPylong_small h.1.2))) (.int _ _) h.2
  | Mod =>
    obtain ⟨i, j, t, u, rfl, rfl, h⟩ := two_ints ha hb (k := fun i j => j ≠ 0 ∧ k (.int (i.fmod j)) σ) h
    exact At.now (tk := s.toks + 1) hR (fun Q E q => mod_int' h.1 q) (.int _ _) h.2
  | Pow =>
    obtain ⟨i, j, t, u, rfl, rfl, h⟩ := two_ints ha hb (k := fun i j => (2 ≤ i ∧ i ≤ 10 ∧ 1 ≤ j ∧ j ≤ 400) ∧ k (.int (i ^ j.toNat)) σ) h
    obtain ⟨⟨h1, h2, h3, h4⟩, h⟩ := h
    have l : (100000 : Int).natAbs = 100000 := rfl
    exact At.now (tk := s.toks + 1) hR (fun Q E q => AutoIntOps.pow_4 (by omega) (by simp; omega) (by simp; omega) (by simp; omega) (pow_ok h1 h2 h3 h4) q) (.int _ _) h
  | _ => exact False.elim h
theorem aug_at (hR : Rel cx B σ s.heap) {op : Operator} {a b : AV} {y z : Value} (ha : Rep B a y) (hb : Rep B b z) (h : augK op a b (fun c => k c σ)) : At cx Rep B σ s (inplaceOp op y z) k := by
  cases op with
  | Add =>
    obtain ⟨i, j, t, u, rfl, rfl, h⟩ := two_ints ha hb (k := fun i j => k (.int (i + j)) σ) h
    exact At.now (tk := s.toks + 1) hR (fun Q E q => iadd_int q) (.int _ _) h
  | _ => exact False.elim h
end
end
section
open PySem PySem.W PyProof.Rows PySem.Calls PySem.Spec PySem.SeqAt
theorem mapSeq_list (vs ws : List Value) (m : Nat) (f : Array Value → Array Value) (hf : f vs.toArray = ws.toArray) : ∃ m', Obj.mapSeq f (listO vs m) = listO ws m' := by
  unfold listO Obj.mapSeq
  simp only [hf]
  exact ⟨_, rfl⟩
theorem pick_cut (vs : List Value) (lo hi : Option Nat) : (slicePick vs.toArray (lo.map fun (n : Nat) => (n : Int)) (hi.map fun (n : Nat) => (n : Int)) none).toList = (match hi with | some n => vs.take n | none => vs).drop (lo.getD 0) := by
  cases lo with
  | none =>
    cases hi with
    | none =>
      have e : slicePick vs.toArray none none none = slicePick vs.toArray (some ((0 : Nat) : Int)) none none := by
        unfold slicePick
        congr 3 <;> simp [sliceBounds]
      rw [Option.map_none, e, slicePick_from']
      simp
    | some b =>
      rw [Option.map_none, Option.map_some, slicePick_upto']
      simp
  | some a =>
    cases hi with
    | none =>
      rw [Option.map_none, Option.map_some, slicePick_from']
      simp
    | some b =>
      rw [Option.map_some, Option.map_some]
      have e : sliceBounds (some (a : Int)) (some (b : Int)) none vs.toArray.size = (((min a vs.length : Nat) : Int), ((min b vs.length : Nat) : Int), 1) := by
        simp only [sliceBounds, Option.getD_none, List.size_toArray]
        have h1 : ¬ ((a : Int) < 0) := by omega
        have h2 : ¬ ((b : Int) < 0) := by omega
        simp only [h1, h2, if_false, show (1 : Int) > 0 by decide, if_true]
        congr 1
        · omega
        · congr 1; omega
      unfold slicePick
      rw [e]
      simp only [sliceRange_one, pick_run]
      simp only [Option.getD_some]
      rw [List.drop_take]
      apply List.ext_getElem?
      intro i
      simp only [List.getElem?_take, List.getElem?_drop]
      by_cases h1 : a ≤ vs.length
      · have : min a vs.length = a := by omega
        rw [this]
        by_cases h3 : i < b - a
        · rw [if_pos h3]
          by_cases h4 : i < min b vs.length - a
          · rw [if_pos h4]
          · rw [if_neg h4, List.getElem?_eq_none (by omega)]
        · rw [if_neg h3, if_neg (by omega)]
      · have e1 : min b vs.length - min a vs.length = 0 := by omega
        rw [e1, if_neg (by omega), List.getElem?_eq_none (by omega)]
        split <;> rfl

section
variable {ec : EC} {cx : Cx} {B : Base} {σ : AS} {s : Shared} {k : KV}
theorem itemsK_iff {v : AV} {k : List AV → Prop} (h : itemsK v σ k) : ∃ xs, k xs ∧ (v = .tup xs ∨ v = .lst xs ∨ ∃ a, v = .ref a ∧ (a, AObj.list xs) ∈ σ.T) := by
  cases v with
  | lst xs => exact ⟨_, h, .inr (.inl rfl)⟩
  | tup xs => exact ⟨_, h, .inl rfl⟩
  | ref a =>
    obtain ⟨o, hm, h⟩ := h.go
    cases o with
    | list xs => exact ⟨_, h, .inr (.inr ⟨_, rfl, hm⟩)⟩
    | inst _ _ _ => exact False.elim h
  | _ => exact False.elim h
theorem idxK_iff {o : Option AV} {k : AV → Prop} (h : idxK o k) : ∃ v, o = some v ∧ k v := by
  cases o with
  | some v => exact ⟨_, rfl, h⟩
  | none => exact False.elim h
theorem pyIdx_iff {xs : List AV} {i : Int} {v : AV} (h : pyIdx xs i = some v) : ∃ j, seqIndex? i xs.length = some j ∧ xs[j]? = some v ∧ ((0 ≤ i ∧ j = i.toNat) ∨ (i < 0 ∧ -(xs.length : Int) ≤ i ∧ j = (i + xs.length).toNat)) := by
  unfold pyIdx at h
  cases q : decide (0 ≤ i) with
  | true =>
    rw [q, cond_true] at h
    have q := of_decide_eq_true q
    have hlt : i.toNat < xs.length := by
      rcases Nat.lt_or_ge i.toNat xs.length with h' | h'
      · exact h'
      · rw [List.getElem?_eq_none h'] at h; cases h
    refine ⟨i.toNat, ?_, h, .inl ⟨q, rfl⟩⟩
    unfold seqIndex?
    have : ¬ i < 0 := by omega
    simp only [this, if_false]
    have e : (0 ≤ i) ∧ (i < (xs.length : Int)) := by omega
    simp [e.1, e.2]
  | false =>
    rw [q, cond_false] at h
    have q := of_decide_eq_false q
    cases q2 : decide (-(xs.length : Int) ≤ i) with
    | true =>
      rw [q2, cond_true] at h
      have q2 := of_decide_eq_true q2
      refine ⟨(i + xs.length).toNat, ?_, by rw [Int.add_comm]; exact h, .inr ⟨by omega, q2, rfl⟩⟩
      unfold seqIndex?
      have : i < 0 := by omega
      simp only [this, if_true]
      have e : (0 ≤ i + (xs.length : Int)) ∧ (i + (xs.length : Int) < (xs.length : Int)) := by omega
      simp [e.1]
      omega
    | false => rw [q2, cond_false] at h; cases h
theorem RepL.at {xs : List AV} {vs : List Value} (r : RepL B xs vs) {j : Nat} {v : AV} (h : xs[j]? = some v) : ∃ y, vs[j]? = some y ∧ Rep B v y := by
  have hlt : j < vs.length := by
    rw [← r.length]
    rcases Nat.lt_or_ge j xs.length with h' | h'
    · exact h'
    · rw [List.getElem?_eq_none h'] at h; cases h
  exact ⟨vs[j], List.getElem?_eq_getElem hlt, r.get h (List.getElem?_eq_getElem hlt)⟩
theorem getItem_at (hR : Rel cx B σ s.heap) {o i : AV} {y z : Value} (ho : Rep B o y) (hi : Rep B i z) (h : subK o i σ (fun c => k c σ)) :
    ∃ w, ∃ v : AV, Rep B v w ∧ k v σ ∧ (∃ T id, s.TypeIs y T ∧ typeLookup (.type T) "__getitem__" = pure (some (.builtin id))) ∧ ∀ (Q : Value → Shared → Prop) (E : Value → Shared → Prop), Q w s → wpAny (model cx.prog cx.w) cx.A (getItem y z) Q E s := by
  obtain ⟨j, rfl, h1⟩ := intI_iff h
  · obtain ⟨xs, ⟨⟨hj1, hj2⟩, h2⟩, hx⟩ := itemsK_iff h1
    obtain ⟨v, e, hk⟩ := idxK_iff h2
    obtain ⟨p, e1, e2, e3⟩ := pyIdx_iff e
    obtain ⟨_, rfl⟩ := hi.intL
    rcases hx with rfl | hx
    · obtain ⟨a, vs, m, rfl, ea, hl⟩ := ho.tupL
      obtain ⟨w, hw, hrw⟩ := hl.at e2
      have hT : IsTup s.heap a vs.toArray := isTup_of (hR.keep _ _ ea)
      exact ⟨w, v, hrw, hk, ⟨_, _, hT.typeIs, slot_tuple_getitem.lookup⟩, fun Q E q => PyProof.Rows.getItem_tuple hT (by omega) (by omega) (by rw [List.size_toArray, ← hl.length]; exact e1) (by simpa using hw) q⟩
    · obtain ⟨a, vs, m, rfl, ea, hl⟩ := list_here hR ho hx
      obtain ⟨w, hw, hrw⟩ := hl.at e2
      refine ⟨w, v, hrw, hk, ⟨_, _, (isList_of ea).typeIs, slot_list_getitem.lookup⟩, fun Q E q => ?_⟩
      rcases e3 with ⟨g1, rfl⟩ | ⟨g1, g2, rfl⟩
      · exact wpAny_getItem_list (isList_of ea) g1 (by omega) (by simpa using hw) q
      · exact wpAny_getItem_list_neg (isList_of ea) g1 (by rw [List.size_toArray, ← hl.length]; exact g2) (by omega) (by rw [hl.length] at hw; simpa using hw) q
theorem sub_at (hR : Rel cx B σ s.heap) {o i : AV} {y z : Value} {value slice : PySem.Expr} (hs : notSlice slice = true) (ho : Rep B o y) (hi : Rep B i z) (h : subK o i σ (fun c => k c σ)) : At cx Rep B σ s (subscriptTail value slice y z) k := by
  obtain ⟨w, v, hr, hk, ⟨T, id, hT, hl⟩, run⟩ := getItem_at hR ho hi h
  refine At.now (tk := s.toks) hR (fun Q E q => ?_) hr hk
  exact tail_any hT hl (run Q E q) (by cases slice <;> first | rfl | cases hs)

/-- a list method turns its list -/
theorem turn_list (hR : Rel cx B σ s.heap) {a : Addr} {xs ws : List AV} {vs us : List Value} {m : Nat} {c : AObj → Led} {f : Array Value → Array Value} (H : Hole a (.list xs) σ.T c) (e : s.heap.get? a = some (listO vs m)) (hf : f vs.toArray = us.toArray) (hr : RepL B ws us) :
    Nx cx B σ s.heap B ⟨σ.loc, c (.list ws)⟩ (s.heap.update a (Obj.mapSeq f)) := by
  obtain ⟨m', em⟩ := mapSeq_list vs us m f hf
  have e2 := Heap.get?_update_self (Obj.mapSeq f) e (by rw [em]; rfl)
  rw [em] at e2
  exact hR.turn (h' := s.heap.update a (Obj.mapSeq f)) H (o' := .list ws) rfl (fun b o nb _ eb => by rw [Heap.get?_update_other _ _ (fun q => nb (by simp [fpt, q]))]; exact eb)
          (fun m hm => hm.at' fun o eo => by rw [Heap.get?_update_other _ _ (fun (q : a = cx.L) => hR.Lnot (q ▸ mem_addrs (hole_mem H).1 (by simp [fpt])))]; exact eo) (.list e2 hr)
/-- a list of the ledger turns -/
theorem updL_iff (hR : Rel cx B σ s.heap) {a : Addr} {k : List AV → (List AV → (AS → Prop) → Prop) → Prop} (h : updL a σ k) : ∃ xs vs m c, Hole a (.list xs) σ.T c ∧ s.heap.get? a = some (listO vs m) ∧ RepL B xs vs ∧ k xs (fun ys kk => NextK kk ⟨σ.loc, c (.list ys)⟩) := by
  obtain ⟨o, c, H, h⟩ := h.go
  cases o with
  | list xs =>
    obtain ⟨vs, m, e, hl⟩ := (hR.tab _ (hole_mem H).1).inv
    exact ⟨xs, vs, m, c, H, e, hl, h⟩
  | inst _ _ _ => exact False.elim h
theorem setitem_at (hR : Rel cx B σ s.heap) {ov iv v : AV} {y z x : Value} {kk : AS → Prop} (ho : Rep B ov y) (hi : Rep B iv z) (hv : Rep B v x) (h : setItemK ov iv v σ kk) :
    At cx (fun _ (_ _ : Unit) => True) B σ s (setItem y z x) (fun _ => kk) := by
  cases ov with
  | ref a =>
    obtain rfl := ho.refL
    obtain ⟨i, rfl, h1⟩ := intI_iff h
    obtain ⟨t, rfl⟩ := hi.intL
    obtain ⟨xs, vs, m, c, H, e, hl, ⟨h0, hk2, hlen⟩, ⟨h⟩⟩ := updL_iff hR h1
    intro Q E hQ
    have hl' : s.heap.IsList a vs.toArray := isList_of e
    unfold setItem
    try with_reducible refine wpAny_holding ?_
    first | refine wpAny_bind (wpAny_pure ?_) | skip
    refine wpAny_bind (wpAny_sequenceKey hl'.typeIs (by decide) ?_)
    refine wpAny_bind (wpAny_callSpecial?_slot (name := Str.ofString "__setitem__") hl'.typeIs slot_list_setitem
      (wpAny_call_entry slot_list_setitem hl'.typeIs entry_list_setitem ?_ (args_list_setitem _ _ _)))
    show wpAny _ _ (Builtin.List.listSubscript? (.int i t) >>= _) _ _ s
    refine wpAny_bind (wpAny_listSubscript_int (fitsIndex_of h0 (by omega)) ?_)
    obtain ⟨j, rfl⟩ := Int.eq_ofNat_of_zero_le h0
    have hj : j < vs.length := by rw [← hl.length]; omega
    have hx' : vs.toArray[j]? = some vs[j] := by simp [hj]
    show wpAny _ _ ((seqItemAt a j >>= fun r => pure (r.map (j, ·))) >>= _) _ _ s
    refine wpAny_bind (wpAny_bind (wpAny_seqItemAt e rfl (wpAny_pure ?_)))
    rw [hx']
    show wpAny _ _ (setSeqItemAt a j x >>= _) _ _ s
    have hset : RepL B (xs.set j v) (vs.set j x) := by
      refine .of (by simp [hl.length]) fun q u w e1 e2 => ?_
      rw [List.getElem?_set] at e1 e2
      by_cases hq : j = q
      · subst hq
        rw [if_pos rfl, if_pos (by rw [hl.length]; exact hj)] at e1
        rw [if_pos rfl, if_pos hj] at e2
        cases e1; cases e2; exact hv
      · rw [if_neg hq] at e1 e2; exact hl.get e1 e2
    have N := turn_list hR (f := (·.setIfInBounds j x)) H e (by simp) hset
    have fin := hQ B () _ () _ s.toks N trivial h
    refine wpAny_bind (wpAny_setSeqItemAt e rfl ?_)
    first
      | exact wpAny_bind (wpAny_pure (wpAny_pure ⟨.none, rfl, wpAny_pure fin⟩))
      | exact wpAny_pure ⟨.none, rfl, wpAny_pure fin⟩
  | _ => exact False.elim h
end
end
section
open PySem PySem.W PyProof.Rows PySem.Calls PySem.Spec PySem.SeqAt
noncomputable def LM.id : LM → String
  | .append => "list.append" | .pop => "list.pop" | .insert => "list.insert" | .extend => "list.extend"
theorem lm_slot : ∀ m : LM, Slot "list" m.nm m.id
  | .append => PySem.F.slot_list_append
  | .pop => PySem.F.slot_list_pop
  | .insert => PySem.F.slot_list_insert
  | .extend => PySem.F.slot_list_extend
theorem lm_type : ∀ m : LM, typeOf (.builtin m.id) = pure (.type "method_descriptor")
  | .append => PySem.F.type_list_append
  | .pop => PySem.F.type_list_pop
  | .insert => PySem.F.type_list_insert
  | .extend => PySem.F.type_list_extend
theorem lmK_iff {n : Str} {k : LM → Prop} (h : lmK n k) : ∃ m, n = LM.nm m ∧ k m := by
  unfold lmK at h
  rcases cond_of h with ⟨e, h⟩ | ⟨_, h⟩
  · exact ⟨.append, eq_of_beq e, h⟩
  rcases cond_of h with ⟨e, h⟩ | ⟨_, h⟩
  · exact ⟨.pop, eq_of_beq e, h⟩
  rcases cond_of h with ⟨e, h⟩ | ⟨_, h⟩
  · exact ⟨.insert, eq_of_beq e, h⟩
  rcases cond_of h with ⟨e, h⟩ | ⟨_, h⟩
  · exact ⟨.extend, eq_of_beq e, h⟩
  exact h.elim

section
variable {ec : EC} {cx : Cx} {B : Base} {σ : AS} {s : Shared} {k : KV}
theorem lget_at (hR : Rel cx B σ s.heap) {a : Addr} {xs : List AV} {m : LM} {pl : Sem Bool} {Q : Value × List Value → Shared → Prop} {E : Value → Shared → Prop} (hm : (a, AObj.list xs) ∈ σ.T) (h : Q (.builtin m.id, [.ref a]) s) :
    wpAny (model cx.prog cx.w) cx.A (getMethod (.ref a) m.nm pl) Q E s := by
  obtain ⟨vs, n, e, hl⟩ := (hR.tab _ hm).inv
  exact getMethod_list_of (lm_slot m) (lm_type m) (isList_of e) ⟨_, e, rfl⟩ h

theorem lcall_at (hR : Rel cx B σ s.heap) {a : Addr} {m : LM} {vs : List AV} {ys : List Value} (hr : RepL B vs ys) (h : lmethK m a vs σ k) : At cx Rep B σ s (call (.builtin m.id) ([.ref a] ++ ys)) k := by
  cases m with
  | append =>
    obtain ⟨v, rfl, h1⟩ := oneI_iff h
    obtain ⟨y, rfl, hy⟩ := hr.oneL
    obtain ⟨xs, us, p, c, H, e, hl, hz, ⟨h2⟩⟩ := updL_iff hR h1
    intro Q E hQ
    have N := turn_list hR (f := (·.push y)) (us := us ++ [y]) H e (by simp) (hl.append (.cons hy .nil))
    exact call_meets PySem.F.slot_list_append ⟨_, e, rfl⟩ PySem.F.entry_list_append (PySem.F.args_list_append_2 _ _) (list_append a us.toArray p y (by rw [List.size_toArray, ← hl.length, sizeLine_eq]; omega)) ⟨e, hQ _ _ _ _ _ s.toks N .none h2⟩
  | pop =>
    obtain ⟨v, rfl, h1⟩ := oneI_iff h
    obtain ⟨i, rfl, h2⟩ := intI_iff h1
    obtain ⟨q, h3⟩ := cond_l h2
    have q := of_decide_eq_true q; subst q
    obtain ⟨y, rfl, hy⟩ := hr.oneL
    obtain ⟨u, rfl⟩ := hy.intL
    obtain ⟨xs, us, p, c, H, e, hl, h4⟩ := updL_iff hR h3
    obtain ⟨x, xs, rfl, hz, ⟨h5⟩⟩ := consI_iff h4
    obtain ⟨w, ws, rfl, hw, hl⟩ := hl.consL
    intro Q E hQ
    have N := turn_list hR (f := fun xs => xs.eraseIdxIfInBounds 0) (us := ws) H e (by simp [Array.eraseIdxIfInBounds]) hl
    exact call_meets PySem.F.slot_list_pop ⟨_, e, rfl⟩ PySem.F.entry_list_pop (PySem.F.args_list_pop_2 _ _) (MeetsSeq.list_pop_at a (w :: ws).toArray p 0 u 0 w (by decide) (by unfold seqIndex?; simp) (by simp) (by rw [List.size_toArray, List.length_cons, ← hl.length, sizeLine_eq]; omega)) ⟨e, hQ _ _ _ _ _ s.toks N hw h5⟩
  | insert =>
    obtain ⟨v, v', rfl, h1⟩ := twoI_iff h
    obtain ⟨i, rfl, h2⟩ := intI_iff h1
    obtain ⟨q, h3⟩ := cond_l h2
    have q := of_decide_eq_true q; subst q
    obtain ⟨y, y2, rfl, hy, hy2⟩ := hr.twoL
    obtain ⟨u, rfl⟩ := hy.intL
    obtain ⟨xs, us, p, c, H, e, hl, hz, ⟨h4⟩⟩ := updL_iff hR h3
    intro Q E hQ
    have N := turn_list hR (f := fun xs => have k := if (0 : Int) < 0 then (0 + (xs.size : Int)).toNat else min (0 : Int).toNat xs.size; (xs.extract 0 k).push y2 ++ xs.extract k) (us := y2 :: us) H e (by simp) (.cons hy2 hl)
    exact call_meets PySem.F.slot_list_insert ⟨_, e, rfl⟩ PySem.F.entry_list_insert (PySem.F.args_list_insert_3 _ _ _) (AutoSeq1.list_insert_list_int_val_1 a us.toArray p 0 u y2 (by decide) (by rw [List.size_toArray, ← hl.length, sizeLine_eq]; omega)) ⟨e, hQ _ _ _ _ _ s.toks N .none h4⟩
  | extend =>
    obtain ⟨v, rfl, h1⟩ := oneI_iff h
    obtain ⟨ys', rfl, h2⟩ := lstI_iff h1
    obtain ⟨y, rfl, hy⟩ := hr.oneL
    obtain ⟨xs, us, p, c, H, e, hl, hz, ⟨h3⟩⟩ := updL_iff hR h2
    obtain ⟨b, ws, q, rfl, eb, hw⟩ := hy.lstL
    have eb' := hR.keep _ _ eb
    intro Q E hQ
    have l1 := hl.length
    have l2 := hw.length
    have hs := sizeLine_eq
    have N := turn_list hR (f := fun x => x ++ ws.toArray) (us := us ++ ws) H e (by simp) (hl.append (hw))
    refine call_meets PySem.F.slot_list_extend ⟨_, e, rfl⟩ PySem.F.entry_list_extend (PySem.F.args_list_extend_2 _ _) (AutoSeq1.list_extend_list_list_0 a us.toArray p b ws.toArray q ?_ (by rw [List.size_toArray]; omega) (by simp only [List.size_toArray]; omega)) ⟨e, eb', hQ _ _ _ _ _ s.toks N .none h3⟩
    unfold Builtin.List.listTooLong
    simp only [List.size_toArray, Bool.and_eq_true, decide_eq_true_eq]
    omega
end
end
section
open PySem PySem.W PyProof.Rows PySem.Calls PySem.Spec PySem.SeqAt
section
variable {ec : EC} {cx : Cx} {B : Base} {σ : AS} {s : Shared} {k : KV}
noncomputable def Bi.of (n : Nat) : Bi := [Bi.int, .bool, .list, .tuple, .bytes, .bytearray, .range, .len, .abs, .max, .isinstance, .sorted].getD n .int
theorem Bi.of_num (b : Bi) : Bi.of b.num = b := by cases b <;> rfl
theorem num_inj {b c : Bi} (h : Nat.beq b.num c.num = true) : b = c := (Bi.of_num b).symm.trans ((congrArg Bi.of (Nat.eq_of_beq_eq_true h)).trans (Bi.of_num c))
theorem types_at {B : Base} {p : Prop} {cs : List Bi} : ∀ {xs : List AV} {vs : List Value}, RepL B xs vs → typesK xs cs p → vs = cs.map Bi.val ∧ p := by
  induction cs with
  | nil =>
    intro xs vs hl h
    obtain ⟨rfl, h1⟩ := nilI_iff h
    exact ⟨hl.nilL, h1⟩
  | cons c cs ih =>
    intro xs vs hl h
    obtain ⟨v, r, rfl, h1⟩ := consI_iff h
    obtain ⟨b, rfl, h2⟩ := biI_iff h1
    obtain ⟨e, h3⟩ := cond_l h2
    obtain rfl := num_inj e
    obtain ⟨y, zs, rfl, hy, hl2⟩ := hl.consL
    obtain ⟨rfl, h4⟩ := ih hl2 h3
    exact ⟨by rw [hy.biL]; rfl, h4⟩
theorem isi_at (hR : Rel cx B σ s.heap) {v t : AV} {y z : Value} (hv : Rep B v y) (ht : Rep B t z) (h : isiK v t (fun b => k (.bool b) σ)) : At cx Rep B σ s (call (.builtin "isinstance") [y, z]) k := by
  cases v with
  | int i =>
    obtain ⟨u, rfl⟩ := hv.intL
    obtain ⟨b, rfl, h1⟩ := biI_iff h
    obtain rfl := ht.biL
    rcases cond_of h1 with ⟨e, h2⟩ | ⟨_, h2⟩
    · obtain rfl : b = .int := num_inj e
      exact At.now (tk := s.toks) hR (fun Q E q => IsiPair.int_int q) (.bool _) h2
    · obtain ⟨e, h3⟩ := cond_l h2
      obtain rfl : b = .bool := num_inj e
      exact At.now (tk := s.toks + 1) hR (fun Q E q => IsiPair.int_bool q) (.bool _) h3
  | bytes b =>
    obtain ⟨u, rfl⟩ := hv.bytesL
    obtain ⟨xs, rfl, h1⟩ := tupI_iff h
    obtain ⟨a, vs, m, rfl, e, hl⟩ := ht.tupL
    obtain ⟨rfl, h2⟩ := types_at hl h1
    intro Q E hQ
    exact call_isi_bytes (hR.keep _ _ e) fun tk => hQ B _ σ _ s.heap tk (.refl hR) (.bool _) h2
  | _ => exact False.elim h

theorem bi_at (G : Gd ec cx) (hR : Rel cx B σ s.heap) {b : Bi} {vs : List AV} {ys : List Value} (hr : RepL B vs ys) (h : biK b vs σ (fun v => k v σ)) : At cx Rep B σ s (call b.val ys) k := by
  have hs := sizeLine_eq
  cases b with
  | len =>
    obtain ⟨v, rfl, h1⟩ := oneI_iff h
    obtain ⟨y, rfl, hy⟩ := hr.oneL
    obtain ⟨xs, ⟨hz, h2⟩, hx⟩ := listK_iff h1
    obtain ⟨a, us, m, rfl, e, hl⟩ := list_here hR hy hx
    refine At.now (tk := s.toks + 1 + 1) hR (fun Q E q => call_len_list (isList_of e) (by rw [List.size_toArray, ← hl.length]; omega) q) ?_ h2
    rw [List.size_toArray, ← hl.length]
    exact .int _ _
  | abs =>
    obtain ⟨v, rfl, h1⟩ := oneI_iff h
    obtain ⟨i, rfl, h2⟩ := intI_iff h1
    obtain ⟨y, rfl, hy⟩ := hr.oneL
    obtain ⟨t, rfl⟩ := hy.intL
    intro Q E hQ
    refine call_abs_int fun u tk => ?_
    have e : (if i < 0 then -i else i) = ((i.natAbs : Nat) : Int) := by split <;> omega
    rw [e]
    exact hQ _ _ _ _ s.heap tk (.refl hR) (.int _ _) h2
  | max =>
    obtain ⟨v, w, rfl, h1⟩ := twoI_iff h
    obtain ⟨y, y2, rfl, hy, hy2⟩ := hr.twoL
    obtain ⟨a, b, t, u, rfl, rfl, h2⟩ := two_ints hy hy2 (k := fun a b => k (.int (max a b)) σ) h1
    intro Q E hQ
    refine max_two_ints G.ok.handled fun h' tk hk => ?_
    have N := hR.grow hk
    have e : (if b > a then b else a) = max a b := by split <;> omega
    have r : Rep B (.int (max a b)) (if b > a then Value.int b u else Value.int a t) := by
      rw [← e]
      split <;> exact .int _ _
    exact hQ _ _ _ _ _ tk N r h2
  | int =>
    obtain ⟨v, rfl, h1⟩ := oneI_iff h
    obtain ⟨y, rfl, hy⟩ := hr.oneL
    cases v with
    | bool b =>
      obtain rfl := hy.boolL
      refine At.now (tk := s.toks + 1) hR (fun Q E q => call_int_bool q) ?_ h1
      cases b <;> exact .int _ _
    | _ => exact False.elim h1
  | isinstance =>
    obtain ⟨v, w, rfl, h1⟩ := twoI_iff h
    obtain ⟨y, y2, rfl, hy, hy2⟩ := hr.twoL
    exact isi_at hR hy hy2 h1
  | list =>
    obtain ⟨v, rfl, h1⟩ := oneI_iff h
    obtain ⟨y, rfl, hy⟩ := hr.oneL
    obtain ⟨xs, ⟨hz, h2⟩, hx⟩ := listK_iff h1
    obtain ⟨a, us, m, rfl, e, hl⟩ := list_here hR hy hx
    intro Q E hQ
    refine call_list_seq a (.inl rfl) e rfl rfl (fun h' c' hk hD => ?_) (by rw [List.size_toArray, ← hl.length]; omega)
    have N := hR.freezeNew (push_none _) hk hD
    exact hQ _ _ _ _ _ s.toks N ((hl.mono N.stp.bm).toLst bset_self) h2
  | range =>
    obtain ⟨v, rfl, h1⟩ := oneI_iff h
    obtain ⟨i, rfl, h2⟩ := intI_iff h1
    obtain ⟨y, rfl, hy⟩ := hr.oneL
    obtain ⟨t, rfl⟩ := hy.intL
    intro Q E hQ
    refine call_range_1 ?_
    have N := hR.lay (rngO i s.toks t (s.toks + 1)) rfl
    exact hQ _ _ _ _ _ _ N (.rng bset_self) h2.2
  | sorted =>
    obtain ⟨v, rfl, h1⟩ := oneI_iff h
    obtain ⟨y, rfl, hy⟩ := hr.oneL
    cases v with
    | edict =>
      obtain ⟨a, n, rfl, e1, e2⟩ := hy.inv
      intro Q E hQ
      refine call_sorted_empty G.ok.handled (hR.keep _ _ e1) e2 fun D h' tk c hk hf hD => ?_
      have N := hR.freezeNew hf hk hD
      exact hQ _ _ _ _ h' tk N (RepL.toLst .nil bset_self) h1
    | _ => exact False.elim h1
  | tuple =>
    obtain ⟨v, rfl, h1⟩ := oneI_iff h
    obtain ⟨xs, rfl, h2⟩ := tupI_iff h1
    obtain ⟨y, rfl, hy⟩ := hr.oneL
    obtain ⟨a, us, m, rfl, e, hl⟩ := id hy.tupL
    exact At.now (tk := s.toks) hR (fun Q E q => call_tuple_same (isTup_of (hR.keep _ _ e)) q) hy h2
  | bytes =>
    obtain ⟨v, rfl, h1⟩ := oneI_iff h
    obtain ⟨y, rfl, hy⟩ := hr.oneL
    cases v with
    | bytes b =>
      obtain ⟨t, rfl⟩ := hy.bytesL
      exact At.now (tk := s.toks) hR (fun Q E q => call_bb q) (.bytes b t) h1
    | _ => exact False.elim h1
  | _ => exact False.elim h
end
end
section
open PySem PySem.W PyProof.Rows PySem.Calls PySem.Spec PySem.SeqAt
section
variable {ec : EC} {cx : Cx} {B : Base} {σ : AS} {s : Shared} {k : KV}

/-- how an iterator walks -/
structure Itr (cx : Cx) (B : Base) (h : Heap) (xs : List AV) (I : Addr) (h' : Heap) (fp : List Addr) (P : Nat → Value → Prop) (St : Nat → Heap → Prop) : Prop where
  new : h.get? I = none
  keep : ∀ b o, h.get? b = some o → h'.get? b = some o
  here : ∃ o, h'.get? I = some o
  walks : Walks cx.prog cx.w cx.A I fp [I] xs.length P St
  start : St 0 h'
  fp : ∀ b ∈ fp, b = I ∨ ∃ o, B b = some o
  live : ∀ i h, St i h → ∃ o, h.get? I = some o
  rep : ∀ i u, P i u → i < xs.length → ∃ x, xs[i]? = some x ∧ Rep B x u

theorem iter_at (G : Gd ec cx) (hR : Rel cx B σ s.heap) {v : AV} {y : Value} {kx : List AV → Prop} (hr : Rep B v y) (h : iterK v kx) :
    ∃ xs, kx xs ∧ ∀ (Q : Value → Shared → Prop) (E : Value → Shared → Prop), (∀ I h' fp P St, Itr cx B s.heap xs I h' fp P St → Q (.ref I) { s with heap := h' }) → wpAny (model cx.prog cx.w) cx.A (pyIter y) Q E s := by
  cases v with
  | lst xs =>
    obtain ⟨a, vs, m, rfl, e, hl⟩ := hr.lstL
    have e' := hR.keep _ _ e
    refine ⟨xs, h, fun Q E hQ => ?_⟩
    have hne : a ≠ s.heap.objs.size := Nat.ne_of_lt (Heap.lt_size e')
    refine wpAny_pyIter_list (isList_of e') (hQ s.heap.objs.size _ [s.heap.objs.size, a] (fun i v => vs.toArray[i]? = some v) (fun i h => h.IsListIter s.heap.objs.size a i ∧ h.IsList a vs.toArray) ⟨push_none _, fun _ _ e => Heap.get?_push_of_some _ e, ⟨_, Heap.get?_push_size _ rfl⟩, ?_, ⟨⟨_, Heap.get?_push_size _ rfl, rfl, rfl⟩, (isList_of e').at fun o e => Heap.get?_push_of_some _ e⟩, ?_, fun i h ⟨⟨o, e, _⟩, _⟩ => ⟨o, e⟩, ?_⟩)
    · have W := Walks.list (prog := cx.prog) (w := cx.w) G.ok.handled s.heap.objs.size a hne vs.toArray
      have e1 : vs.toArray.size = xs.length := by simp [hl.length]
      rw [e1] at W
      exact W
    · intro b hb
      rcases List.mem_cons.mp hb with rfl | hb
      · exact .inl rfl
      · rw [List.mem_singleton.mp hb]; exact .inr ⟨_, e⟩
    · intro i u hu hi
      have hu' : vs[i]? = some u := by simpa using hu
      exact ⟨xs[i], List.getElem?_eq_getElem hi, hl.get (List.getElem?_eq_getElem hi) hu'⟩
  | tup xs =>
    obtain ⟨a, vs, m, rfl, e, hl⟩ := hr.tupL
    have e' := hR.keep _ _ e
    refine ⟨xs, h, fun Q E hQ => ?_⟩
    have hne : a ≠ s.heap.objs.size := Nat.ne_of_lt (Heap.lt_size e')
    refine wpAny_pyIter_tuple (isTup_of e') (hQ s.heap.objs.size _ [s.heap.objs.size, a] (fun i v => vs.toArray[i]? = some v) (fun i h => h.IsTupleIter s.heap.objs.size a i ∧ h.IsTuple a vs.toArray) ⟨push_none _, fun _ _ e => Heap.get?_push_of_some _ e, ⟨_, Heap.get?_push_size _ rfl⟩, ?_, ⟨⟨_, Heap.get?_push_size _ rfl, rfl, rfl⟩, (isTup_of e').at fun o e => Heap.get?_push_of_some _ e⟩, ?_, fun i h ⟨⟨o, e, _⟩, _⟩ => ⟨o, e⟩, ?_⟩)
    · have W := Walks.tuple (prog := cx.prog) (w := cx.w) G.ok.handled s.heap.objs.size a hne vs.toArray
      have e1 : vs.toArray.size = xs.length := by simp [hl.length]
      rw [e1] at W
      exact W
    · intro b hb
      rcases List.mem_cons.mp hb with rfl | hb
      · exact .inl rfl
      · rw [List.mem_singleton.mp hb]; exact .inr ⟨_, e⟩
    · intro i u hu hi
      have hu' : vs[i]? = some u := by simpa using hu
      exact ⟨xs[i], List.getElem?_eq_getElem hi, hl.get (List.getElem?_eq_getElem hi) hu'⟩
  | rng m =>
    obtain ⟨⟨h0, h1⟩, h⟩ := h
    obtain ⟨a, t, u, v, rfl, e⟩ := hr.inv
    have e' := hR.keep _ _ e
    refine ⟨_, h, fun Q E hQ => ?_⟩
    have W := Walks.range (prog := cx.prog) (w := cx.w) G.ok.handled s.heap.objs.size 0 1 m.toNat
    refine wpAny_pyIter_range (a := 0) (b := m) (c := 1) e' ?_ (hQ s.heap.objs.size _ [s.heap.objs.size] _ _ ⟨push_none _, fun _ _ e => Heap.get?_push_of_some _ e, ⟨_, Heap.get?_push_size _ rfl⟩, by simpa using W, ?_, ?_, fun i h e => ⟨_, e⟩, ?_⟩)
    · exact small_one (by omega) (by omega) (by omega) (by omega)
    · show IsRangeIter _ _ _ _ _
      have e1 : Builtin.Range.rangeSize 0 m 1 = m := by
        unfold Builtin.Range.rangeSize
        simp
        omega
      rw [e1]
      have e2 : max m 0 - ((0 : Nat) : Int) = m := by omega
      rw [e2]
      exact Heap.get?_push_size _ rfl
    · intro b hb; rw [List.mem_singleton.mp hb]; exact .inl rfl
    · intro i u hu hi
      obtain ⟨t, rfl⟩ := hu
      have hi' : i < m.toNat := by simpa using hi
      refine ⟨.int i, by simp [hi'], ?_⟩
      exact .int _ _
  | bytes b =>
    obtain ⟨t, rfl⟩ := hr.bytesL
    refine ⟨_, h, fun Q E hQ => ?_⟩
    have W := KBw.walks (prog := cx.prog) (w := cx.w) G.ok.handled s.heap.objs.size b t
    refine KBw.pyIter_bytes (hQ s.heap.objs.size _ [s.heap.objs.size] (fun i v => ∃ c u, b[i]? = some c ∧ v = .int (c.toNat : Int) u) (fun i h => KBw.IsBytesIter h s.heap.objs.size b t i) ⟨push_none _, fun _ _ e => Heap.get?_push_of_some _ e, ⟨_, Heap.get?_push_size _ rfl⟩, by simpa using W, ⟨_, Heap.get?_push_size _ rfl, rfl, rfl⟩, ?_, fun i h ⟨o, e, _⟩ => ⟨o, e⟩, ?_⟩)
    · intro b hb; rw [List.mem_singleton.mp hb]; exact .inl rfl
    · intro i v hv hi
      obtain ⟨c, u, e, rfl⟩ := hv
      exact ⟨.int c.toNat, by simp [e], .int _ _⟩
  | _ => exact False.elim h

/-- a thing that the walk itself turns, and no other -/
theorem Rel.other {cx : Cx} {h h' : Heap} (r : Rel cx B σ h) {I : Addr} (hI : B I = none) (hL : I ≠ cx.L) (hT : I ∉ addrs σ.T) (hk : ∀ b o, b ∉ [I] → h.get? b = some o → h'.get? b = some o) : Rel cx B σ h' := by
  have k : ∀ b o, b ≠ I → h.get? b = some o → h'.get? b = some o := fun b o q e => hk b o (by simpa using q) e
  refine ⟨fun b o e => k b o (fun q => by rw [q, hI] at e; cases e) (r.keep b o e), r.gB, ?_, fun p hp => (r.tab p hp).mono (.refl B) fun b hb o e => k b o (fun q => hT (q ▸ mem_addrs hp hb)) e, r.nodup, r.off⟩
  obtain ⟨m, hn, hm⟩ := r.ns
  exact ⟨m, hn.at' fun o e => k _ o (fun q => hL q.symm) e, hm⟩

theorem RepF.cases {B : Base} {f : Fl} {fl : Flow} (h : RepF B f fl) {P : Fl → Flow → Prop} (h1 : P .next .next) (h2 : P .brk .brk) (h3 : P .cont .cont) (h4 : ∀ v y, Rep B v y → P (.ret v) (.ret y)) : P f fl := by
  cases h
  · exact h1
  · exact h2
  · exact h3
  · exact h4 _ _ ‹_›

theorem forLoop_at (G : Gd ec cx) (hR : Rel cx B σ s.heap) {S : List Stmt → AS → KF → Prop} (ih : ∀ ss σ k, S ss σ k → Tr cx RepF (execs ss cx.env) σ k) {x : Str} {px : Pos} {body : List Stmt} {xs : List AV} {kk : KF} {I : Addr} {h₁ : Heap} {fp : List Addr} {P : Nat → Value → Prop} {St : Nat → Heap → Prop}
    (T : Itr cx B s.heap xs I h₁ fp P St) (h : forK ec S x body xs σ kk) {R : Result → Shared → Prop}
    (hQ : ∀ B' f σ' fl h' tk, Nx cx B σ s.heap B' σ' h' → RepF B' f fl → kk f σ' → R (.ok fl) { s with heap := h', toks := tk }) (tk₁ : Nat) :
    codeAny (model cx.prog cx.w) cx.A (.forLoop (.Name x px) (.ref I) body [] cx.env) R { s with heap := h₁, toks := tk₁ } := by
  have hIL : I ≠ cx.L := fun q => by obtain ⟨o, e⟩ := hR.hasL; rw [← q, T.new] at e; cases e
  have hIT : I ∉ addrs σ.T := fun q => by obtain ⟨o, e⟩ := hR.hasT q; rw [T.new] at e; cases e
  let Inv : Nat → Shared → Prop := fun m s' => ∃ i B' σ' h' tk, s' = { s with heap := h', toks := tk } ∧ Nx cx B σ s.heap B' σ' h' ∧ St i h' ∧ I ∉ addrs σ'.T ∧ B' I = none ∧ (∃ o, h'.get? I = some o) ∧ i ≤ xs.length ∧ m = xs.length + 1 - i ∧ forK ec S x body (xs.drop i) σ' kk
  refine codeAny_forLoop Inv ?_ (xs.length + 1) ⟨0, B, σ, h₁, tk₁, rfl, hR.grow T.keep, T.start, hIT, hR.none_of T.new, T.here, Nat.zero_le _, rfl, h⟩
  rintro m s' ⟨i, B', σ', h', tk, rfl, N, st, nT, nB, ⟨oI, eI⟩, hi, rfl, hk⟩
  by_cases hlt : i < xs.length
  · refine T.walks.item i _ _ _ hlt st fun u h2 tk2 hP st2 hk2 => ?_
    obtain ⟨v, hv, hrv⟩ := T.rep i u hP hlt
    have hrv := hrv.mono N.stp.bm
    rw [List.drop_eq_getElem_cons hlt] at hk
    have hv' : xs[i] = v := by rw [List.getElem?_eq_getElem hlt] at hv; exact Option.some.inj hv
    rw [hv'] at hk
    have hk : storeK ec x v σ' (blkS S body (lpK (toK (forK ec S x body (xs.drop (i + 1))) kk) kk)) := hk
    have R2 : Rel cx B' σ' h2 := N.rel.other nB hIL nT hk2
    have N2 : Nx cx B σ s.heap B' σ' h2 := ⟨R2, fun b o e n1 n2 => hk2 b o (fun q => by rw [List.mem_singleton.mp q, T.new] at e; cases e) (N.stp.ext b o e n1 n2), N.stp.bm, N.stp.newT, N.stp.newB⟩
    refine wpAny_assign_Name (store_at (s := { s with heap := h2, toks := tk2 }) G R2 hrv hk _ _ fun B3 _ σ3 _ h3 tk3 N3 _ k3 => ?_)
    refine ih _ _ _ (Stop.go k3).go B3 { s with heap := h3, toks := tk3 } N3.rel _ _ fun B4 f σ4 fl h4 tk4 N4 r4 k4 => ?_
    have I2 : ∃ o, h2.get? I = some o := T.live _ _ st2
    obtain ⟨o2, e2⟩ := I2
    have e3 : h3.get? I = some o2 := N3.stp.ext I o2 e2 hIL nT
    have nT3 : I ∉ addrs σ3.T := fun q => by
      rcases N3.stp.newT I q with q | q
      · exact nT q
      · have e2' : ({ s with heap := h2, toks := tk2 } : Shared).heap.get? I = some o2 := e2
        rw [e2'] at q; cases q
    have nB3 : B3 I = none := by
      cases q : B3 I with
      | none => rfl
      | some o =>
        rcases N3.stp.newB I o q with q | q | q
        · rw [nB] at q; cases q
        · exact absurd q nT
        · have e2' : ({ s with heap := h2, toks := tk2 } : Shared).heap.get? I = some o2 := e2
          rw [e2'] at q; cases q
    have e4 : h4.get? I = some o2 := N4.stp.ext I o2 e3 hIL nT3
    have nT4 : I ∉ addrs σ4.T := fun q => by
      rcases N4.stp.newT I q with q | q
      · exact nT3 q
      · have e3' : ({ s with heap := h3, toks := tk3 } : Shared).heap.get? I = some o2 := e3
        rw [e3'] at q; cases q
    have nB4 : B4 I = none := by
      cases q : B4 I with
      | none => rfl
      | some o =>
        rcases N4.stp.newB I o q with q | q | q
        · rw [nB3] at q; cases q
        · exact absurd q nT3
        · have e3' : ({ s with heap := h3, toks := tk3 } : Shared).heap.get? I = some o2 := e3
          rw [e3'] at q; cases q
    have NN := (N2.trans N3).trans N4
    have st4 : St (i + 1) h4 := T.walks.frame (i + 1) h2 h4 st2 fun b hb o e => by
      rcases T.fp b hb with rfl | ⟨ob, eb⟩
      · rw [e2] at e; cases e; exact e4
      · have x1 := R2.keep _ _ (N.stp.bm _ _ eb)
        rw [x1] at e; cases e
        exact NN.rel.keep _ _ (NN.stp.bm _ _ eb)
    have again : (Stop (Ease σ4 (toK (forK ec S x body (xs.drop (i + 1))) kk))) → ∃ m', m' < xs.length + 1 - i ∧ Inv m' { s with heap := h4, toks := tk4 } := fun k4 =>
      let ⟨σ5, N5, s5, k5⟩ := NN.ease k4.go
      ⟨xs.length + 1 - (i + 1), by omega, i + 1, B4, σ5, h4, tk4, rfl, N5, st4, fun q => nT4 (s5 _ q), nB4, ⟨o2, e4⟩, by omega, rfl, k5⟩
    cases r4 with
    | next => exact again k4
    | cont => exact again k4
    | brk => exact hQ B4 .next σ4 .next h4 tk4 NN .next k4
    | ret hr => exact hQ B4 _ σ4 _ h4 tk4 NN (.ret hr) k4
  · have hin : i = xs.length := by omega
    subst hin
    rw [List.drop_length] at hk
    refine T.walks.done _ _ _ st fun h2 tk2 hk2 => wpAny_execs_nil ?_
    have R2 : Rel cx B' σ' h2 := N.rel.other nB hIL nT hk2
    exact hQ B' .next σ' .next h2 tk2 ⟨R2, fun b o e n1 n2 => hk2 b o (fun q => by rw [List.mem_singleton.mp q, T.new] at e; cases e) (N.stp.ext b o e n1 n2), N.stp.bm, N.stp.newT, N.stp.newB⟩ .next hk
end
end
section
open PySem PySem.W PyProof.Rows PySem.Calls PySem.Spec PySem.SeqAt
noncomputable def EqRep (_ : Base) (b c : Bool) : Prop := b = c
structure Snd (ec : EC) (cx : Cx) (R : Rec) : Prop where
  e : ∀ e σ k, R.e e σ k → Tr cx Rep (eval e cx.env) σ k
  t : ∀ e σ k, R.t e σ k → Tr cx EqRep (isTrue e cx.env (eval e cx.env)) σ k
  s : ∀ ss σ k, R.s ss σ k → Tr cx RepF (execs ss cx.env) σ k
  w : ∀ t body σ k pos, R.w t body σ k → Tr cx RepF (exec (.While t body [] pos) cx.env) σ k

section
variable {ec : EC} {cx : Cx} {R : Rec}
theorem evO_at (S : Snd ec cx R) {o : Option PySem.Expr} {σ : AS} {k : KV} (h : evO R.e o σ k) : Tr cx Rep (valueOrNone (evalOpt o cx.env)) σ k := by
  cases o with
  | none => exact fun B s hR Q E hQ => wpAny_pure (hQ B _ σ _ _ s.toks (.refl hR) .none h)
  | some e => exact S.e e σ k h

theorem chainV (G : Gd ec cx) (S : Snd ec cx R) {pos : Pos} {ops : List CmpOp} : ∀ {es : List PySem.Expr} {a : AV} {y : Value} {σ : AS} {k : KB} {kv : KV}, (∀ c σ, k c σ → kv (.bool c) σ) → chainK R.e a ops es σ k → ∀ B s, Rel cx B σ s.heap → Rep B a y →
    At cx Rep B σ s (compareChain pos y ops (evalEach es cx.env)) kv := by
  induction ops with
  | nil => intro es a y σ k kv _ h; exact False.elim h
  | cons op rest ih =>
    intro es a y σ k kv hk h B s hR ha Q E hQ
    cases es with
    | nil => cases rest <;> exact False.elim h
    | cons e es =>
    cases rest with
    | nil =>
      cases es with
      | cons _ _ => exact False.elim h
      | nil =>
      show wpAny _ _ (holding [y] (eval e cx.env) >>= fun rv => standAt pos >>= fun _ => operate [y, rv] (compareOp op y rv)) Q E s
      refine wpAny_bind (wpAny_holding (S.e e σ (chE op a k) h B s hR _ E fun B1 b σ1 z h1 tk1 n1 r1 k1 => wpAny_bind (wpAny_standAt (wpAny_operate' ?_))))
      exact cmp_at (kb := k) G n1.rel (ha.mono n1.stp.bm) r1 k1 Q E fun B2 c σ2 v h2 tk2 n2 r2 k2 => hQ B2 (.bool c) σ2 v h2 tk2 (n1.trans n2) (r2 ▸ .bool c) (hk c σ2 k2)
    | cons op2 ops =>
      show wpAny _ _ (holding [y] (eval e cx.env) >>= fun rv => standAt pos >>= fun _ => holding [y, rv] (compareOp op y rv) >>= fun c => release [y, rv] [c] >>= fun _ => holding [c, rv] (truthy c) >>= fun t => if t then compareChain pos rv (op2 :: ops) (evalEach es cx.env) else pure c) Q E s
      refine wpAny_bind (wpAny_holding (S.e e σ (chC op a (fun a es σ k => chainK R.e a (op2 :: ops) es σ k) es k) h B s hR _ E fun B1 b σ1 z h1 tk1 n1 r1 k1 => wpAny_bind (wpAny_standAt (wpAny_bind (wpAny_holding ?_)))))
      refine cmp_at (kb := fun c σ => chD (chainK R.e b (op2 :: ops) es) k σ c) G n1.rel (ha.mono n1.stp.bm) r1 k1 _ E fun B2 c σ2 v h2 tk2 n2 r2 k2 => ?_
      obtain rfl : v = .bool c := r2
      refine wpAny_bind (wpAny_release' (wpAny_bind (wpAny_holding (wpAny_truthy_bool ?_))))
      cases c with
      | true =>
        rw [if_pos rfl]
        exact ih hk k2 B2 _ n2.rel (r1.mono n2.stp.bm) Q E fun B3 c σ3 v h3 tk3 n3 r3 k3 => hQ B3 c σ3 v h3 tk3 ((n1.trans n2).trans n3) r3 k3
      | false =>
        rw [if_neg Bool.false_ne_true]
        exact wpAny_pure (hQ B2 (.bool false) σ2 _ h2 tk2 (n1.trans n2) (.bool _) (hk false σ2 k2))

theorem chainT (G : Gd ec cx) (S : Snd ec cx R) {pos : Pos} {ops : List CmpOp} : ∀ {es : List PySem.Expr} {a : AV} {y : Value} {σ : AS} {k : KB}, chainK R.e a ops es σ k → ∀ B s, Rel cx B σ s.heap → Rep B a y →
    At cx EqRep B σ s (testChain pos y ops (evalEach es cx.env)) k := by
  induction ops with
  | nil => intro es a y σ k h; exact False.elim h
  | cons op rest ih =>
    intro es a y σ k h B s hR ha Q E hQ
    cases es with
    | nil => cases rest <;> exact False.elim h
    | cons e es =>
    cases rest with
    | nil =>
      cases es with
      | cons _ _ => exact False.elim h
      | nil =>
      show wpAny _ _ (holding [y] (eval e cx.env) >>= fun rv => standAt pos >>= fun _ => operate [y, rv] (compareOp op y rv) >>= fun c => holding [c] (truthy c)) Q E s
      refine wpAny_bind (wpAny_holding (S.e e σ (chE op a k) h B s hR _ E fun B1 b σ1 z h1 tk1 n1 r1 k1 => wpAny_bind (wpAny_standAt (wpAny_bind (wpAny_operate' ?_)))))
      refine cmp_at (kb := k) G n1.rel (ha.mono n1.stp.bm) r1 k1 _ E fun B2 c σ2 v h2 tk2 n2 r2 k2 => ?_
      obtain rfl : v = .bool c := r2
      exact wpAny_holding (wpAny_truthy_bool (hQ B2 c σ2 c h2 tk2 (n1.trans n2) rfl k2))
    | cons op2 ops =>
      show wpAny _ _ (holding [y] (eval e cx.env) >>= fun rv => standAt pos >>= fun _ => holding [y, rv] (compareOp op y rv) >>= fun c => release [y, rv] [c] >>= fun _ => holding [c, rv] (truthy c) >>= fun t => if t then testChain pos rv (op2 :: ops) (evalEach es cx.env) else pure false) Q E s
      refine wpAny_bind (wpAny_holding (S.e e σ (chC op a (fun a es σ k => chainK R.e a (op2 :: ops) es σ k) es k) h B s hR _ E fun B1 b σ1 z h1 tk1 n1 r1 k1 => wpAny_bind (wpAny_standAt (wpAny_bind (wpAny_holding ?_)))))
      refine cmp_at (kb := fun c σ => chD (chainK R.e b (op2 :: ops) es) k σ c) G n1.rel (ha.mono n1.stp.bm) r1 k1 _ E fun B2 c σ2 v h2 tk2 n2 r2 k2 => ?_
      obtain rfl : v = .bool c := r2
      refine wpAny_bind (wpAny_release' (wpAny_bind (wpAny_holding (wpAny_truthy_bool ?_))))
      cases c with
      | true =>
        rw [if_pos rfl]
        exact ih k2 B2 _ n2.rel (r1.mono n2.stp.bm) Q E fun B3 c σ3 v h3 tk3 n3 r3 k3 => hQ B3 c σ3 v h3 tk3 ((n1.trans n2).trans n3) r3 k3
      | false =>
        rw [if_neg Bool.false_ne_true]
        exact wpAny_pure (hQ B2 false σ2 _ h2 tk2 (n1.trans n2) rfl k2)

theorem boolK_at (S : Snd ec cx R) {op : BoolOp} {pos : Pos} {es : List PySem.Expr} : ∀ {σ : AS} {k : KV}, boolK R.e op es σ k → Tr cx Rep (boolOp pos op (evalEach es cx.env)) σ k := by
  induction es with
  | nil => intro σ k h; exact False.elim h
  | cons e es ih =>
  cases es with
  | nil => intro σ k h; exact S.e e σ k h
  | cons e2 es =>
    intro σ k h B s hR Q E hQ
    refine wpAny_bind (S.e e σ (boolC op (boolK R.e op (e2 :: es)) k) h B s hR _ E fun B1 v σ1 y h1 tk1 n1 r1 k1 => wpAny_bind (wpAny_standAt (wpAny_bind (wpAny_holding ?_))))
    refine truth_at (kb := fun b σ => boolD op (boolK R.e op (e2 :: es)) k v σ b) n1.rel r1 k1 _ E fun B2 b σ2 c h2 tk2 n2 r2 k2 => ?_
    obtain rfl : b = c := r2
    have go : boolK R.e op (e2 :: es) σ2 k → wpAny (model cx.prog cx.w) cx.A (boolOp pos op (evalEach (e2 :: es) cx.env)) Q E { s with heap := h2, toks := tk2 } := fun k2 =>
      ih k2 B2 _ n2.rel Q E fun B3 v σ3 y h3 tk3 n3 r3 k3 => hQ B3 v σ3 y h3 tk3 ((n1.trans n2).trans n3) r3 k3
    have stop : k v σ2 → wpAny (model cx.prog cx.w) cx.A (pure y) Q E { s with heap := h2, toks := tk2 } := fun k2 => wpAny_pure (hQ B2 v σ2 y h2 tk2 (n1.trans n2) (r1.mono n2.stp.bm) k2)
    cases op <;> cases b <;> first | exact go k2 | exact stop k2

theorem allK_at (S : Snd ec cx R) {op : BoolOp} {es : List PySem.Expr} : ∀ {σ : AS} {k : KB}, allK R.t op es σ k → Tr cx EqRep (allTrue op es cx.env) σ k := by
  induction es with
  | nil =>
    intro σ k h B s hR Q E hQ
    cases op with
    | And => exact wpAny_pure (hQ B true σ _ _ s.toks (.refl hR) rfl h)
    | Or => exact wpAny_pure (hQ B false σ _ _ s.toks (.refl hR) rfl h)
  | cons e es ih =>
    intro σ k h B s hR Q E hQ
    refine wpAny_bind (S.t e σ (allC op (allK R.t op es) k) h B s hR _ E fun B1 b σ1 c h1 tk1 n1 r1 k1 => ?_)
    obtain rfl : b = c := r1
    have go : allK R.t op es σ1 k → wpAny (model cx.prog cx.w) cx.A (allTrue op es cx.env) Q E { s with heap := h1, toks := tk1 } := fun k1 =>
      ih k1 B1 _ n1.rel Q E fun B3 v σ3 y h3 tk3 n3 r3 k3 => hQ B3 v σ3 y h3 tk3 (n1.trans n3) r3 k3
    have stop : ∀ c, k c σ1 → wpAny (model cx.prog cx.w) cx.A (pure c) Q E { s with heap := h1, toks := tk1 } := fun c k1 => wpAny_pure (hQ B1 c σ1 _ h1 tk1 n1 rfl k1)
    cases op <;> cases b <;> first | exact go k1 | exact stop _ k1
end
end
section
open PySem PySem.W PyProof.Rows PySem.Calls PySem.Spec PySem.SeqAt
section
variable {ec : EC} {cx : Cx} {R : Rec}
theorem bi_noref (b : Bi) (a : Addr) : b.val ≠ .ref a := by cases b <;> (intro h; cases h)
/-- a callee's name stands for what it stands for -/
theorem name_val (G : Gd ec cx) {B : Base} {σ : AS} {s : Shared} (hR : Rel cx B σ s.heap) {x : Str} {pos : Pos} {kk : AV → Prop} (h : getK x σ.loc kk (getK x ec.gl kk False)) :
    ∃ v y, Rep B v y ∧ kk v ∧ ∀ (Q : Value → Shared → Prop) (E : Value → Shared → Prop), Q y s → wpAny (model cx.prog cx.w) cx.A (eval (.Name x pos) cx.env) Q E s := by
  rcases getK_iff h with ⟨v, e, hk⟩ | ⟨_, h⟩
  · obtain ⟨m, hn, hm⟩ := hR.ns
    obtain ⟨hl, y, hy, hr⟩ := hm x v e
    exact ⟨v, y, hr, hk, fun Q E q => wpAny_Name (wpAny_loadName_local G.ok.kind hl hn hy q) (G.nd hl)⟩
  · rcases getK_iff h with ⟨v, e, hk⟩ | ⟨_, h⟩
    · obtain ⟨hl, y, hy, hr⟩ := G.gl x v e
      obtain ⟨p, loose, mg, mb, T⟩ := G.ok.top
      have T' := T.keeps (fun b o e => hR.keep b o (hR.gB b o e))
      refine ⟨v, y, hr B fun a o e => hR.gB _ _ (G.ok.kin a o e), hk, fun Q E q => ?_⟩
      refine Name_function_global G.ok.kind hl ?_ (G.nd hl)
      have X := hR.kin G.ok
      rcases hy with hy | ⟨h1, h2, h3⟩
      · exact loadGlobal_global (env := cx.env) T'.g (mg_of X T'.g hy) q
      · exact loadGlobal_builtin (env := cx.env) T'.g (mg_none_of X T'.g h1) T'.b ((T'.builtins x h3).trans h2) q
    · exact h.elim

theorem keepK_iff {a : Addr} {l : List Addr} (h : keepK a l = true) : a ∈ l := by
  induction l with
  | nil => exact ff h
  | cons b r ih =>
    unfold keepK at h
    cases q : Nat.beq a b with
    | true => rw [Nat.eq_of_beq_eq_true q]; exact .head _
    | false => rw [q] at h; exact .tail _ (ih h)
theorem keep_ok {K : Frag} (kn : Kn K) {a : Addr} (h : keepK a keepTab = true) : keepIn K (.ref a) = true := List.all_eq_true.mp kn.keeps _ (keepK_iff h)
theorem part_at {B : Base} {v : AV} {y : Value} {kk : Option Nat → Prop} (hr : Rep B v y) (hk : bndK v kk) : ∃ p, IsPart y (p.map fun (n : Nat) => (n : Int)) ∧ kk p := by
  cases v with
  | none =>
    obtain rfl := hr.noneL
    exact ⟨none, .none, hk⟩
  | int i =>
    obtain ⟨t, rfl⟩ := hr.intL
    refine ⟨some i.toNat, ?_, hk.2⟩
    have : ((i.toNat : Nat) : Int) = i := Int.toNat_of_nonneg hk.1
    rw [Option.map_some, this]
    exact .int i t
  | _ => exact False.elim hk
/-- the evaluator can always be run to one end, or it is false -/
theorem subE_sound (S : Snd ec cx R) {v i : PySem.Expr} {pos : Pos} {σ : AS} {k : KV} (h : cond (notSlice i) (R.e v σ (subA R i k)) False) : Tr cx Rep (eval (.Subscript v i pos) cx.env) σ k := by
  intro B s hR Q E hQ
  obtain ⟨hn, h⟩ := cond_l h
  refine Subscript_ (S.e v σ (subA R i k) h B s hR _ E fun B1 o σ1 y1 h1 tk1 n1 r1 k1 => S.e i σ1 (subB o k) k1 B1 _ n1.rel _ E fun B2 iv σ2 y2 h2 tk2 n2 r2 k2 => ?_)
  exact sub_at n2.rel hn (r1.mono n2.stp.bm) r2 k2 Q E fun B3 v σ3 y3 h3 tk3 n3 r3 k3 => hQ B3 v σ3 y3 h3 tk3 ((n1.trans n2).trans n3) r3 k3
theorem stepE_sound (G : Gd ec cx) (S : Snd ec cx R) {e : PySem.Expr} {σ : AS} {k : KV} (h : stepE ec R e σ k) : Tr cx Rep (eval e cx.env) σ k := by
  intro B s hR Q E hQ
  cases e with
  | Constant c q1 q2 =>
    cases c with
    | int i =>
      exact wpAny_Constant_int (hQ B _ σ _ _ _ (.refl hR) (.int _ _) h)
    | none =>
      exact wpAny_Constant_none (hQ B _ σ _ _ s.toks (.refl hR) .none h)
    | bool bb =>
      exact wpAny_Constant_bool (hQ B _ σ _ _ s.toks (.refl hR) (.bool _) h)
    | bytes bb =>
      exact wpAny_mkTextBytes (hQ B _ σ _ _ _ (.refl hR) (.bytes _ _) h)
    | _ => exact False.elim h
  | Name x p =>
    obtain ⟨v, y, hr, k1, hname⟩ := name_val (pos := p) G hR h
    exact hname Q E (hQ B v σ y _ s.toks (.refl hR) hr k1)
  | BinOp l op r pos =>
    refine wpAny_BinOp (S.e l σ (binL R op r k) h B s hR _ E fun B1 a σ1 y1 h1 tk1 n1 r1 k1 => S.e r σ1 (binR op a k) k1 B1 _ n1.rel _ E fun B2 b σ2 y2 h2 tk2 n2 r2 k2 => ?_)
    exact bin_at (k := k) n2.rel (r1.mono n2.stp.bm) r2 k2 Q E fun B3 v σ3 y3 h3 tk3 n3 r3 k3 => hQ B3 v σ3 y3 h3 tk3 ((n1.trans n2).trans n3) r3 k3
  | UnaryOp op x pos =>
    cases op with
    | USub =>
      refine wpAny_UnaryOp (S.e x σ (negC k) h B s hR _ E fun B1 a σ1 y1 h1 tk1 n1 r1 k1 => ?_)
      exact neg_at (k := k) (s := { s with heap := h1, toks := tk1 }) n1.rel r1 k1 Q E fun B3 v σ3 y3 h3 tk3 n3 r3 k3 => hQ B3 v σ3 y3 h3 tk3 (n1.trans n3) r3 k3
    | Not =>
      refine wpAny_UnaryOp (S.e x σ (notV k) h B s hR _ E fun B1 a σ1 y1 h1 tk1 n1 r1 k1 => not_of ?_)
      exact truth_at (kb := fun b σ => k (.bool (!b)) σ) n1.rel r1 k1 _ E fun B3 b σ3 c h3 tk3 n3 r3 k3 => hQ B3 (.bool (!b)) σ3 _ h3 tk3 (n1.trans n3) (by obtain rfl : b = c := r3; exact .bool _) k3
    | _ => exact False.elim h
  | BoolOp op vs pos =>
    exact boolK_at S h B s hR Q E hQ
  | IfExp t b o pos =>
    refine IfExp_ (S.t t σ (ifE R b o k) h B s hR _ E fun B1 c σ1 d h1 tk1 n1 r1 k1 => ?_)
    obtain rfl : c = d := r1
    cases c with
    | true =>
      rw [if_pos rfl]
      exact S.e b σ1 k k1 B1 _ n1.rel Q E fun B3 v σ3 y3 h3 tk3 n3 r3 k3 => hQ B3 v σ3 y3 h3 tk3 (n1.trans n3) r3 k3
    | false =>
      rw [if_neg Bool.false_ne_true]
      exact S.e o σ1 k k1 B1 _ n1.rel Q E fun B3 v σ3 y3 h3 tk3 n3 r3 k3 => hQ B3 v σ3 y3 h3 tk3 (n1.trans n3) r3 k3
  | Compare l ops rs pos =>
    obtain ⟨hm, h⟩ := cond_r h
    show wpAny _ _ (eval l cx.env >>= fun a => compareChain pos a ops (markedEach ops rs (evalEach rs cx.env))) Q E s
    rw [markedEach_of_false _ _ _ hm]
    refine wpAny_bind (S.e l σ (cmpC R ops rs (boolV k)) h B s hR _ E fun B1 a σ1 y1 h1 tk1 n1 r1 k1 => ?_)
    exact chainV (k := boolV k) (kv := k) G S (fun c σ h => h) k1 B1 _ n1.rel r1 Q E fun B3 v σ3 y3 h3 tk3 n3 r3 k3 => hQ B3 v σ3 y3 h3 tk3 (n1.trans n3) r3 k3
  | Tuple es kk pos =>
    obtain ⟨hs, h⟩ := cond_l h
    refine Tuple_ (evL_at (k := tupC k) S.e hs h B s hR _ E fun B1 vs σ1 ys h1 tk1 n1 r1 k1 => ?_)
    obtain ⟨hz, k1⟩ := cond_l k1
    exact newTuple_at (k := k) (s := { s with heap := h1, toks := tk1 }) n1.rel r1 (Nat.le_of_ble_eq_true hz) k1 Q E fun B3 v σ3 y3 h3 tk3 n3 r3 k3 => hQ B3 v σ3 y3 h3 tk3 (n1.trans n3) r3 k3
  | List es pos =>
    obtain ⟨hs, h⟩ := cond_l h
    refine List_ (evL_at (k := lstC ec.ml k) S.e hs h B s hR _ E fun B1 vs σ1 ys h1 tk1 n1 r1 k1 => ?_)
    obtain ⟨hz, k1⟩ := cond_l k1
    rcases cond_of k1 with ⟨_, k1⟩ | ⟨_, k1⟩
    · exact newListT_at (k := k) (s := { s with heap := h1, toks := tk1 }) n1.rel r1 (Nat.le_of_ble_eq_true hz) k1.go Q E fun B3 v σ3 y3 h3 tk3 n3 r3 k3 => hQ B3 v σ3 y3 h3 tk3 (n1.trans n3) r3 k3
    · exact newList_at (k := k) (s := { s with heap := h1, toks := tk1 }) n1.rel r1 (Nat.le_of_ble_eq_true hz) k1 Q E fun B3 v σ3 y3 h3 tk3 n3 r3 k3 => hQ B3 v σ3 y3 h3 tk3 (n1.trans n3) r3 k3
  | Dict ks vs pos =>
    cases ks with
    | nil =>
      cases vs with
      | nil =>
        have N := hR.lay (dictOf [] 0) rfl
        exact wpAny_Dict_empty (hQ _ _ _ _ _ s.toks N (.edict bset_self (hR.sys G)) h)
      | cons _ _ => exact False.elim h
    | cons _ _ => exact False.elim h
  | Attribute o nm pos =>
    obtain ⟨hb, h⟩ := cond_l h
    refine Attribute_any_ (S.e o σ (attC nm k) h B s hR _ E fun B1 v σ1 y1 h1 tk1 n1 r1 k1 => ?_) (by rw [arm_eval_Attribute, base_ok hb])
    exact attr_at (k := k) G n1.rel r1 k1 Q E fun B3 v σ3 y3 h3 tk3 n3 r3 k3 => hQ B3 v σ3 y3 h3 tk3 (n1.trans n3) r3 k3
  | Subscript v i pos =>
    cases i with
    | Slice lo hi st sp =>
      cases st with
      | none =>
        refine Subscript_ (S.e v σ (slA R lo hi k) h B s hR _ E fun B1 o σ1 y1 h1 tk1 n1 r1 k1 => ?_)
        show wpAny _ _ (valueOrNone (evalOpt lo cx.env) >>= fun l => holding [l] (valueOrNone (evalOpt hi cx.env)) >>= fun u => holding [l, u] (valueOrNone (evalOpt none cx.env)) >>= fun st => newFields "slice" [l, u, st]) _ E _
        refine wpAny_bind (evO_at (k := slB R hi o k) S k1 B1 _ n1.rel _ E fun B2 lv σ2 y2 h2 tk2 n2 r2 k2 => wpAny_bind (wpAny_holding ?_))
        refine evO_at (k := slC o lv k) S k2 B2 { s with heap := h2, toks := tk2 } n2.rel _ E fun B3 hv σ3 y3 h3 tk3 n3 r3 k3 => wpAny_bind (wpAny_holding (wpAny_pure ?_))
        refine wpAny_newObj_type ?_
        have r1 := (r1.mono n2.stp.bm).mono n3.stp.bm
        obtain ⟨xs, k3, a, vs, rfl, e, hl⟩ := sli_here (s := { s with heap := h3, toks := tk3 }) n3.rel r1 k3
        obtain ⟨p, hp, k3⟩ := part_at (r2.mono n3.stp.bm) k3
        obtain ⟨q, hq, hz, k3⟩ := part_at r3 k3
        have N1 := n3.rel.grow (h' := h3.push { cls := .type "slice", data := .fields #[y2, y3, .none] }) (fun _ _ e => Heap.get?_push_of_some _ e)
        have e1 : (h3.push { cls := .type "slice", data := .fields #[y2, y3, .none] }).IsList a vs.toArray := e.push _
        have hsz : vs.toArray.size ≤ sizeLine := by rw [List.size_toArray, ← hl.length, sizeLine_eq]; omega
        refine tail_any (id := "list.__getitem__") (e1.typeIs) slot_list_getitem.lookup (wpAny_getItem_list_slice (s := { s with heap := h3.push { cls := .type "slice", data := .fields #[y2, y3, .none] }, toks := tk3 }) e1 (Heap.IsSliceOf.new ..) hp hq .none (by simp) ?_ hsz) rfl
        have hc := pick_cut vs p q
        have N2 := N1.rel.lay (s := { s with heap := h3.push { cls := .type "slice", data := .fields #[y2, y3, .none] }, toks := tk3 }) (listO (slicePick vs.toArray (p.map fun (n : Nat) => (n : Int)) (q.map fun (n : Nat) => (n : Int)) none).toList 0) rfl
        have hrep : RepL B3 (cut p q xs) (slicePick vs.toArray (p.map fun (n : Nat) => (n : Int)) (q.map fun (n : Nat) => (n : Int)) none).toList := by
          rw [hc]
          unfold cut
          cases q with
          | none => exact hl.drop _
          | some b => exact (hl.take _).drop _
        exact hQ _ _ _ _ _ _ (((n1.trans n2).trans n3).trans (N1.trans N2)) ((hrep.mono N2.stp.bm).toLst bset_self) k3
      | some _ => exact False.elim h
    | _ => refine subE_sound (k := k) S ?_ B s hR Q E hQ; exact h
  | Call f args ks p =>
    cases ks with
    | nil =>
      cases f with
      | Attribute o nm ap =>
        obtain ⟨hc, h⟩ := cond_l h
        simp only [Bool.and_eq_true] at hc
        obtain ⟨hb, hl, hlen, hst⟩ := hc
        have hlen := Nat.le_of_ble_eq_true hlen
        rw [arm_eval_Call, base_ok hb]
        refine wpAny_bind (S.e o σ _ h B s hR _ E fun B1 ov σ1 y1 h1 tk1 n1 r1 k1 => wpAny_bind (wpAny_standAt ?_))
        have hform : methodCallForm (args.length + ([] : List Keyword).length) (backTo p (starEach args cx.env)) (backToKw p (keywordEach [] cx.env)) = true := by
          unfold methodCallForm
          have h1 := star_any (pos := p) (env := cx.env) hst
          have h2 : (backTo p (starEach args cx.env)).all (fun x => !x.1) = true := by
            rw [List.all_eq_not_any_not]; simp only [Bool.not_not]; rw [h1]; rfl
          rw [h2, show backToKw p (keywordEach [] cx.env) = [] from rfl]
          simp
          omega
        show wpAny _ _ (holding [y1] (calleeOf (methodCallForm (args.length + ([] : List Keyword).length) (backTo p (starEach args cx.env)) (backToKw p (keywordEach [] cx.env))) o cx.env y1 nm) >>= fun ff => methodCallPos (methodCallForm (args.length + ([] : List Keyword).length) (backTo p (starEach args cx.env)) (backToKw p (keywordEach [] cx.env))) o cx.env ap p >>= fun cp => callWith cp ff.1 ff.2 (backTo p (starEach args cx.env)) []) Q E _
        rw [hform]
        have hpos : methodCallPos true o cx.env ap p = pure p := by unfold methodCallPos; rw [hl]; rfl
        rw [hpos]
        refine wpAny_bind (wpAny_holding ?_)
        show wpAny _ _ (getMethod y1 nm _) _ E _
        cases ov with
        | ref a =>
          have km : getT a σ1.T (mthO ec R a nm args σ1 k) := k1
          clear k1
          obtain ⟨ob, hm, k1⟩ := km.go
          obtain rfl := r1.refL
          cases ob with
          | inst C d fs =>
            obtain ⟨hf, k1⟩ := cond_r k1
            obtain ⟨l, hl1, k1⟩ := atK_iff k1
            obtain ⟨f, hl2, k1⟩ := assocK_iff k1
            refine meth_at (s := { s with heap := h1, toks := tk1 }) G n1.rel hm hf hl1 hl2 (wpAny_bind (wpAny_pure ?_))
            refine callWith_at (k := k) (kk := calV ec.n f (.ref a) k) G S.e n1.rel hst (.inr (meth_keep G.ok.kn hl1 hl2)) k1 (fun B2 vs σ2 ys h2 tk2 n2 r2 k2 => ?_) Q E fun B3 v σ3 y3 h3 tk3 n3 r3 k3 => hQ B3 v σ3 y3 h3 tk3 (n1.trans n3) r3 k3
            exact ((Stop.go k2).run cx G.ok).at B2 { s with heap := h2, toks := tk2 } (.ref a :: ys) n2.rel (.cons (.ref a) r2)
          | list xs =>
            obtain ⟨m, rfl, k1'⟩ := lmK_iff (n := nm) (k := fun m => evL R.e args σ1 (lmC m a k)) k1
            refine lget_at (s := { s with heap := h1, toks := tk1 }) n1.rel hm (wpAny_bind (wpAny_pure ?_))
            refine callWith_at (k := k) (kk := lmC m a k) G S.e n1.rel hst (.inl (fun a h => by cases h)) k1' (fun B2 vs σ2 ys h2 tk2 n2 r2 k2 => ?_) Q E fun B3 v σ3 y3 h3 tk3 n3 r3 k3 => hQ B3 v σ3 y3 h3 tk3 (n1.trans n3) r3 k3
            exact lcall_at (s := { s with heap := h2, toks := tk2 }) n2.rel r2 k2
        | _ => exact False.elim k1
      | Name f fp =>
        obtain ⟨hc, h⟩ := cond_l h
        simp only [Bool.and_eq_true] at hc
        obtain ⟨hlen, hst⟩ := hc
        obtain ⟨v, y, hr, k1, hname⟩ := name_val (pos := fp) G hR h
        refine wpAny_Call_Name_kw (hname _ E ?_)
        cases v with
        | glob a =>
          obtain ⟨hk, k1⟩ := cond_l k1
          obtain rfl := hr.globL
          refine callWith_at (k := k) (kk := calG ec.n a k) (first := []) G S.e hR hst (.inr (keep_ok G.ok.kn hk)) k1 (fun B2 vs σ2 ys h2 tk2 n2 r2 k2 => ?_) Q E hQ
          exact ((Stop.go k2).run cx G.ok).at B2 { s with heap := h2, toks := tk2 } ys n2.rel r2
        | bi b =>
          obtain rfl := hr.biL
          refine callWith_at (k := k) (kk := biC b k) (first := []) G S.e hR hst (.inl (bi_noref _)) k1 (fun B2 vs σ2 ys h2 tk2 n2 r2 k2 => ?_) Q E hQ
          exact bi_at (k := k) (s := { s with heap := h2, toks := tk2 }) G n2.rel r2 k2
        | _ => exact False.elim k1
      | _ => exact False.elim h
    | cons _ _ => exact False.elim h
  | ListComp a b c d =>
    exact (Stop.go h).run cx G.ok G.sc B s hR Q E hQ
  | _ => exact False.elim h
end
end
section
open PySem PySem.W PyProof.Rows PySem.Calls PySem.Spec PySem.SeqAt
section
variable {ec : EC} {cx : Cx} {R : Rec}
theorem stepT_sound (G : Gd ec cx) (S : Snd ec cx R) {e : PySem.Expr} {σ : AS} {k : KB} (h : stepT R e σ k) : Tr cx EqRep (isTrue e cx.env (eval e cx.env)) σ k := by
  intro B s hR Q E hQ
  cases e with
  | UnaryOp op x pos =>
    cases op with
    | Not => exact isTrue_not (S.t x σ (notT k) h B s hR _ E fun B1 b σ1 c h1 tk1 n1 r1 k1 => hQ B1 (!b) σ1 (!c) h1 tk1 n1 (by rw [show b = c from r1]; rfl) k1)
    | _ => exact False.elim h
  | BoolOp op vs pos => exact allK_at S h B s hR Q E hQ
  | IfExp t b o pos =>
    refine isTrue_IfExp (S.t t σ (ifT R b o k) h B s hR _ E fun B1 c σ1 d h1 tk1 n1 r1 k1 => ?_)
    obtain rfl : c = d := r1
    cases c with
    | true =>
      rw [if_pos rfl]
      exact S.t b σ1 k k1 B1 _ n1.rel Q E fun B3 v σ3 y3 h3 tk3 n3 r3 k3 => hQ B3 v σ3 y3 h3 tk3 (n1.trans n3) r3 k3
    | false =>
      rw [if_neg Bool.false_ne_true]
      exact S.t o σ1 k k1 B1 _ n1.rel Q E fun B3 v σ3 y3 h3 tk3 n3 r3 k3 => hQ B3 v σ3 y3 h3 tk3 (n1.trans n3) r3 k3
  | Compare l ops rs pos =>
    obtain ⟨hm, h⟩ := cond_r h
    show wpAny _ _ (eval l cx.env >>= fun a => testChain pos a ops (markedEach ops rs (evalEach rs cx.env))) Q E s
    rw [markedEach_of_false _ _ _ hm]
    refine wpAny_bind (S.e l σ (cmpC R ops rs k) h B s hR _ E fun B1 a σ1 y1 h1 tk1 n1 r1 k1 => ?_)
    exact chainT G S k1 B1 _ n1.rel r1 Q E fun B3 v σ3 y3 h3 tk3 n3 r3 k3 => hQ B3 v σ3 y3 h3 tk3 (n1.trans n3) r3 k3
  | Name x p =>
    refine isTrue_plain (S.e _ σ (truT k) h B s hR _ E fun B1 a σ1 y1 h1 tk1 n1 r1 k1 => ?_)
    exact truth_at (kb := k) (s := { s with heap := h1, toks := tk1 }) n1.rel r1 k1 Q E fun B3 v σ3 y3 h3 tk3 n3 r3 k3 => hQ B3 v σ3 y3 h3 tk3 (n1.trans n3) r3 k3
  | Call f a c p =>
    refine isTrue_plain (S.e _ σ (truT k) h B s hR _ E fun B1 a σ1 y1 h1 tk1 n1 r1 k1 => ?_)
    exact truth_at (kb := k) (s := { s with heap := h1, toks := tk1 }) n1.rel r1 k1 Q E fun B3 v σ3 y3 h3 tk3 n3 r3 k3 => hQ B3 v σ3 y3 h3 tk3 (n1.trans n3) r3 k3
  | _ => exact False.elim h

theorem noSwap {e : PySem.Expr} {t : Option PySem.Expr} {l : Nat} {env : Env} (h : notComp e = true) : swapsWith e t l env = pure false := by
  cases e <;> first | rfl | exact ff h
theorem noFold {e : PySem.Expr} {env : Env} (h : notComp e = true) (x : Value) : foldedSetIterable e env x = pure x := by
  cases e <;> first | rfl | exact ff h

/-- one target takes its value -/
theorem asgT_at (G : Gd ec cx) (S : Snd ec cx R) {t : PySem.Expr} {v : AV} {y : Value} {B : Base} {s : Shared} {σ : AS} {kk : AS → Prop} (hR : Rel cx B σ s.heap) (hy : Rep B v y) (h : asgT ec R.e t v kk σ) :
    At cx (fun _ (_ _ : Unit) => True) B σ s (assign t cx.env y) (fun _ => kk) := fun Q E hQ => by
  cases t with
  | Name x p => exact wpAny_assign_Name (store_at G hR hy h Q E hQ)
  | Attribute o nm p =>
    show wpAny _ _ (holding [y] (eval o cx.env) >>= fun ov => standAt p.atName >>= fun _ => holding [y, ov] (setAttr ov nm y) >>= fun _ => release [y, ov] []) Q E s
    refine wpAny_bind (wpAny_holding (S.e o σ (asgA nm v kk) h B s hR _ E fun B1 ov σ1 z h1 tk1 n1 r1 k1 => wpAny_bind (wpAny_standAt (wpAny_bind (wpAny_holding ?_)))))
    exact setattr_at (s := { s with heap := h1, toks := tk1 }) G n1.rel r1 (hy.mono n1.stp.bm) k1 _ E fun B2 b σ2 y2 h2 tk2 n2 _ k2 => wpAny_release' (hQ B2 b σ2 y2 h2 tk2 (n1.trans n2) trivial k2)
  | _ => exact False.elim h
theorem plainTs_cons {t : PySem.Expr} {ts : List PySem.Expr} {env : Env} (h : plainTs (t :: ts) = true) : plainTs ts = true ∧ assignEach (t :: ts) env = (false, assign t env) :: assignEach ts env := by
  cases t <;> first | exact ⟨h, rfl⟩ | exact ff h
theorem assignL_at (G : Gd ec cx) (S : Snd ec cx R) {ts : List PySem.Expr} : ∀ {vs : List AV} {ys : List Value} {σ : AS} {kk : AS → Prop}, plainTs ts = true → assignL ec R.e ts vs σ kk → ∀ B s, Rel cx B σ s.heap → RepL B vs ys →
    At cx (fun _ (_ _ : Unit) => True) B σ s (assignInOrder ((assignEach ts cx.env).map (·.2)) ys) (fun _ => kk) := by
  induction ts with
  | nil =>
    intro vs ys σ kk _ h B s hR hr Q E hQ
    cases vs with
    | nil =>
      obtain rfl := hr.nilL
      exact wpAny_pure (hQ B () σ () _ s.toks (.refl hR) trivial h)
    | cons _ _ => exact False.elim h
  | cons t ts ih =>
    intro vs ys σ kk hp h B s hR hr Q E hQ
    obtain ⟨hp, e⟩ := plainTs_cons (env := cx.env) hp
    rw [e]
    cases vs with
    | nil => exact False.elim h
    | cons v vs =>
      obtain ⟨y, ys, rfl, hy, hr⟩ := hr.consL
      show wpAny _ _ (holding ys (assign t cx.env y) >>= fun _ => assignInOrder ((assignEach ts cx.env).map (·.2)) ys) Q E s
      refine wpAny_bind (wpAny_holding (asgT_at G S hR hy h _ E fun B1 _ σ1 _ h1 tk1 n1 _ k1 => ?_))
      exact ih hp k1 B1 { s with heap := h1, toks := tk1 } n1.rel (hr.mono n1.stp.bm) Q E fun B2 b σ2 y2 h2 tk2 n2 r2 k2 => hQ B2 b σ2 y2 h2 tk2 (n1.trans n2) r2 k2
theorem storeL_at (G : Gd ec cx) {ts : List Str} : ∀ {vs : List AV} {ys : List Value} {σ : AS} {kk : AS → Prop}, storeL ec ts vs σ kk → ∀ B s, Rel cx B σ s.heap → RepL B vs ys →
    At cx (fun _ (_ _ : Unit) => True) B σ s (assignInOrder (ts.map fun n => bindName cx.env n) ys) (fun _ => kk) := by
  induction ts with
  | nil =>
    intro vs ys σ kk h B s hR hr Q E hQ
    cases vs with
    | nil =>
      obtain rfl := hr.nilL
      exact wpAny_pure (hQ B () σ () _ s.toks (.refl hR) trivial h)
    | cons _ _ => exact False.elim h
  | cons x ts ih =>
    intro vs ys σ kk h B s hR hr Q E hQ
    cases vs with
    | nil => exact False.elim h
    | cons v vs =>
      obtain ⟨y, ys, rfl, hy, hr⟩ := hr.consL
      show wpAny _ _ (holding ys (bindName cx.env x y) >>= fun _ => assignInOrder (ts.map fun n => bindName cx.env n) ys) Q E s
      refine wpAny_bind (wpAny_holding (bind_at (kk := asgI (storeL ec ts) vs kk) G hR hy h _ E fun B1 _ σ1 _ h1 tk1 n1 _ k1 => ?_))
      exact ih k1 B1 { s with heap := h1, toks := tk1 } n1.rel (hr.mono n1.stp.bm) Q E fun B2 b σ2 y2 h2 tk2 n2 r2 k2 => hQ B2 b σ2 y2 h2 tk2 (n1.trans n2) r2 k2

theorem RepL.rev {B : Base} {xs : List AV} {vs : List Value} (r : RepL B xs vs) : RepL B xs.reverse vs.reverse := by
  induction r with
  | nil => exact .nil
  | cons h _ ih => rw [List.reverse_cons, List.reverse_cons]; exact ih.append (.cons h .nil)
theorem plainTs_len {env : Env} {ts : List PySem.Expr} (h : plainTs ts = true) : (assignEach ts env).length = ts.length ∧ (assignEach ts env).findIdx? (·.1) = none := by
  induction ts with
  | nil => exact ⟨rfl, rfl⟩
  | cons t ts ih =>
    obtain ⟨hp, e⟩ := plainTs_cons (env := env) h
    obtain ⟨h1, h2⟩ := ih hp
    rw [e]
    exact ⟨by rw [List.length_cons, h1]; rfl, by rw [List.findIdx?_cons, h2]; rfl⟩

theorem fwd_at (G : Gd ec cx) (S : Snd ec cx R) {ts : List PySem.Expr} {tk : Nat} {tp pos : Pos} {e : PySem.Expr} {σ : AS} {k : KF} (hp : plainTs ts = true) (hc : notComp e = true) (hsw : swappedStores [.Tuple ts tk tp] e cx.env = pure none) (h : fwdK ec R ts e σ k) :
    Tr cx RepF (exec (.Assign [.Tuple ts tk tp] e pos) cx.env) σ k := fun B s hR Q E hQ => by
  refine Assign_Tuple (S.e e σ (fwdC ec R ts k) h B s hR _ E fun B1 v σ1 y h1 tk1 n1 r1 k1 => ?_) (by cases e <;> first | rfl | exact ff hc) hsw
  obtain ⟨xs, rfl, k1⟩ := tupI_iff k1
  · obtain ⟨hl, k1⟩ := cond_l k1
    obtain ⟨a, vs, m, rfl, ea, hl'⟩ := r1.tupL
    obtain ⟨p1, p2⟩ := plainTs_len (env := cx.env) hp
    have hlen : xs.length = ts.length := by simpa using hl
    have e1 := n1.rel.keep _ _ ea
    refine assign_Tuple_tuple (s := { s with heap := h1, toks := tk1 }) G.ok.handled (isTup_of e1) (by rw [p1, List.size_toArray, ← hl'.length, hlen]) p2 fun h' hk => ?_
    have N := n1.rel.grow (h' := h') fun b o e => hk b o (Nat.ne_of_lt (Heap.lt_size e)) e
    exact assignL_at G S hp k1 B1 { s with heap := h', toks := tk1 } N.rel hl' _ E fun B2 b σ2 y2 h2 tk2 n2 r2 k2 => hQ B2 .next σ2 .next h2 tk2 ((n1.trans N).trans n2) .next k2

theorem nos {α : Type} {x : α} {p : Prop} (h : none = some x) : p := by cases h
theorem swapNames_k {names : List Str} {a : Option NameKind} {b : Option (List Str)} {c : Bool} {id : Str} (h : (match a, b with
      | some .local, some l => cond c (some (id :: l)) none
      | _, _ => none) = some names) : ∃ l, b = some l ∧ a = some .local ∧ c = true ∧ names = id :: l := by
  cases a with
  | none => exact nos h
  | some a => cases b with
    | none => cases a <;> exact nos h
    | some l => cases a with
      | «local» => cases c with
        | true => exact ⟨l, rfl, rfl, rfl, (Option.some.inj h).symm⟩
        | false => exact nos h
      | _ => exact nos h
theorem swapNames_c {sc : Scope} {line : Nat} {t : PySem.Expr} {ts : List PySem.Expr} {names : List Str} (h : swapNames sc line (t :: ts) = some names) :
    ∃ id pos l, t = .Name id pos ∧ swapNames sc line ts = some l ∧ sc.names.lookup id = some NameKind.local ∧ (pos.line == line) = true ∧ names = id :: l := by
  cases t with
  | Name id pos =>
    obtain ⟨l, a, b, c, d⟩ := swapNames_k (id := id) h
    exact ⟨id, pos, l, rfl, a, b, c, d⟩
  | _ => exact nos h
theorem swapNames_iff {sc : Scope} {line : Nat} {f : PySem.Expr → Option Str} (hf : ∀ id pos, f (.Name id pos) = if sc.names.lookup id == some NameKind.local && pos.line == line then some id else none)
    {ts : List PySem.Expr} : ∀ {names : List Str}, swapNames sc line ts = some names → ts.filterMap f = names ∧ names.length = ts.length := by
  induction ts with
  | nil => intro names h; cases h; exact ⟨rfl, rfl⟩
  | cons t ts ih =>
    intro names h
    obtain ⟨id, pos, l, rfl, h2, h1, q, rfl⟩ := swapNames_c h
    obtain ⟨a, b⟩ := ih h2
    have c : (List.lookup id sc.names == some NameKind.local && pos.line == line) = true := by rw [h1, q]; rfl
    exact ⟨by rw [List.filterMap_cons, hf, if_pos c, a], congrArg (· + 1) b⟩
theorem noStar_cons {v : PySem.Expr} {r : List PySem.Expr} (h : noStar (v :: r) = true) : noStar r = true ∧ noStar [v] = true := by cases v <;> first | exact ⟨h, rfl⟩ | exact ff h
theorem star_not {f : PySem.Expr → Bool} (hf : ∀ e, noStar [e] = true → f e = false) {vs : List PySem.Expr} (h : noStar vs = true) : vs.any f = false := by
  induction vs with
  | nil => rfl
  | cons v r ih =>
    obtain ⟨h1, h2⟩ := noStar_cons h
    rw [List.any_cons, ih h1, hf v h2]; rfl
end
end
section
open PySem PySem.W PyProof.Rows PySem.Calls PySem.Spec PySem.SeqAt
section
variable {ec : EC} {cx : Cx} {R : Rec}
theorem ite_t {p : Prop} {α : Type} [Decidable p] {x y z : α} (h : y = z) (h' : x = z) : (if p then x else y) = z := by
  by_cases q : p
  · rw [if_pos q, h']
  · rw [if_neg q, h]
theorem swapped_eq {env : Env} {ts vs : List PySem.Expr} {tk vk : Nat} {tp vp : Pos} : ∃ (f : PySem.Expr → Option Str) (g : PySem.Expr → Bool) (X : Sem (Option (List Str))), (∀ id pos, f (.Name id pos) = if env.kindOf id == some .local && pos.line == ((ts.head?.map (·.pos.line)).getD 0) then some id else none) ∧
    (∀ e, noStar [e] = true → g e = false) ∧ swappedStores [.Tuple ts tk tp] (.Tuple vs vk vp) env =
      (if (!(ts.length == 2 || ts.length == 3) || vs.length != ts.length || env.blockKind != .function) = true then pure none else if vs.any g = true then pure none else
        if ((ts.filterMap f).length != ts.length || (ts.filterMap f).eraseDups.length != (ts.filterMap f).length) = true then pure none else if vs.all (foldedForSure 8) = true then pure none else
        if vs.all (constantsAlone 8) = true then X else pure (some (ts.filterMap f))) := by
  refine ⟨_, _, _, ?_, ?_, rfl⟩
  · intro id pos; rfl
  · intro e he; cases e <;> first | rfl | exact ff he
theorem swapped_none {env : Env} {ts vs : List PySem.Expr} {tk vk : Nat} {tp vp : Pos} (h : (!(ts.length == 2 || ts.length == 3) || vs.all (foldedForSure 8)) = true) : swappedStores [.Tuple ts tk tp] (.Tuple vs vk vp) env = pure none := by
  obtain ⟨f, g, X, _, _, e⟩ := swapped_eq (env := env) (ts := ts) (vs := vs) (tk := tk) (vk := vk) (tp := tp) (vp := vp)
  rw [e]
  rcases Bool.or_eq_true_iff.mp h with h | h
  · rw [if_pos (by rw [h, Bool.true_or, Bool.true_or])]
  · exact ite_t (ite_t (ite_t (if_pos h) rfl) rfl) rfl
theorem swapped_some {ec : EC} (hk : cx.scope.kind = .function) (hsc : cx.scope = ec.sc) {ts vs : List PySem.Expr} {tk vk : Nat} {tp vp : Pos} {names : List Str} (h0 : (!(ts.length == 2 || ts.length == 3) || vs.all (foldedForSure 8)) = false) (h1 : vs.length = ts.length) (h2 : noStar vs = true) (h3 : vs.all (constantsAlone 8) = false)
    (h4 : swapNames ec.sc ((ts.head?.map (·.pos.line)).getD 0) ts = some names) (h5 : names.eraseDups.length = names.length) : swappedStores [.Tuple ts tk tp] (.Tuple vs vk vp) cx.env = pure (some names) := by
  obtain ⟨f, g, X, hf, hg, e⟩ := swapped_eq (env := cx.env) (ts := ts) (vs := vs) (tk := tk) (vk := vk) (tp := tp) (vp := vp)
  rw [← hsc] at h4
  obtain ⟨h0, h6⟩ := Bool.or_eq_false_iff.mp h0
  obtain ⟨a, b⟩ := swapNames_iff (f := f) (fun id pos => hf id pos) h4
  have hb : cx.env.blockKind = .function := by
    show (if cx.scope.kind.isAnnotationScope then ScopeKind.function else cx.scope.kind) = _
    rw [hk]; rfl
  rw [e, a, if_neg (by rw [h0, h1, hb, bne_self_eq_false]; decide), if_neg (by rw [star_not hg h2]; decide), if_neg (by rw [b, h5, b, bne_self_eq_false]; decide), if_neg (by rw [h6]; decide), if_neg (by rw [h3]; decide)]

theorem stmt_sound (G : Gd ec cx) (S : Snd ec cx R) {st : Stmt} {σ : AS} {k : KF} (h : stmtK ec R st σ k) : Tr cx RepF (exec st cx.env) σ k := by
  intro B s hR Q E hQ
  cases st with
  | Pass pos =>
    exact wpAny_Pass (hQ B .next σ _ _ s.toks (.refl hR) .next h)
  | Break pos =>
    exact wpAny_Break (hQ B .brk σ _ _ s.toks (.refl hR) .brk h)
  | Return o pos =>
    cases o with
    | none =>
      exact wpAny_Return_none (hQ B _ σ _ _ s.toks (.refl hR) (.ret .none) h)
    | some e =>
      exact wpAny_Return_some (S.e e σ (retC k) h B s hR _ E fun B1 v σ1 y h1 tk1 n1 r1 k1 => hQ B1 (.ret v) σ1 _ h1 tk1 n1 (.ret r1) k1)
  | Expr e pos =>
    obtain ⟨hc, h⟩ := cond_l h
    exact wpAny_Expr_any (S.e e σ (nxtC k) h B s hR _ E fun B1 v σ1 y h1 tk1 n1 r1 k1 => hQ B1 .next σ1 _ h1 tk1 n1 .next k1) (by show (cx.scope.kind == .module && _) = false; rw [G.ok.kind]; rfl) (noSwap hc)
  | Assign ts e pos =>
    cases ts with
    | nil => exact False.elim h
    | cons t ts =>
      cases ts with
      | cons _ _ => exact False.elim h
      | nil =>
      cases t with
      | Name x xp =>
        obtain ⟨hc, h⟩ := cond_l h
        refine wpAny_Assign_Name (S.e e σ (asnC ec x k) h B s hR _ E fun B1 v σ1 y h1 tk1 n1 r1 k1 => ?_) (noSwap hc)
        exact store_at (kk := nxtS k) (s := { s with heap := h1, toks := tk1 }) G n1.rel r1 k1 _ E fun B2 _ σ2 _ h2 tk2 n2 _ k2 => hQ B2 .next σ2 _ h2 tk2 (n1.trans n2) .next k2
      | Attribute o nm op =>
        obtain ⟨hc, h⟩ := cond_l h
        refine plainObj_wpAny_Assign_Attribute (S.e e σ (asaA R o nm k) h B s hR _ E fun B1 v σ1 y h1 tk1 n1 r1 k1 => S.e o σ1 (asgA nm v (nxtS k)) k1 B1 _ n1.rel _ E fun B2 ov σ2 y2 h2 tk2 n2 r2 k2 => ?_) (noSwap hc)
        exact setattr_at (s := { s with heap := h2, toks := tk2 }) G n2.rel r2 (r1.mono n2.stp.bm) k2 _ E fun B3 _ σ3 _ h3 tk3 n3 _ k3 => hQ B3 .next σ3 _ h3 tk3 ((n1.trans n2).trans n3) .next k3
      | Subscript o i ip =>
        obtain ⟨hc, h⟩ := cond_l h
        simp only [Bool.and_eq_true] at hc
        refine wpAny_Assign_Subscript (S.e e σ (asbA R o i k) h B s hR _ E fun B1 v σ1 y h1 tk1 n1 r1 k1 => S.e o σ1 (asbB R i v k) k1 B1 _ n1.rel _ E fun B2 ov σ2 y2 h2 tk2 n2 r2 k2 => S.e i σ2 (asbC ov v k) k2 B2 { s with heap := h2, toks := tk2 } n2.rel _ E fun B3 iv σ3 y3 h3 tk3 n3 r3 k3 => ?_) (noSwap hc.1)
        exact setitem_at (s := { s with heap := h3, toks := tk3 }) n3.rel (r2.mono n3.stp.bm) r3 ((r1.mono n2.stp.bm).mono n3.stp.bm) k3 _ E fun B4 _ σ4 _ h4 tk4 n4 _ k4 => hQ B4 .next σ4 _ h4 tk4 (((n1.trans n2).trans n3).trans n4) .next k4
      | Tuple ts tk tp =>
        obtain ⟨hp, h⟩ := cond_l h
        cases e with
        | Tuple vs vk vp =>
          rcases cond_of h with ⟨h0, h⟩ | ⟨h0, h⟩
          · exact fwd_at G S hp rfl (swapped_none h0) h B s hR Q E hQ
          · obtain ⟨hc, h⟩ := cond_l h
            simp only [Bool.and_eq_true, Bool.not_eq_true', beq_iff_eq] at hc
            obtain ⟨c1, c2, c3⟩ := hc
            cases hnames : swapNames ec.sc ((ts.head?.map (·.pos.line)).getD 0) ts with
            | none => rw [hnames] at h; exact False.elim h
            | some names =>
              rw [hnames] at h
              obtain ⟨hd, h⟩ := cond_l h
              simp only [Bool.and_eq_true, beq_iff_eq] at hd
              refine Assign_Tuple_swapped (S.e _ σ (swpC ec names k) h B s hR _ E fun B1 v σ1 y h1 tk1 n1 r1 k1 => ?_) rfl (swapped_some G.ok.kind G.sc h0 c1 c2 c3 hnames hd.1)
              obtain ⟨xs, rfl, k1⟩ := tupI_iff k1
              obtain ⟨hl, k1⟩ := cond_l k1
              have hl : xs.length = names.length := eq_of_beq hl
              obtain ⟨a, us, m, rfl, ea, hl'⟩ := r1.tupL
              have e1 := n1.rel.keep _ _ ea
              have e2 : names.length = us.toArray.size := by rw [List.size_toArray, ← hl'.length, hl]
              rw [e2]
              refine unpackItems_tuple (s := { s with heap := h1, toks := tk1 }) G.ok.handled (isTup_of e1) fun h' hk => ?_
              have N := n1.rel.grow (h' := h') fun b o e => hk b o (Nat.ne_of_lt (Heap.lt_size e)) e
              exact storeL_at G k1 B1 { s with heap := h', toks := tk1 } N.rel hl'.rev _ E fun B2 b σ2 y2 h2 tk2 n2 r2 k2 => hQ B2 .next σ2 .next h2 tk2 ((n1.trans N).trans n2) .next k2
        | Call f as ks p =>
          exact fwd_at G S hp rfl rfl h B s hR Q E hQ
        | Subscript sa sb sp =>
          exact fwd_at G S hp rfl rfl h B s hR Q E hQ
        | _ => exact False.elim h
      | _ => exact False.elim h
  | AugAssign t op e pos =>
    cases t with
    | Attribute o nm ap =>
      refine wpAny_AugAssign_AttributeAny (S.e o σ (agA R nm op e k) h B s hR _ E fun B1 ov σ1 y1 h1 tk1 n1 r1 k1 => ?_)
      refine attr_at (s := { s with heap := h1, toks := tk1 }) (k := agB R ov nm op e k) G n1.rel r1 k1 _ E fun B2 old σ2 y2 h2 tk2 n2 r2 k2 => ?_
      refine S.e e σ2 (agC ov nm op old k) k2 B2 { s with heap := h2, toks := tk2 } n2.rel _ E fun B3 v σ3 y3 h3 tk3 n3 r3 k3 => ?_
      refine aug_at (s := { s with heap := h3, toks := tk3 }) (k := fun new σ => agD ov nm σ k new) n3.rel (r2.mono n3.stp.bm) r3 k3 _ E fun B4 new σ4 y4 h4 tk4 n4 r4 k4 => ?_
      exact setattr_at (s := { s with heap := h4, toks := tk4 }) G n4.rel (((r1.mono n2.stp.bm).mono n3.stp.bm).mono n4.stp.bm) r4 k4 _ E fun B5 _ σ5 _ h5 tk5 n5 _ k5 => hQ B5 .next σ5 _ h5 tk5 ((((n1.trans n2).trans n3).trans n4).trans n5) .next k5
    | Subscript o i ip =>
      obtain ⟨hn, h⟩ := cond_l h
      refine wpAny_AugAssign_SubscriptAny (S.e o σ (aiA R i op e k) h B s hR _ E fun B1 ov σ1 y1 h1 tk1 n1 r1 k1 => S.e i σ1 (aiB R ov op e k) k1 B1 _ n1.rel _ E fun B2 iv σ2 y2 h2 tk2 n2 r2 k2 => ?_) (by intro a b c; cases i <;> first | rfl | exact ff hn)
      obtain ⟨w, old, r3, k3, _, run⟩ := getItem_at (s := { s with heap := h2, toks := tk2 }) (k := aiC R ov iv op e k) n2.rel (r1.mono n2.stp.bm) r2 k2
      refine run _ E ?_
      refine S.e e σ2 (aiD ov iv op old k) k3 B2 { s with heap := h2, toks := tk2 } n2.rel _ E fun B3 v σ3 y3 h3 tk3 n3 r4 k3 => ?_
      refine aug_at (s := { s with heap := h3, toks := tk3 }) (k := fun new σ => aiE ov iv σ k new) n3.rel (r3.mono n3.stp.bm) r4 k3 _ E fun B4 new σ4 y4 h4 tk4 n4 r5 k4 => ?_
      exact setitem_at (s := { s with heap := h4, toks := tk4 }) n4.rel (((r1.mono n2.stp.bm).mono n3.stp.bm).mono n4.stp.bm) ((r2.mono n3.stp.bm).mono n4.stp.bm) r5 k4 _ E fun B5 _ σ5 _ h5 tk5 n5 _ k5 => hQ B5 .next σ5 _ h5 tk5 ((((n1.trans n2).trans n3).trans n4).trans n5) .next k5
    | _ => exact False.elim h
  | If t b o pos =>
    refine wpAny_If (S.t t σ (ifK R b o k) h B s hR _ E fun B1 c σ1 d h1 tk1 n1 r1 k1 => ?_)
    obtain rfl : c = d := r1
    cases c with
    | true =>
      rw [if_pos rfl]
      exact S.s b σ1 k (Stop.go k1).go B1 _ n1.rel Q E fun B3 v σ3 y3 h3 tk3 n3 r3 k3 => hQ B3 v σ3 y3 h3 tk3 (n1.trans n3) r3 k3
    | false =>
      rw [if_neg Bool.false_ne_true]
      exact S.s o σ1 k (Stop.go k1).go B1 _ n1.rel Q E fun B3 v σ3 y3 h3 tk3 n3 r3 k3 => hQ B3 v σ3 y3 h3 tk3 (n1.trans n3) r3 k3
  | For t it body els pos =>
    cases els with
    | cons _ _ => exact False.elim h
    | nil =>
    cases t with
    | Name x xp =>
      obtain ⟨hc, h⟩ := cond_l h
      refine wpAny_For (S.e it σ (forC ec R x body k) h B s hR _ E fun B1 v σ1 y1 h1 tk1 n1 r1 k1 => ?_) (noFold hc)
      obtain ⟨xs, k2, run⟩ := iter_at (s := { s with heap := h1, toks := tk1 }) G n1.rel r1 k1
      refine run _ E fun I h' fp P St T => ?_
      exact forLoop_at (s := { s with heap := h1, toks := tk1 }) G n1.rel S.s T (Stop.go k2).go (fun B' f σ' fl h' tk n2 r2 k3 => hQ B' f σ' fl h' tk (n1.trans n2) r2 k3) tk1
    | _ => exact False.elim h
  | While t body els pos =>
    cases els with
    | cons _ _ => exact False.elim h
    | nil =>
    exact S.w t body σ k pos (Stop.go h).go B s hR Q E hQ
  | _ => exact False.elim h

theorem stepS_sound (G : Gd ec cx) (S : Snd ec cx R) {ss : List Stmt} {σ : AS} {k : KF} (h : stepS ec R ss σ k) : Tr cx RepF (execs ss cx.env) σ k := by
  intro B s hR Q E hQ
  cases ss with
  | nil => exact wpAny_execs_nil (hQ B .next σ _ _ s.toks (.refl hR) .next h)
  | cons st rest =>
    refine wpAny_execs_cons (stmt_sound (k := seqK (blkP R.s rest k) k) G S h B s hR _ E fun B1 f σ1 fl h1 tk1 n1 r1 k1 => ?_)
    cases r1 with
    | next => exact S.s rest σ1 k (Blk.go (NextK.go k1)) B1 { s with heap := h1, toks := tk1 } n1.rel Q E fun B3 v σ3 y3 h3 tk3 n3 r3 k3 => hQ B3 v σ3 y3 h3 tk3 (n1.trans n3) r3 k3
    | brk => exact hQ B1 .brk σ1 .brk h1 tk1 n1 .brk k1
    | cont => exact hQ B1 .cont σ1 .cont h1 tk1 n1 .cont k1
    | ret hr => exact hQ B1 _ σ1 _ h1 tk1 n1 (.ret hr) k1

theorem while_sound (G : Gd ec cx) : ∀ m : Nat, (∀ j < m, Snd ec cx (rec ec j)) → ∀ t body σ k pos, (rec ec m).w t body σ k → Tr cx RepF (exec (.While t body [] pos) cx.env) σ k := by
  intro m hS t body σ k pos h B s hR Q E hQ
  refine wpAny_While ?_
  let Inv : Nat → Shared → Prop := fun j s' => j ≤ m ∧ ∃ B' σ' h' tk, s' = { s with heap := h', toks := tk } ∧ Nx cx B σ s.heap B' σ' h' ∧ (rec ec j).w t body σ' k
  refine codeAny_whileLoop Inv ?_ m ⟨Nat.le_refl _, B, σ, s.heap, s.toks, rfl, .refl hR, h⟩
  rintro j s' ⟨hj, B', σ', h', tk, rfl, N, hw⟩
  cases j with
  | zero => exact False.elim hw
  | succ j =>
    have S := hS j (by omega)
    refine S.t t σ' (whC (rec ec j).s body (whK (rec ec j) t body k) k) hw B' { s with heap := h', toks := tk } N.rel _ _ fun B1 c σ1 d h1 tk1 n1 r1 k1 => ?_
    obtain rfl : c = d := r1
    cases c with
    | true =>
      rw [if_pos rfl]
      refine S.s body σ1 _ (Stop.go k1).go B1 { s with heap := h1, toks := tk1 } n1.rel _ _ fun B2 f σ2 fl h2 tk2 n2 r2 k2 => ?_
      have NN := (N.trans n1).trans n2
      cases r2 with
      | next => exact let ⟨σ5, N5, _, k5⟩ := NN.ease (Stop.go k2); ⟨j, Nat.lt_succ_self j, by omega, B2, σ5, h2, tk2, rfl, N5, k5⟩
      | cont => exact let ⟨σ5, N5, _, k5⟩ := NN.ease (Stop.go k2); ⟨j, Nat.lt_succ_self j, by omega, B2, σ5, h2, tk2, rfl, N5, k5⟩
      | brk => exact hQ B2 .next σ2 .next h2 tk2 NN .next k2
      | ret hr => exact hQ B2 _ σ2 _ h2 tk2 NN (.ret hr) k2
    | false =>
      rw [if_neg Bool.false_ne_true]
      exact wpAny_execs_nil (hQ B1 .next σ1 .next h1 tk1 (N.trans n1) .next k1)

/-- THE EVALUATOR IS SOUND -/
theorem sound (G : Gd ec cx) : ∀ m : Nat, Snd ec cx (rec ec m) := by
  intro m
  induction m using Nat.strongRecOn with
  | _ m ih =>
    refine ⟨fun e σ k h => ?_, fun e σ k h => ?_, fun ss σ k h => ?_, while_sound G m ih⟩
    · cases m with
      | zero => exact False.elim h
      | succ m => exact stepE_sound G (ih m (Nat.lt_succ_self m)) h
    · cases m with
      | zero => exact False.elim h
      | succ m => exact stepT_sound G (ih m (Nat.lt_succ_self m)) h
    · cases m with
      | zero => exact False.elim h
      | succ m => exact stepS_sound G (ih m (Nat.lt_succ_self m)) h
end
end
section
open PySem PySem.W PyProof.Rows PySem.Calls PySem.Spec PySem.SeqAt
section
variable {ec : EC} {cx : Cx}
noncomputable def oneK (nm : Str) (xs ws : List AV) : Prop := (xs = [] ∧ ws = []) ∨ ∃ x w, xs = [x] ∧ ws = [w] ∧ ∃ C fs, x = .obj C fs ∧ getK nm fs (fun w' => w' = w) (atK C clsTab (clsO nm fun w' => w' = w))
/-- [x.nm for x in it], of one thing at most -/
theorem comp_one {sc : Scope} {ml : Bool} {N : Nat} {x nm : Str} {px px' ap pos : Pos} {iter : PySem.Expr} {scope : Scope} {σ : AS} {k : KV} {m : Nat} (hfree : ∀ y ∈ scope.names, y.2 ≠ .free) (hcell : ∀ y ∈ scope.names, y.2 ≠ .cell) (hkind : scope.kind = .function)
    (hnames : ∀ y ∈ scope.names, y.2 = .local → scope.names.lookup y.1 = some .local) (hx : scope.names.lookup x = some .local) (hd : (x == ("__debug__" : Str)) = false)
    (hs : notComp iter = true)
    (h : (rec ⟨sc, [], ml, N⟩ m).e iter σ (fun v σ' => ∃ xs ws, v = .lst xs ∧ oneK nm xs ws ∧ k (.lst ws) σ')) : CompT N sc (.ListComp (.Attribute (.Name x px) nm ap) [⟨.Name x px', iter, [], 0⟩] scope pos) σ k := by
  refine ⟨fun cx ok hsc B s hR Q E hQ => ?_⟩
  have G : Gd ⟨sc, [], ml, N⟩ cx := ⟨ok, (fun x v e => by cases e), ok.nodebug, hsc⟩
  have S := (sound G m).e iter σ _ h B s hR
  rw [eval_ListComp]
  refine wpAny_comprehension_free (use := none) (gs := []) rfl (fun v => noFold hs v) (closureFor_none hfree) hkind hnames ?_
  refine S _ _ fun B1 v σ1 y1 h1 tk1 n1 r1 k1 => ?_
  obtain ⟨xs, ws, rfl, hone, kk⟩ := k1
  obtain ⟨a, vs, mm, rfl, e, hl⟩ := r1.lstL
  have e' := n1.rel.keep _ _ e
  have hne : a ≠ h1.objs.size := Nat.ne_of_lt (Heap.lt_size e')
  refine wpAny_pyIter_list (s := { s with heap := h1, toks := tk1 }) (isList_of e') ?_
  have W := Walks.list (prog := cx.prog) (w := cx.w) G.ok.handled h1.objs.size a hne vs.toArray
  have up : ∀ b o, h1.get? b = some o → (h1.push { cls := .type "list_iterator", data := .fields #[.ref a, .int 0 0] }).get? b = some o := fun b o e => Heap.get?_push_of_some _ e
  have hlen : xs.length ≤ 1 := by rcases hone with ⟨rfl, _⟩ | ⟨x, w, rfl, _⟩ <;> simp
  have hz := sizeLine_eq
  refine comp_block_walkC (RR := fun acc C => compPost (model cx.prog cx.w) cx.A E none Q acc C) W ?hsz (fun _ => true) (fun _ y => ∃ w, ws = [w] ∧ Rep B1 w y) hcell hkind hx ⟨⟨_, Heap.get?_push_size _ rfl, rfl, rfl⟩, (isList_of e').at fun o e => up _ _ e⟩ ?hfp ⟨?ht, ?he⟩ ?hfin
  case hsz =>
    have := hl.length
    simp only [List.size_toArray]
    omega
  case hfp =>
    intro b hb
    rcases List.mem_cons.mp hb with rfl | hb
    · exact Heap.lt_size (Heap.get?_push_size (o := { cls := .type "list_iterator", data := .fields #[.ref a, .int 0 0] }) h1 rfl)
    · rw [List.mem_singleton.mp hb]; exact Heap.lt_size (up _ _ e')
  case ht =>
    intro C i v s₃ m₃ E' _ _ _ _ _ _
    exact wpAny_pure ⟨rfl, s₃.heap, s₃.toks, rfl, fun _ _ e => e⟩
  case he =>
    intro C i v s₃ m₃ E' hC hP _ hn hm hk _
    have hk' : ∀ b o, h1.get? b = some o → s₃.heap.get? b = some o := fun b o e => hk b o (fun q => by rw [List.mem_singleton.mp q] at e; exact absurd (Heap.lt_size e) (Nat.lt_irrefl _)) (up _ _ e)
    refine Attribute_any_ (wpAny_Name (wpAny_loadName_local (by simpa [compEnvC, relabel] using hkind) (lookup_relabel_local hx) hn hm ?_) hd) (by rw [arm_eval_Attribute]; rfl)
    rcases hone with ⟨rfl, rfl⟩ | ⟨x, w, rfl, rfl, ha⟩
    · cases hl; simp at hP
    · cases hl with
      | @cons _ u _ _ r hl =>
      cases hl
      have hv : v = u := by
        cases i with
        | zero => simpa using hP.symm
        | succ i => simp at hP
      subst hv
      obtain ⟨C', fs, rfl, ha⟩ := ha
      obtain ⟨a', d', es, m', rfl, o1, o2, o3, o4, o5, o6⟩ := r.inv
      obtain ⟨w', y, hr, rfl, run⟩ := attr_inst' (B := B1) (σ := ⟨[], []⟩) (s := s₃) (k := fun w' _ => w' = w) (nm := nm) (expr := true) G.ok.kn (fun b o e => hk' _ _ (n1.rel.kin G.ok b o e)) (hk' _ _ (n1.rel.keep _ _ o1)) (hk' _ _ (n1.rel.keep _ _ o2)) o3 o4 o5 o6 ha
      exact run _ _ ⟨⟨_, rfl, hr⟩, s₃.heap, s₃.toks + 1, rfl, fun _ _ e => e⟩
  case hfin =>
    intro D C h' tk m' ys us hD hC hDC hn' hl' hpl hlen' hP hF hk
    refine ⟨m', hn', fun h'' hs'' => ?_⟩
    obtain ⟨nn, hpl⟩ := hpl
    have hk' : ∀ b o, h1.get? b = some o → h''.get? b = some o := fun b o e => hs''.extBut b o (fun q => by
      have := up _ _ e; rw [q] at this; rw [hC] at this; cases this) (hk b o (fun q => by rw [List.mem_singleton.mp q] at e; exact absurd (Heap.lt_size e) (Nat.lt_irrefl _)) (up _ _ e))
    have hDn : h1.get? D = none := by
      cases q : h1.get? D with
      | none => rfl
      | some o => have := up _ _ q; rw [hD] at this; cases this
    have ho : h''.get? D = some (listO ys.toList nn) := hs''.extBut D _ hDC hpl
    have N2 := n1.rel.freezeNew hDn hk' ho
    refine hQ _ (.lst ws) σ1 (.ref D) h'' tk (n1.trans N2) ?_ kk
    have hus : us.filter (fun _ => true) = us := by simp
    rw [hus] at hF
    have hlu : us.length = xs.length := by rw [hlen', hl.length]; simp
    have key : RepL B1 ws ys.toList := by
      rcases hone with ⟨rfl, rfl⟩ | ⟨x, w, rfl, rfl, ha⟩
      · have : us = [] := List.eq_nil_of_length_eq_zero hlu
        subst this
        generalize ys.toList = l at hF
        cases hF; exact .nil
      · obtain ⟨u, rfl⟩ : ∃ u, us = [u] := List.length_eq_one_iff.mp hlu
        generalize ys.toList = l at hF
        cases hF with
        | cons f hF =>
        cases hF
        obtain ⟨w', e, r⟩ := f
        cases e
        exact .cons r .nil
    exact (key.mono N2.stp.bm).toLst bset_self
end
end
section
open PySem PySem.W PyProof.Rows PySem.Calls PySem.Spec PySem.SeqAt
section
variable {cx cx' : Cx} {B B' : Base} {σ σ' : AS} {h h₁ h' : Heap} {T₀ T₁ R : Led} {loc₀ : List (Str × AV)}
/-- a def is left: what it did, seen from its caller -/
theorem back (hR : Rel cx B σ h) (hT : Wk σ.T (T₀ ++ R)) (hL : h.get? cx'.L = none) (hk : ∀ b o, h.get? b = some o → h₁.get? b = some o) (hg : cx'.g = cx.g) (N : Nx cx' B ⟨loc₀, T₀⟩ h₁ B' σ' h') (w : Wk σ'.T T₁) : Nx cx B σ h B' ⟨σ.loc, T₁ ++ R⟩ h' := by
  obtain ⟨n1, n2⟩ := List.nodup_cons.mp hR.nodup
  have n3 := hT.nodup n2
  rw [addrs_append] at n3
  obtain ⟨n4, n5, n6⟩ := List.nodup_append.mp n3
  have sub0 : ∀ {a}, a ∈ addrs T₀ → a ∈ addrs σ.T := fun ha => hT.addr (by rw [addrs_append]; exact List.mem_append_left _ ha)
  have subR : ∀ {a}, a ∈ addrs R → a ∈ addrs σ.T := fun ha => hT.addr (by rw [addrs_append]; exact List.mem_append_right _ ha)
  have hasR : ∀ {a}, a ∈ addrs R → ∃ o, h.get? a = some o := fun ha => hR.hasT (subR ha)
  -- what the callee could not see stands
  have stay : ∀ b o, h.get? b = some o → b ∉ addrs T₀ → h'.get? b = some o := fun b o e nb => N.stp.ext b o (hk b o e) (fun q => by rw [q, hL] at e; cases e) nb
  have notT1 : ∀ {b}, (∃ o, h.get? b = some o) → b ∉ addrs T₀ → b ∉ addrs T₁ := fun {b} ⟨o, e⟩ nb q => by
    rcases N.stp.newT b (w.addr q) with r | r
    · exact nb r
    · rw [hk b o e] at r; cases r
  have notB : ∀ {b}, (∃ o, h.get? b = some o) → b ∉ addrs T₀ → B b = none → B' b = none := fun {b} ⟨o, e⟩ nb hb => by
    cases q : B' b with
    | none => rfl
    | some o' =>
      rcases N.stp.newB b o' q with r | r | r
      · rw [hb] at r; cases r
      · exact absurd r nb
      · rw [hk b o e] at r; cases r
  have L0 : cx.L ∉ addrs T₀ := fun q => n1 (sub0 q)
  have LR : cx.L ∉ addrs R := fun q => n1 (subR q)
  have R0 : ∀ {a}, a ∈ addrs R → a ∉ addrs T₀ := fun ha q => n6 _ q _ ha rfl
  refine ⟨⟨N.rel.keep, fun b o e => N.rel.gB b o (by rw [hg]; exact e), ?_, fun p hp => ?_, ?_, fun a ha => ?_⟩, fun b o e b1 b2 => stay b o e fun q => b2 (sub0 q), N.stp.bm, fun a ha => ?_, fun b o e => ?_⟩
  · obtain ⟨m, hn, hm⟩ := hR.ns
    exact ⟨m, hn.at' fun o e => stay _ o e L0, fun x v e => let ⟨a, y, b, c⟩ := hm x v e; ⟨a, y, b, c.mono N.stp.bm⟩⟩
  · rcases List.mem_append.mp hp with hp | hp
    · exact N.rel.tab p (w.mem hp)
    · exact (hR.tab p (hT.mem (List.mem_append_right _ hp))).mono N.stp.bm fun b hb o e => stay b o e (R0 (mem_addrs hp hb))
  · rw [addrs_append]
    refine List.nodup_cons.mpr ⟨fun q => ?_, List.nodup_append.mpr ⟨w.nodup (List.nodup_cons.mp N.rel.nodup).2, n5, fun a ha b hb e => ?_⟩⟩
    · rcases List.mem_append.mp q with q | q
      · exact notT1 hR.hasL L0 q
      · exact LR q
    · subst e; exact notT1 (hasR hb) (R0 hb) ha
  · rcases List.mem_cons.mp ha with rfl | ha
    · exact notB hR.hasL L0 hR.Lnone
    · rw [addrs_append] at ha
      rcases List.mem_append.mp ha with ha | ha
      · exact N.rel.off a (.tail _ (w.addr ha))
      · exact notB (hasR ha) (R0 ha) (hR.off a (.tail _ (subR ha)))
  · rw [addrs_append] at ha
    rcases List.mem_append.mp ha with ha | ha
    · rcases N.stp.newT a (w.addr ha) with r | r
      · exact .inl (sub0 r)
      · refine .inr ?_
        cases q : h.get? a with
        | none => rfl
        | some o => rw [hk a o q] at r; cases r
    · exact .inl (subR ha)
  · rcases N.stp.newB b o e with r | r | r
    · exact .inl r
    · exact .inr (.inl (sub0 r))
    · refine .inr (.inr ?_)
      cases q : h.get? b with
      | none => rfl
      | some o => rw [hk b o q] at r; cases r
end

noncomputable def retv : Fl → AV
  | .ret v => v
  | _ => .none
/-- a def is left -/
noncomputable def Fin (σ : AS) (R : Led) (k : KV) : KF := fun fl σ' => ∃ T₁, Wk σ'.T T₁ ∧ k (retv fl) ⟨σ.loc, T₁ ++ R⟩
/-- a def of the text is called -/
theorem callT_def {cx : Cx} {n : Nat} (ok : cx.Ok (n + 1)) {f : Addr} {args : List AV} {σ : AS} {k : KV} {name qual : Str} {params : Arguments} {body : List Stmt} {scope : Scope} {dV kV doc pm cdv ct oc : Value} {an od : Option Addr} {osl : Array (Option Value)}
    (gl : List (Str × AV)) (ml : Bool) (N : Nat) (loc₀ : List (Str × AV)) (T₀ R : Led)
    (ho : cx.K.lookup f = some ⟨oc, od, .func (fnOf name qual params body scope dV kV doc pm an cdv ct), osl⟩) (hcd : codeIn cx.K cdv qual = true)
    (hb : ∀ (B : Base) (s : Shared) ys, cx.K.In s.heap → RepL B args ys → ∃ binds, BindsTo s (fnOf name qual params body scope dV kV doc pm an cdv ct) ⟨ys, []⟩ binds ∧ (∀ y ∈ binds, scope.names.lookup y.1 = some .local) ∧ ∀ x v, loc₀.lookup x = some v → scope.names.lookup x = some .local ∧ ∃ y, binds.reverse.lookup x = some y ∧ Rep B v y)
    (hgl : GlOk cx.K scope gl) (hnd : scope.names.lookup ("__debug__" : Str) = none) (hT : Wk σ.T (T₀ ++ R))
    (hcell : ∀ x ∈ scope.names, x.2 ≠ .cell) (hco : scope.isCoroutine = false) (hgen : scope.isGenerator = false) (hk : scope.kind = .function)
    (hbody : Blk (rec ⟨scope, gl, ml, n⟩ N).s body ⟨loc₀, T₀⟩ (Fin σ R k)) : CallX cx f args σ k where
  run := by
    intro B s ys hR hr Q hQ
    have X := hR.kin ok
    obtain ⟨binds, hbind, hloc, hrep⟩ := hb B s ys X hr
    obtain ⟨p, loose, mg, mb, T⟩ := ok.top
    have T' := T.keeps (fun b o e => hR.keep b o (hR.gB b o e))
    have hd := ok.depth
    have hu := ok.units
    refine codeAny_call_def (fd := fnOf name qual params body scope dV kV doc pm an cdv ct) (body := body) (binds := binds) (by omega) (X _ _ ho) rfl T'.nolimit (codeRec_of X hcd) rfl hbind hcell hloc (fun h₁ hns hk₁ => ?_) hco hgen hk
    let cx' : Cx := ⟨cx.prog, cx.w, cx.A.deeper (envOf qual scope s.heap.objs.size f cdv), cx.g, s.heap.objs.size, qual, scope, f, cdv, cx.K⟩
    have ok' : cx'.Ok n := ⟨ok.kin, ok.kn, ok.top, by show cx.A.depth + 1 + n < _; omega, by show cx.A.units + 3 + 8 * n + 100 < _; omega, ok.handled, hk, hnd⟩
    have G : Gd ⟨scope, gl, ml, n⟩ cx' := ⟨ok', hgl, hnd, rfl⟩
    have R0 := hR.wk hT
    have hn := push_none s.heap
    have R' : Rel cx' B ⟨loc₀, T₀⟩ h₁ := by
      obtain ⟨n1, n2⟩ := List.nodup_cons.mp R0.nodup
      have n2 : (addrs (T₀ ++ R)).Nodup := n2
      rw [addrs_append] at n2
      refine ⟨fun b o e => hk₁ b o (hR.keep b o e), hR.gB, ⟨_, hns, hrep⟩, fun p hp => (R0.tab p (List.mem_append_left _ hp)).mono (.refl B) fun b _ o e => hk₁ b o e, List.nodup_cons.mpr ⟨fun q => ?_, (List.nodup_append.mp n2).1⟩, fun a ha => ?_⟩
      · obtain ⟨o, e⟩ := R0.hasT (a := s.heap.objs.size) (by rw [addrs_append]; exact List.mem_append_left _ q)
        rw [hn] at e; cases e
      · rcases List.mem_cons.mp ha with rfl | ha
        · exact hR.none_of hn
        · exact R0.off a (.tail _ (by rw [addrs_append]; exact List.mem_append_left _ ha))
    refine (sound G N).s body ⟨loc₀, T₀⟩ _ hbody.go B { s with heap := h₁, toks := s.toks + binds.length } R' _ _ fun B' fl σ' flow h' tk Nn r' hk' => ?_
    obtain ⟨T₁, w, kk⟩ := hk'
    have NN := back (cx' := cx') hR hT hn hk₁ rfl Nn w
    cases r' with
    | next => exact hQ B' .none _ .none h' tk NN .none kk
    | brk => exact hQ B' .none _ .none h' tk NN .none kk
    | cont => exact hQ B' .none _ .none h' tk NN .none kk
    | ret hr => exact hQ B' _ _ _ h' tk NN hr kk

theorem CallT.imp {n : Nat} {f : Addr} {args : List AV} {σ : AS} {k k' : KV} (h : CallT n f args σ k) (hk : ∀ v σ', k v σ' → k' v σ') : CallT n f args σ k' :=
  ⟨fun cx ok => ⟨fun B s ys hR hr R hQ => (h.run cx ok).run B s ys hR hr R fun B' v σ' y h' tk n r e => hQ B' v σ' y h' tk n r (hk v σ' e)⟩⟩

/-- a class of the text is called -/
theorem callT_cls {cx : Cx} {n : Nat} (ok : cx.Ok (n + 1)) {C fI : Addr} {args : List AV} {σ : AS} {k : KV} (hm : makesIn cx.K C = true) (hi : findIn cx.K (.ref C) "__init__" = some (some (.ref fI))) (hf : typeIn cx.K (.ref fI) = some (.type "function"))
    (h : ∀ x d, CallT n fI (.ref x :: args) ⟨σ.loc, (x, .inst C d []) :: σ.T⟩ (fun r σ' => r = .none ∧ k (.ref x) σ')) : CallX cx C args σ k where
  run := by
    intro B s ys hR hr Q hQ
    have X := hR.kin ok
    have hd := ok.depth
    have hu := ok.units
    let A' := cx.A.under (.builtin "type.__call__" ⟨.ref C :: ys, []⟩)
    have ok' : Cx.Ok ⟨cx.prog, cx.w, A', cx.g, cx.L, cx.name, cx.scope, cx.f, cx.cd, cx.K⟩ n := by
      refine ⟨ok.kin, ok.kn, ok.top, ?_, ?_, ok.handled, ok.kind, ok.nodebug⟩
      · show cx.A.depth + 1 + n < _; omega
      · show cx.A.units + 1 + 8 * n + 100 < _; omega
    obtain ⟨hh, g, dr, tk, os⟩ := s
    refine make_core (makes_of X hm) (looks_findIn X hi) (fun self => bind_fn X self hf) (.inl rfl) ?_
    have hn := push_none hh
    have hk : ∀ b o, hh.get? b = some o → ((hh.push emptyDict).push (instObj C hh.objs.size)).get? b = some o := fun b o e => Heap.get?_push_of_some _ (Heap.get?_push_of_some _ e)
    have hn2 : hh.get? (hh.objs.size + 1) = none := by
      cases q : hh.get? (hh.objs.size + 1) with
      | none => rfl
      | some o => exact absurd (Nat.lt_of_succ_lt (Heap.lt_size q)) (Nat.lt_irrefl _)
    have g1 : ((hh.push emptyDict).push (instObj C hh.objs.size)).get? (hh.objs.size + 1) = some (instObj C hh.objs.size) := by
      have := Heap.get?_push_size (hh.push emptyDict) (o := instObj C hh.objs.size) rfl
      rwa [Heap.size_push] at this
    have g2 : ((hh.push emptyDict).push (instObj C hh.objs.size)).get? hh.objs.size = some emptyDict := Heap.get?_push_of_some _ (Heap.get?_push_size _ rfl)
    have N0 := hR.grow hk
    have N1 : Nx cx B σ hh B ⟨σ.loc, (hh.objs.size + 1, .inst C hh.objs.size []) :: σ.T⟩ ((hh.push emptyDict).push (instObj C hh.objs.size)) := by
      have nT : ∀ {a}, hh.get? a = none → a ∉ addrs σ.T := fun e q => by obtain ⟨o, e'⟩ := hR.hasT q; rw [show hh.get? _ = none from e] at e'; cases e'
      have nL : ∀ {a}, hh.get? a = none → a ≠ cx.L := fun e q => by obtain ⟨o, e'⟩ := hR.hasL; rw [← q, show hh.get? _ = none from e] at e'; cases e'
      refine ⟨⟨N0.rel.keep, N0.rel.gB, N0.rel.ns, fun p hp => ?_, ?_, fun a ha => ?_⟩, N0.stp.ext, N0.stp.bm, fun a ha => ?_, N0.stp.newB⟩
      · rcases List.mem_cons.mp hp with rfl | hp
        · exact .inst (es := []) (n := 0) g1 g2 (fun _ h => nomatch h) (Nat.le_refl _) (fun x => rfl) (fun x v y e => nomatch e) (fun x y e => nomatch e)
        · exact N0.rel.tab p hp
      · obtain ⟨n1, n2⟩ := List.nodup_cons.mp hR.nodup
        show (cx.L :: (hh.objs.size + 1) :: hh.objs.size :: addrs σ.T).Nodup
        refine List.nodup_cons.mpr ⟨fun q => ?_, List.nodup_cons.mpr ⟨fun q => ?_, List.nodup_cons.mpr ⟨nT hn, n2⟩⟩⟩
        · rcases List.mem_cons.mp q with q | q
          · exact nL hn2 q.symm
          · rcases List.mem_cons.mp q with q | q
            · exact nL hn q.symm
            · exact n1 q
        · rcases List.mem_cons.mp q with q | q
          · exact absurd q (Nat.succ_ne_self _)
          · exact nT hn2 q
      · rcases List.mem_cons.mp ha with rfl | ha
        · exact hR.Lnone
        · rcases List.mem_cons.mp ha with rfl | ha
          · exact hR.none_of hn2
          · rcases List.mem_cons.mp ha with rfl | ha
            · exact hR.none_of hn
            · exact hR.off a (.tail _ ha)
      · rcases List.mem_cons.mp ha with rfl | ha
        · exact .inr hn2
        · rcases List.mem_cons.mp ha with rfl | ha
          · exact .inr hn
          · exact .inl ha
    let cx' : Cx := ⟨cx.prog, cx.w, A', cx.g, cx.L, cx.name, cx.scope, cx.f, cx.cd, cx.K⟩
    have Rx : Rel cx' B ⟨σ.loc, (hh.objs.size + 1, .inst C hh.objs.size []) :: σ.T⟩ ((hh.push emptyDict).push (instObj C hh.objs.size)) := ⟨N1.rel.keep, N1.rel.gB, N1.rel.ns, N1.rel.tab, N1.rel.nodup, N1.rel.off⟩
    refine ((h (hh.objs.size + 1) hh.objs.size).run cx' ok').run B ⟨(hh.push emptyDict).push (instObj C hh.objs.size), g, dr, tk, os⟩ (.ref (hh.objs.size + 1) :: ys) Rx (.cons (.ref _) hr) _ fun B' b σ' y h' tk' n' r' e' => ?_
    obtain ⟨rfl, kk⟩ := e'
    cases r'
    exact ⟨rfl, hQ B' (.ref _) σ' _ h' tk' (N1.trans ⟨⟨n'.rel.keep, n'.rel.gB, n'.rel.ns, n'.rel.tab, n'.rel.nodup, n'.rel.off⟩, n'.stp⟩) (.ref _) kk⟩
end
section
open PySem PySem.W PyProof.Rows PySem.Calls PySem.Spec PySem.SeqAt
theorem isLoc_iff {sc : Scope} {p : Str} (h : isLoc sc p = true) : sc.names.lookup p = some .local := by
  unfold isLoc at h
  split at h
  · assumption
  · cases h
theorem zipB {B : Base} {sc : Scope} : ∀ {ps : List Str} {args : List AV} {ys : List Value}, RepL B args ys → ps.Nodup → ps.all (isLoc sc) = true →
    (∀ y ∈ ps.zip ys, sc.names.lookup y.1 = some .local) ∧ ∀ x v, (ps.zip args).lookup x = some v → sc.names.lookup x = some .local ∧ x ∈ ps ∧ ∃ y, (ps.zip ys).reverse.lookup x = some y ∧ Rep B v y
  | [], _, _, _, _, _ => by simp
  | p :: ps, _, _, .nil, _, _ => by simp
  | p :: ps, _, _, .cons (x := a) (v := y) (xs := as) (vs := ys) r rs, hn, hl => by
    obtain ⟨n1, n2⟩ := List.nodup_cons.mp hn
    rw [List.all_cons, Bool.and_eq_true] at hl
    obtain ⟨i1, i2⟩ := zipB (sc := sc) rs n2 hl.2
    refine ⟨fun q hq => ?_, fun x v e => ?_⟩
    · rcases List.mem_cons.mp hq with rfl | hq
      · exact isLoc_iff hl.1
      · exact i1 q hq
    · rw [List.zip_cons_cons, List.lookup_cons] at e
      rw [List.zip_cons_cons, List.reverse_cons, List.lookup_append]
      cases q : x == p with
      | true =>
        rw [q] at e
        simp only [Option.some.injEq] at e
        subst e
        rw [eq_of_beq q]
        have : (ps.zip ys).reverse.lookup p = none := by
          rw [List.lookup_eq_none_iff]
          intro z hz
          simp only [List.mem_reverse] at hz
          have := (List.of_mem_zip (a := z.1) (b := z.2) hz).1
          cases e : p == z.1 with
          | false => simp [bne, e]
          | true => rw [eq_of_beq e] at n1; exact absurd this n1
        rw [this]
        exact ⟨isLoc_iff hl.1, .head _, y, by simp, r⟩
      | false =>
        rw [q] at e
        obtain ⟨j1, j2, y', j3, j4⟩ := i2 x v e
        exact ⟨j1, .tail _ j2, y', by rw [j3]; rfl, j4⟩

/-- freezing -/
theorem Nx.freeze {cx : Cx} {B B' : Base} {σ σ' : AS} {h h' : Heap} (N : Nx cx B σ h B' σ' h') {a C d : Addr} {fs : List (Str × AV)} {T : Led} (w : Wk σ'.T ((a, .inst C d fs) :: T)) :
    ∃ B'', Nx cx B σ h B'' ⟨σ'.loc, T⟩ h' ∧ BLe B' B'' ∧ Rep B'' (.obj C fs) (.ref a) := by
  have N := N.wk w
  obtain ⟨n1, n2⟩ := List.nodup_cons.mp N.rel.nodup
  have n2 : (a :: d :: addrs T).Nodup := n2
  obtain ⟨m1, m2⟩ := List.nodup_cons.mp n2
  obtain ⟨m3, m4⟩ := List.nodup_cons.mp m2
  have n1 : cx.L ∉ a :: d :: addrs T := n1
  have la : cx.L ≠ a := fun q => n1 (q ▸ .head _)
  have ld : cx.L ≠ d := fun q => n1 (q ▸ .tail _ (.head _))
  have lT : cx.L ∉ addrs T := fun q => n1 (.tail _ (.tail _ q))
  have ad : a ≠ d := fun q => m1 (q ▸ .head _)
  have aT : a ∉ addrs T := fun q => m1 (.tail _ q)
  have fa : B' a = none := N.rel.off a (.tail _ (.head _))
  have fd : B' d = none := N.rel.off d (.tail _ (.tail _ (.head _)))
  obtain ho := N.rel.tab _ (.head _)
  cases ho with
  | inst h1 h2 h3 h4 h5 h6 h7 =>
    rename_i es n
    have le1 : BLe B' (bset B' a (instObj C d)) := bset_le fa
    have fd' : bset B' a (instObj C d) d = none := by unfold bset; rw [if_neg (Ne.symm ad)]; exact fd
    have le2 : BLe (bset B' a (instObj C d)) (bset (bset B' a (instObj C d)) d (dictOf es n)) := bset_le fd'
    have le := le1.trans le2
    refine ⟨bset (bset B' a (instObj C d)) d (dictOf es n), ⟨⟨fun b o e => ?_, fun b o e => le _ _ (N.rel.gB b o e), ?_, fun p hp => ?_, ?_, fun b hb => ?_⟩, N.stp.ext, N.stp.bm.trans le, fun b hb => N.stp.newT b (.tail _ (.tail _ hb)), fun b o e => ?_⟩, le, ?_⟩
    · unfold bset at e
      split at e
      · rename_i q; cases e; subst q; exact h2
      · split at e
        · rename_i q; cases e; subst q; exact h1
        · exact N.rel.keep _ _ e
    · obtain ⟨m, hn, hm⟩ := N.rel.ns
      exact ⟨m, hn, fun x v e => let ⟨a1, y, a2, a3⟩ := hm x v e; ⟨a1, y, a2, a3.mono le⟩⟩
    · exact (N.rel.tab p (.tail _ hp)).mono le fun _ _ _ e => e
    · exact List.nodup_cons.mpr ⟨lT, m4⟩
    · have : b ≠ a ∧ b ≠ d ∧ B' b = none := by
        rcases List.mem_cons.mp hb with rfl | hb
        · exact ⟨la, ld, N.rel.Lnone⟩
        · exact ⟨fun q => aT (q ▸ hb), fun q => m3 (q ▸ hb), N.rel.off b (.tail _ (.tail _ (.tail _ hb)))⟩
      unfold bset
      rw [if_neg this.2.1, if_neg this.1]
      exact this.2.2
    · unfold bset at e
      split at e
      · rename_i q; subst q
        exact .inr (N.stp.newT b (.tail _ (.head _)))
      · split at e
        · rename_i q; subst q
          exact .inr (N.stp.newT b (.head _))
        · exact N.stp.newB b o e
    · exact .obj (le2 _ _ bset_self) bset_self h3 h5 (fun x v y e1 e2 => (h6 x v y e1 e2).mono le) h7
theorem CallT.fz {n : Nat} {f : Addr} {args : List AV} {σ : AS} {k : KV} (h : CallT n f args σ (fun v σ' => ∃ a C d fs T, v = .ref a ∧ Wk σ'.T ((a, .inst C d fs) :: T) ∧ k (.obj C fs) ⟨σ'.loc, T⟩)) : CallT n f args σ k :=
  ⟨fun cx ok => ⟨fun B s ys hR hr R hQ => (h.run cx ok).run B s ys hR hr R fun B' v σ' y h' tk n r e => by
    obtain ⟨a, C, d, fs, T, rfl, w, kk⟩ := e
    obtain ⟨B'', n', le, r'⟩ := n.freeze w
    obtain rfl := r.refL
    exact hQ B'' _ _ _ h' tk n' r' kk⟩⟩
theorem Cx.Ok.le {cx : Cx} {n m : Nat} (ok : cx.Ok n) (h : m ≤ n) : cx.Ok m :=
  ⟨ok.kin, ok.kn, ok.top, by have := ok.depth; omega, by have := ok.units; omega, ok.handled, ok.kind, ok.nodebug⟩

/-- a def of the text is called -/
theorem callD {m n : Nat} (ok : m + 1 ≤ n) {f : Addr} {args : List AV} {σ : AS} {k : KV} {d : FD} (I : ∀ {K : Frag}, Kn K → Inn K f d)
    (ml : Bool) (N : Nat) (loc₀ : List (Str × AV)) (T₀ R : Led) (hz : d.ps.zip (args ++ d.da) = loc₀) (hlen : (args ++ d.da).length = d.ps.length) (hda : ∀ B, RepL B d.da d.ds) (hT : Wk σ.T (T₀ ++ R))
    (hbody : Blk (rec ⟨d.scope, d.gl, ml, m⟩ N).s d.body ⟨loc₀, T₀⟩ (Fin σ R k)) : CallT n f args σ k := by
  subst hz
  refine ⟨fun cx okn => ?_⟩
  have okm := okn.le ok
  have I := I okm.kn
  obtain ⟨oc, od, dV, kV, doc, pm, an, cdv, ct, osl, ho, hcd, hb⟩ := I.fn
  have g := I.good
  refine callT_def okm d.gl ml N _ T₀ R ho hcd (fun B s ys X hr => ?_) I.gl g.nodebug hT g.cell g.co g.gen g.kind hbody
  have hr2 := hr.append (hda B)
  obtain ⟨z1, z2⟩ := zipB (sc := d.scope) hr2 g.nodup g.loc
  exact ⟨_, hb s X ys (by rw [← hr2.length]; exact hlen), z1, fun x v e => let ⟨a, _, y, b, c⟩ := z2 x v e; ⟨a, y, b, c⟩⟩
theorem callC {m n : Nat} (ok : m + 1 ≤ n) {C fI : Addr} {args : List AV} {σ : AS} {k : KV} (hm : makeTab.lookup C = some fI)
    (h : ∀ x d, m ≤ m → CallT m fI (.ref x :: args) ⟨σ.loc, (x, .inst C d []) :: σ.T⟩ (fun r σ' => r = .none ∧ k (.ref x) σ')) : CallT n C args σ k :=
  ⟨fun cx okn =>
    let okm := okn.le ok
    let ⟨h1, h2, h3⟩ := okm.kn.make hm
    callT_cls okm h1 h2 h3 fun x d => h x d (Nat.le_refl _)⟩
end
open PySem PySem.W PyProof.Rows PySem.Calls PySem.Spec PySem.SeqAt
theorem cond_t {p : Prop} [Decidable p] {a b : Prop} (h : p) (h1 : a) : cond (decide p) a b := by rw [decide_eq_true h]; exact h1
theorem cond_f {p : Prop} [Decidable p] {a b : Prop} (h : ¬ p) (h1 : b) : cond (decide p) a b := by rw [decide_eq_false h]; exact h1
theorem cond_i {p : Prop} [Decidable p] {a b : Prop} (h1 : p → a) (h2 : ¬ p → b) : cond (decide p) a b := by
  by_cases h : p
  · exact cond_t h (h1 h)
  · exact cond_f h (h2 h)
theorem cond_nt {p : Prop} [Decidable p] {a b : Prop} (h : ¬ p) (h1 : a) : cond (!decide p) a b := by rw [decide_eq_false h]; exact h1
theorem cond_nf {p : Prop} [Decidable p] {a b : Prop} (h : p) (h1 : b) : cond (!decide p) a b := by rw [decide_eq_true h]; exact h1
theorem cond_ni {p : Prop} [Decidable p] {a b : Prop} (h1 : p → b) (h2 : ¬ p → a) : cond (!decide p) a b := by
  by_cases h : p
  · exact cond_nf h (h1 h)
  · exact cond_nt h (h2 h)
inductive Pick {α : Type} (p : α) : List α → List α → Prop
  | head {r} : Pick p (p :: r) r
  | tail {q r r'} : Pick p r r' → Pick p (q :: r) (q :: r')
theorem Pick.perm {α : Type} {p : α} {T T' : List α} (h : Pick p T T') : (p :: T').Perm T := by
  induction h with
  | head => exact .refl _
  | tail _ ih => exact (List.Perm.swap _ _ _).trans (ih.cons _)
theorem Pick.mem {α : Type} {p : α} {T T' : List α} (h : Pick p T T') : p ∈ T := h.perm.mem_iff.mp (.head _)
theorem Wk.pick {p : Addr × AObj} {T T' X : Led} (h : Pick p T T') (w : Wk T' X) : Wk T (p :: X) := by
  obtain ⟨Y, q⟩ := w
  exact ⟨Y, (q.cons p).trans h.perm⟩
theorem Wk.nil (T : Led) : Wk T [] := ⟨T, .refl _⟩
noncomputable def atI {α : Type} (i : Nat) (l : List α) : Option α :=
  List.rec (motive := fun _ => Nat → Option α) (fun _ => none) (fun x _ ih i => Nat.rec (some x) (fun i _ => ih i) i) l i
noncomputable def putI {α : Type} (y : α) (i : Nat) (l : List α) : List α :=
  List.rec (motive := fun _ => Nat → List α) (fun _ => []) (fun x r ih i => Nat.rec (y :: r) (fun i _ => x :: ih i) i) l i
theorem mem_i {α : Type} {T : List α} {p : α} : ∀ (i : Nat), atI i T = some p → p ∈ T := by
  induction T with
  | nil => intro i h; cases h
  | cons x r ih =>
    intro i h
    cases i with
    | zero => cases h; exact .head _
    | succ i => exact .tail _ (ih i h)
theorem hole_i {a : Addr} {o : AObj} {T : Led} : ∀ (i : Nat), atI i T = some (a, o) → Hole a o T (fun o' => putI (a, o') i T) := by
  induction T with
  | nil => intro i h; cases h
  | cons x r ih =>
    intro i h
    cases i with
    | zero => cases h; exact .head
    | succ i => exact .tail (ih i h)
theorem getT_at {a : Addr} {T : Led} {k : AObj → Prop} {o : AObj} {i : Nat} (h : atI i T = some (a, o)) (hk : k o) : Stop (∃ o, (a, o) ∈ T ∧ k o) := ⟨o, mem_i i h, hk⟩
theorem updT_at {a : Addr} {T : Led} {k : AObj → (AObj → Led) → Prop} {o : AObj} {i : Nat} (h : atI i T = some (a, o)) (hk : k o (fun o' => putI (a, o') i T)) : Stop (∃ o c, Hole a o T c ∧ k o c) := ⟨o, _, hole_i i h, hk⟩
theorem s_all {p : Addr → Prop} (h : ∀ a, p a) : Stop (∀ a, p a) := ⟨h⟩
theorem and_i {a b : Prop} (h : a) (k : b) : a ∧ b := ⟨h, k⟩
theorem mul_l {a b : Int} (h : -18446744073709551616 < a ∧ a < 18446744073709551616) : IntMulOk a b := .of_left (intBits_le_64 (by omega) (by omega))
theorem mul_r {a b : Int} (h : -18446744073709551616 < b ∧ b < 18446744073709551616) : IntMulOk a b := .of_right (intBits_le_64 (by omega) (by omega))

theorem ease_id {σ : AS} {k : AS → Prop} (h : SubL σ.loc σ.loc) (hk : k σ) : Ease σ k := ⟨⟨σ.loc, σ.T, h, Wk.refl _, hk⟩⟩
theorem ease_to {σ : AS} {k : AS → Prop} (l : List (Str × AV)) (T : Led) (h : SubL l σ.loc) (w : Wk σ.T T) (hk : k ⟨l, T⟩) : Ease σ k := ⟨⟨l, T, h, w, hk⟩⟩
local macro_rules | `(tactic| k_extra "side") => `(tactic| first
  | exact mul_l (by omega)
  | exact mul_r (by omega)
  | omega
  | decide
  | (simp only [List.length_cons, List.length_nil, List.length_map, List.length_append, List.length_take, List.length_drop]; omega))
structure NextB (K : AS → Prop) (s : List Stmt → AS → KF → Prop) (rest : List Stmt) (k : KF) : Prop where
  go : ∀ σ, Blk s rest σ k → K σ
theorem next_b {K : AS → Prop} {s : List Stmt → AS → KF → Prop} {rest : List Stmt} {k : KF} {σ : AS} (h : NextB K s rest k) (x : Blk s rest σ k) : NextK K σ := ⟨h.go σ x⟩
theorem blk_nil {ec : EC} {n : Nat} {σ : AS} {k : KF} (h : k .next σ) : Blk (rec ec (n + 1)).s [] σ k := ⟨h⟩
theorem blk_consK {ec : EC} {n : Nat} {st : Stmt} {rest : List Stmt} {σ : AS} {k : KF} (h : ∀ K : AS → Prop, NextB K (rec ec n).s rest k → stmtK ec (rec ec n) st σ (seqK K k)) : Blk (rec ec (n + 1)).s (st :: rest) σ k := ⟨h (blkP (rec ec n).s rest k) ⟨fun _ h => h⟩⟩
theorem blk_cons {ec : EC} {n : Nat} {st : Stmt} {rest : List Stmt} {σ : AS} {k : KF} (h : stmtK ec (rec ec n) st σ (seqK (blkP (rec ec n).s rest k) k)) : Blk (rec ec (n + 1)).s (st :: rest) σ k := ⟨h⟩
theorem next_i {s : List Stmt → AS → KF → Prop} {rest : List Stmt} {k : KF} {σ : AS} (x : Blk s rest σ k) : NextK (blkP s rest k) σ := ⟨x⟩
theorem forK_abs {ec : EC} {S : List Stmt → AS → KF → Prop} {x : Str} {body : List Stmt} {ys : List AV} {σ : AS} {kk : KF}
    (h : ∀ F : List AV → AS → Prop, (∀ v vs σ, storeK ec x v σ (blkS S body (lpK (F vs) kk)) → F (v :: vs) σ) → (∀ σ, kk .next σ → F [] σ) → F ys σ) : ForB ec S x body ys σ kk := ⟨h (fun ys => toK (forK ec S x body ys) kk) (fun _ _ _ h => h) (fun _ h => h)⟩
structure NextF (F : AS → Prop) (ec : EC) (S : List Stmt → AS → KF → Prop) (x : Str) (body : List Stmt) (vs : List AV) (kk : KF) : Prop where
  go : ∀ σ, ForB ec S x body vs σ kk → F σ
theorem next_f {F : AS → Prop} {ec : EC} {S : List Stmt → AS → KF → Prop} {x : Str} {body : List Stmt} {vs : List AV} {kk : KF} {σ : AS} (h : NextF F ec S x body vs kk) (k : ForB ec S x body vs σ kk) : F σ := h.go σ k
theorem for_nil {ec : EC} {S : List Stmt → AS → KF → Prop} {x : Str} {body : List Stmt} {σ : AS} {kk : KF} (h : kk .next σ) : ForB ec S x body [] σ kk := ⟨h⟩
theorem for_cons {ec : EC} {S : List Stmt → AS → KF → Prop} {x : Str} {body : List Stmt} {v : AV} {vs : List AV} {σ : AS} {kk : KF}
    (h : ∀ F : AS → Prop, NextF F ec S x body vs kk → storeK ec x v σ (blkS S body (lpK F kk))) : ForB ec S x body (v :: vs) σ kk := ⟨h (toK (forK ec S x body vs) kk) ⟨fun _ h => h.go⟩⟩
theorem while_abs {ec : EC} {t : PySem.Expr} {body : List Stmt} {σ : AS} {k : KF} {N : Nat}
    (h : ∀ F : Nat → AS → Prop, (∀ m σ, (rec ec (m + 45)).t t σ (whC (rec ec (m + 45)).s body (F m) k) → F (m + 1) σ) → F N σ) : WhB (rec ec (N + 45)).w t body σ k := ⟨h (fun m => whK (rec ec (m + 45)) t body k) (fun _ _ h => h)⟩
theorem g_sub {xs : List AV} {i : Int} {k : AV → Prop} (h : (-1000 ≤ i ∧ i ≤ 1000) ∧ idxK (pyIdx xs i) k) : (-1000 ≤ i ∧ i ≤ 1000) ∧ idxK (pyIdx xs i) k := h
theorem g_c {p : Prop} [Decidable p] {a b : Prop} (h : cond (decide p) a b) : cond (decide p) a b := h
theorem g_nc {p : Prop} [Decidable p] {a b : Prop} (h : cond (!decide p) a b) : cond (!decide p) a b := h
theorem next_h {K : AS → Prop} {σ : AS} (h : K σ) : NextK K σ := ⟨h⟩
theorem at_ (f : Addr) {n : Nat} {args : List AV} {σ : AS} {k : KV} (h : CallT n f args σ k) : CallT n f args σ k := h
theorem g_stop {p : Prop} (h : p) : Stop p := ⟨h⟩
local macro_rules | `(tactic| k_extra "at") => `(tactic| first | exact (rfl : atI 0 _ = _) | exact (rfl : atI 1 _ = _) | exact (rfl : atI 2 _ = _) | exact (rfl : atI 3 _ = _) | exact (rfl : atI 4 _ = _) | exact (rfl : atI 5 _ = _) | exact (rfl : atI 6 _ = _) | exact (rfl : atI 7 _ = _))
local macro_rules | `(tactic| k_extra "blk") => `(tactic| with_reducible first
  | refine blk_nil ?_
  | refine (let s1 : AS := _; blk_cons (σ := s1) ?_))
local macro_rules | `(tactic| k_extra "step") => `(tactic| first
  | ((refine (?_ : Stop _)); first
    | refine getT_at (by k_extra "at") ?_
    | refine updT_at (by k_extra "at") ?_
    | (refine s_all ?_; intro _)
    | refine g_stop ?_)
  | refine next_i ?_
  | refine next_b (by assumption) ?_
  | refine (let s1 : AS := _; next_h (σ := s1) ?_)
  | ((refine (?_ : _ ∧ _)); refine and_i (by k_extra "side") ?_)
  | ((conv => whnf); first
    | ((refine g_c ?_); first
      | refine cond_t (by omega) ?_
      | refine cond_f (by omega) ?_
      | (refine cond_i ?_ ?_ <;> intro _))
    | ((refine g_nc ?_); first
      | refine cond_nt (by omega) ?_
      | refine cond_nf (by omega) ?_
      | (refine cond_ni ?_ ?_ <;> intro _))))
local macro_rules | `(tactic| k_extra "loop") => `(tactic| first
  | ((with_reducible refine (?_ : ForB _ _ _ _ _ _ _)); first | refine for_nil ?_ | (refine for_cons ?_; intro _ _))
  | ((with_reducible refine (?_ : Ease _ _)); refine ease_id (by repeat (first | exact True.intro | refine And.intro rfl ?_)) ?_)
  | with_reducible refine next_f (by assumption) ?_)
variable {bud : Nat} {σ : AS} {k : KV} {R : Led}
theorem ct_is_whole (ok : 1 ≤ bud) {v lo hi : Int} (hv : lo ≤ v ∧ v ≤ hi) (h : k (.bool true) σ) : CallT bud 101 [.int v, .int lo, .int hi] σ k := by
  refine callD ok in_is_whole false 60 [("value", .int v), ("low", .int lo), ("high", .int hi)] ([]) (σ.T) rfl rfl (fun _ => .nil) (Wk.refl _) (let s1 : AS := _; blk_cons (σ := s1) ?_)
  repeat' (first | k_extra "blk" | k_extra "step")
  refine ⟨_, Wk.refl _, ?_⟩
  rw [decide_eq_true hv.2]
  exact h
theorem ct_is_whole_f (ok : 1 ≤ bud) {v lo hi : Int} (hv : v < lo ∨ hi < v) (h : k (.bool false) σ) : CallT bud 101 [.int v, .int lo, .int hi] σ k := by
  refine callD ok in_is_whole false 60 [("value", .int v), ("low", .int lo), ("high", .int hi)] ([]) (σ.T) rfl rfl (fun _ => .nil) (Wk.refl _) (let s1 : AS := _; blk_cons (σ := s1) ?_)
  repeat' (first | k_extra "blk" | k_extra "step")
  · refine ⟨_, Wk.refl _, ?_⟩
    rw [decide_eq_false (by omega)]
    exact h
  · exact ⟨_, Wk.refl _, h⟩
theorem ct_check_whole (ok : 1 ≤ bud) {v : Int} (h : k (.int v) σ) : CallT bud 108 [.int v] σ k := by
  refine callD ok in_check_whole false 60 [("value", .int v)] ([]) (σ.T) rfl rfl (fun _ => .nil) (Wk.refl _) (let s1 : AS := _; blk_cons (σ := s1) ?_)
  repeat' (first | k_extra "blk" | k_extra "step")
  exact ⟨_, Wk.refl _, h⟩
theorem ct_check_number (ok : 2 ≤ bud) {v : Int} (hv : -2147483647 ≤ v ∧ v ≤ 2147483647) (h : k (.int v) σ) : CallT bud 115 [.int v] σ k := by
  refine callD ok in_check_number false 60 [("value", .int v)] ([]) (σ.T) rfl rfl (fun _ => .nil) (Wk.refl _) (let s1 : AS := _; blk_cons (σ := s1) ?_)
  repeat' (first | k_extra "blk" | ((with_reducible refine at_ 108 ?_); refine ct_check_whole (by first | decide | omega) ?_) | k_extra "step")
  exact ⟨_, Wk.refl _, h⟩
theorem ct_check_dimen (ok : 2 ≤ bud) {v : Int} (hv : -1073741823 ≤ v ∧ v ≤ 1073741823) (h : k (.int v) σ) : CallT bud 122 [.int v] σ k := by
  refine callD ok in_check_dimen false 60 [("value", .int v)] ([]) (σ.T) rfl rfl (fun _ => .nil) (Wk.refl _) (let s1 : AS := _; blk_cons (σ := s1) ?_)
  repeat' (first | k_extra "blk" | ((with_reducible refine at_ 108 ?_); refine ct_check_whole (by first | decide | omega) ?_) | k_extra "step")
  exact ⟨_, Wk.refl _, h⟩
noncomputable def bad (e t : Int) : Int := if e = 0 then 0 else if t ≤ 0 then 10000 else
  let r := if e ≤ 7230584 then (e * 297).fdiv t else if 1663497 ≤ t then e.fdiv (t.fdiv 297) else e
  if 1290 < r then 10000 else (r * r * r + 131072).fdiv 262144
theorem ct_badness (ok : 1 ≤ bud) {e t : Int} (he : 0 ≤ e ∧ e < 1073741824) (ht : t < 1073741824) (h : ∀ r, r = bad e t → k (.int r) σ) : CallT bud 164 [.int e, .int t] σ k := by
  have f3 : t.fdiv 297 = t / 297 := Int.fdiv_eq_ediv_of_nonneg _ (by decide)
  have f1 : 0 < t → 0 ≤ (e * 297).fdiv t := fun h => by
    rw [Int.fdiv_eq_ediv_of_nonneg _ (by omega)]
    exact Int.ediv_nonneg (by omega) (by omega)
  have f2 : 0 < t → 0 ≤ e.fdiv (t.fdiv 297) := fun h => by
    rw [Int.fdiv_eq_ediv_of_nonneg _ (by omega)]
    exact Int.ediv_nonneg (by omega) (by omega)
  refine callD ok in_badness false 60 [("excess", .int e), ("total", .int t)] ([]) (σ.T) rfl rfl (fun _ => .nil) (Wk.refl _) (let s1 : AS := _; blk_cons (σ := s1) ?_)
  repeat' (first | k_extra "blk" | k_extra "step")
  all_goals exact ⟨_, Wk.refl _, h _ (by clear f1 f2 f3; first | (simp [bad, *]; done) | (simp [bad, *]; intro _; exfalso; omega))⟩
inductive Or4 | o0 | o1 | o2 | o3
noncomputable def Or4.val : Or4 → Int
  | .o0 => 0 | .o1 => 1 | .o2 => 2 | .o3 => 3
structure Gl where
  w : Int
  s : Int
  o : Or4
  p : Int
noncomputable def Gl.av (g : Gl) : AV := .obj 246 [("width", .int g.w), ("stretch", .int g.s), ("stretch_order", .int g.o.val), ("shrink", .int g.p), ("shrink_order", .int 0)]
noncomputable def boxF (kd w h d sh : Int) (sg od ra it : AV) : List (Str × AV) := [("kind", .int kd), ("width", .int w), ("height", .int h), ("depth", .int d), ("items", it), ("shift", .int sh), ("sign", sg), ("order", od), ("ratio", ra)]
noncomputable def boxA (kd w h d sh : Int) : AV := .obj 354 (boxF kd w h d sh (.int 0) (.int 0) (.tup [.int 0, .int 1]) (.lst []))
inductive Nd
  | box (v : Bool) (w h d sh : Int)
  | rule (h : Option Int) (d : Int)
  | kern (w : Int)
  | skip (g : Gl) (so : Int) (l : Option Int)
  | pen (v : Int)
  | mark
  | spec
noncomputable def optA : Option Int → AV
  | none => .none
  | some i => .int i
noncomputable def Nd.av : Nd → AV
  | .box v w h d sh => boxA (cond v 3 2) w h d sh
  | .rule h d => .obj 375 [("width", .none), ("height", optA h), ("depth", .int d)]
  | .kern w => .obj 396 [("width", .int w), ("sort", .int 1)]
  | .skip g so l => .obj 418 [("glue", g.av), ("sort", .int so), ("leader", match l with | none => .none | some u => boxA 2 0 u u 0)]
  | .pen v => .obj 439 [("value", .int v)]
  | .mark => .obj 460 [("tokens", .tup [.tup [.int 11, .int 65]])]
  | .spec => .obj 481 [("octets", .bytes #[115])]
noncomputable def Nd.ht : Nd → Int
  | .box _ _ h _ _ => h
  | .rule (some h) _ => h
  | .skip _ _ (some u) => u
  | _ => 0
noncomputable def Nd.dp : Nd → Int
  | .box _ _ _ d _ => d
  | .rule _ d => d
  | .skip _ _ (some u) => u
  | _ => 0
noncomputable def Nd.kd : Nd → Int
  | .box v .. => cond v 3 2
  | .rule .. => 4
  | .kern .. => 5
  | .skip .. => 6
  | .pen .. => 7
  | .mark => 9
  | .spec => 13
noncomputable def Nd.acr : Nd → Int
  | .box _ w _ _ sh => w + sh
  | _ => 0
noncomputable def Nd.disc : Nd → Bool
  | .kern .. | .skip .. | .pen .. => true
  | .box .. | .rule .. | .mark | .spec => false
noncomputable def Dim (i : Int) : Prop := -1073741823 ≤ i ∧ i ≤ 1073741823

theorem ct_Glue (ok : 4 ≤ bud) {w s p : Int} {o : Or4} (hw : -1073741823 ≤ w ∧ w ≤ 1073741823) (hs : -1073741823 ≤ s ∧ s ≤ 1073741823) (hp : -1073741823 ≤ p ∧ p ≤ 1073741823) (h : ∀ o', o' = (if s = 0 then .o0 else o) → k (Gl.av ⟨w, s, o', p⟩) σ) :
    CallT bud 246 [.int w, .int s, .int o.val, .int p, .int 0] σ k := by
  refine CallT.fz (callC ok rfl fun x d ok => ?_)
  cases o <;> dsimp only [Or4.val]
  all_goals
    refine callD ok in_Glue_init false 60 [("self", .ref x), ("width", .int w), ("stretch", .int s), ("stretch_order", .int _), ("shrink", .int p), ("shrink_order", .int 0)] ([(x, .inst 246 d [])]) (σ.T) rfl rfl (fun _ => .nil) (Wk.refl _) (let s1 : AS := _; blk_cons (σ := s1) ?_)
    repeat' (first | k_extra "blk" | ((with_reducible refine at_ 122 ?_); refine ct_check_dimen (by first | decide | omega) (by omega) ?_) | ((with_reducible refine at_ 101 ?_); (first | refine ct_is_whole_f (by first | decide | omega) (by omega) ?_ | refine ct_is_whole (by first | decide | omega) (by first | omega | decide) ?_)) | k_extra "step")
  all_goals first
    | exact ⟨_, Wk.refl _, rfl, _, _, _, _, _, rfl, Wk.refl _, h .o0 (by simp [*])⟩
    | exact ⟨_, Wk.refl _, rfl, _, _, _, _, _, rfl, Wk.refl _, h .o1 (by simp [*])⟩
    | exact ⟨_, Wk.refl _, rfl, _, _, _, _, _, rfl, Wk.refl _, h .o2 (by simp [*])⟩
    | exact ⟨_, Wk.refl _, rfl, _, _, _, _, _, rfl, Wk.refl _, h .o3 (by simp [*])⟩
theorem ct_Box (ok : 4 ≤ bud) {kd w h d : Int} {it : AV} (hk : kd = 2 ∨ kd = 3) (hw : -1073741823 ≤ w ∧ w ≤ 1073741823) (hh : -1073741823 ≤ h ∧ h ≤ 1073741823) (hd : -1073741823 ≤ d ∧ d ≤ 1073741823) (hit : notBi it = true)
    (H : ∀ x e, k (.ref x) ⟨σ.loc, (x, .inst 354 e (boxF kd w h d 0 (.int 0) (.int 0) (.tup [.int 0, .int 1]) it)) :: σ.T⟩) : CallT bud 354 [.int kd, .int w, .int h, .int d, it] σ k := by
  refine callC ok rfl fun x e ok => ?_
  refine callD ok in_Box_init false 60 [("self", .ref x), ("kind", .int kd), ("width", .int w), ("height", .int h), ("depth", .int d), ("items", it)] ([(x, .inst 354 e [])]) (σ.T) rfl rfl (fun _ => .nil) (Wk.refl _) (let s1 : AS := _; blk_cons (σ := s1) ?_)
  repeat' (first | k_extra "blk" | ((with_reducible refine at_ 122 ?_); refine ct_check_dimen (by first | decide | omega) (by omega) ?_) | ((with_reducible refine at_ 101 ?_); (first | refine ct_is_whole_f (by first | decide | omega) (by omega) ?_ | refine ct_is_whole (by first | decide | omega) (by first | omega | decide) ?_)) | k_extra "step")
  conv => whnf
  rw [hit]
  repeat' (first | k_extra "blk" | ((with_reducible refine at_ 122 ?_); refine ct_check_dimen (by first | decide | omega) (by omega) ?_) | ((with_reducible refine at_ 101 ?_); (first | refine ct_is_whole_f (by first | decide | omega) (by omega) ?_ | refine ct_is_whole (by first | decide | omega) (by first | omega | decide) ?_)) | k_extra "step")
  exact ⟨_, Wk.refl _, rfl, H _ _⟩
theorem ct_BoxF (ok : 4 ≤ bud) {u : Int} (hu : -1073741823 ≤ u ∧ u ≤ 1073741823) (H : k (boxA 2 0 u u 0) σ) : CallT bud 354 [.int 2, .int 0, .int u, .int u, .lst []] σ k :=
  CallT.fz (ct_Box ok (.inl rfl) (by omega) hu hu rfl fun x e => ⟨_, _, _, _, _, rfl, Wk.refl _, H⟩)
theorem ct_Rule (ok : 4 ≤ bud) {h : Option Int} {d : Int} (hh : ∀ i, h = some i → -1073741823 ≤ i ∧ i ≤ 1073741823) (hd : -1073741823 ≤ d ∧ d ≤ 1073741823) (H : k (Nd.av (.rule h d)) σ) : CallT bud 375 [.none, optA h, .int d] σ k := by
  refine CallT.fz (callC ok rfl fun x e ok => ?_)
  refine callD ok in_Rule_init false 60 [("self", .ref x), ("width", .none), ("height", optA h), ("depth", .int d)] ([(x, .inst 375 e [])]) (σ.T) rfl rfl (fun _ => .nil) (Wk.refl _) (let s1 : AS := _; blk_cons (σ := s1) ?_)
  cases h with
  | none =>
    repeat' (first | k_extra "blk" | ((with_reducible refine at_ 122 ?_); refine ct_check_dimen (by first | decide | omega) (by omega) ?_) | k_extra "loop" | k_extra "step")
    exact ⟨_, Wk.refl _, rfl, _, _, _, _, _, rfl, Wk.refl _, H⟩
  | some i =>
    have := hh i rfl
    repeat' (first | k_extra "blk" | ((with_reducible refine at_ 122 ?_); refine ct_check_dimen (by first | decide | omega) (by omega) ?_) | k_extra "loop" | k_extra "step")
    exact ⟨_, Wk.refl _, rfl, _, _, _, _, _, rfl, Wk.refl _, H⟩
theorem ct_Kern (ok : 4 ≤ bud) {w : Int} (hw : -1073741823 ≤ w ∧ w ≤ 1073741823) (H : k (Nd.av (.kern w)) σ) : CallT bud 396 [.int w, .int 1] σ k := by
  refine CallT.fz (callC ok rfl fun x e ok => ?_)
  refine callD ok in_Kern_init false 60 [("self", .ref x), ("width", .int w), ("sort", .int 1)] ([(x, .inst 396 e [])]) (σ.T) rfl rfl (fun _ => .nil) (Wk.refl _) (let s1 : AS := _; blk_cons (σ := s1) ?_)
  repeat' (first | k_extra "blk" | ((with_reducible refine at_ 122 ?_); refine ct_check_dimen (by first | decide | omega) (by omega) ?_) | ((with_reducible refine at_ 101 ?_); (first | refine ct_is_whole_f (by first | decide | omega) (by omega) ?_ | refine ct_is_whole (by first | decide | omega) (by first | omega | decide) ?_)) | k_extra "step")
  exact ⟨_, Wk.refl _, rfl, _, _, _, _, _, rfl, Wk.refl _, H⟩
theorem ct_Penalty (ok : 4 ≤ bud) {v : Int} (hw : -2147483647 ≤ v ∧ v ≤ 2147483647) (H : k (Nd.av (.pen v)) σ) : CallT bud 439 [.int v] σ k := by
  refine CallT.fz (callC ok rfl fun x e ok => ?_)
  refine callD ok in_Penalty_init false 60 [("self", .ref x), ("value", .int v)] ([(x, .inst 439 e [])]) (σ.T) rfl rfl (fun _ => .nil) (Wk.refl _) (let s1 : AS := _; blk_cons (σ := s1) ?_)
  repeat' (first | k_extra "blk" | ((with_reducible refine at_ 115 ?_); refine ct_check_number (by first | decide | omega) (by omega) ?_) | k_extra "step")
  exact ⟨_, Wk.refl _, rfl, _, _, _, _, _, rfl, Wk.refl _, H⟩
theorem ct_Mark (ok : 4 ≤ bud) (H : k (Nd.av .mark) σ) : CallT bud 460 [.tup [.tup [.int 11, .int 65]]] σ k := by
  refine CallT.fz (callC ok rfl fun x e ok => ?_)
  refine callD ok in_Mark_init false 60 [("self", .ref x), ("tokens", .tup [.tup [.int 11, .int 65]])] ([(x, .inst 460 e [])]) (σ.T) rfl rfl (fun _ => .nil) (Wk.refl _) (let s1 : AS := _; blk_cons (σ := s1) ?_)
  repeat' (first | k_extra "blk" | k_extra "step")
  exact ⟨_, Wk.refl _, rfl, _, _, _, _, _, rfl, Wk.refl _, H⟩
theorem ct_Skip (ok : 4 ≤ bud) {g : Gl} {u : Int} (H : k (Nd.av (.skip g 1 (some u))) σ) : CallT bud 418 [g.av, .int 1, boxA 2 0 u u 0] σ k := by
  refine CallT.fz (callC ok rfl fun x e ok => ?_)
  refine callD ok in_Skip_init false 60 [("self", .ref x), ("glue", g.av), ("sort", .int 1), ("leader", boxA 2 0 u u 0)] ([(x, .inst 418 e [])]) (σ.T) rfl rfl (fun _ => .nil) (Wk.refl _) (let s1 : AS := _; blk_cons (σ := s1) ?_)
  repeat' (first | k_extra "blk" | ((with_reducible refine at_ 101 ?_); (first | refine ct_is_whole_f (by first | decide | omega) (by omega) ?_ | refine ct_is_whole (by first | decide | omega) (by first | omega | decide) ?_)) | k_extra "step")
  exact ⟨_, Wk.refl _, rfl, _, _, _, _, _, rfl, Wk.refl _, H⟩
theorem ct_Special (ok : 4 ≤ bud) (H : k (Nd.av .spec) σ) : CallT bud 481 [.bytes #[115]] σ k := by
  refine CallT.fz (callC ok rfl fun x e ok => ?_)
  refine callD ok in_Special_init false 60 [("self", .ref x), ("octets", .bytes #[115])] ([(x, .inst 481 e [])]) (σ.T) rfl rfl (fun _ => .nil) (Wk.refl _) (let s1 : AS := _; blk_cons (σ := s1) ?_)
  repeat' (first | k_extra "blk" | ((with_reducible refine at_ 101 ?_); (first | refine ct_is_whole_f (by first | decide | omega) (by omega) ?_ | refine ct_is_whole (by first | decide | omega) (by first | omega | decide) ?_)) | k_extra "loop" | k_extra "step")
  exact ⟨_, Wk.refl _, rfl, _, _, _, _, _, rfl, Wk.refl _, H⟩
theorem ct_Glue0 (ok : 4 ≤ bud) (h : k (Gl.av ⟨0, 0, .o0, 0⟩) σ) : CallT bud 246 [] σ k := by
  refine CallT.fz (callC ok rfl fun x d ok => ?_)
  refine callD ok in_Glue_initE false 60 [("self", .ref x), ("width", .int 0), ("stretch", .int 0), ("stretch_order", .int 0), ("shrink", .int 0), ("shrink_order", .int 0)] ([(x, .inst 246 d [])]) (σ.T) rfl rfl (fun _ => .cons (.int 0 _) (.cons (.int 0 _) (.cons (.int 0 _) (.cons (.int 0 _) (.cons (.int 0 _) (.nil)))))) (Wk.refl _) (let s1 : AS := _; blk_cons (σ := s1) ?_)
  repeat' (first | k_extra "blk" | ((with_reducible refine at_ 122 ?_); refine ct_check_dimen (by first | decide | omega) (by omega) ?_) | ((with_reducible refine at_ 101 ?_); (first | refine ct_is_whole_f (by first | decide | omega) (by omega) ?_ | refine ct_is_whole (by first | decide | omega) (by first | omega | decide) ?_)) | k_extra "step")
  exact ⟨_, Wk.refl _, rfl, _, _, _, _, _, rfl, Wk.refl _, h⟩
theorem ct_Skip0 (ok : 4 ≤ bud) {g : Gl} {so : Int} (hs : so = 0 ∨ so = 107) (H : k (Nd.av (.skip g so none)) σ) : CallT bud 418 [g.av, .int so] σ k := by
  refine CallT.fz (callC ok rfl fun x e ok => ?_)
  refine callD ok in_Skip_initE false 60 [("self", .ref x), ("glue", g.av), ("sort", .int so), ("leader", .none)] ([(x, .inst 418 e [])]) (σ.T) rfl rfl (fun _ => .cons .none (.nil)) (Wk.refl _) (let s1 : AS := _; blk_cons (σ := s1) ?_)
  rcases hs with rfl | rfl <;> (repeat' (first | k_extra "blk" | ((with_reducible refine at_ 101 ?_); (first | refine ct_is_whole_f (by first | decide | omega) (by omega) ?_ | refine ct_is_whole (by first | decide | omega) (by first | omega | decide) ?_)) | k_extra "step"))
  all_goals exact ⟨_, Wk.refl _, rfl, _, _, _, _, _, rfl, Wk.refl _, H⟩
theorem ct_heightB (ok : 1 ≤ bud) {kd w h d sh : Int} {sg od ra it : AV} (hk : kd = 2 ∨ kd = 3) (H : k (.int h) σ) : CallT bud 495 [.obj 354 (boxF kd w h d sh sg od ra it)] σ k := by
  refine callD ok in_height_of false 60 [("node", .obj 354 (boxF kd w h d sh sg od ra it))] ([]) (σ.T) rfl rfl (fun _ => .nil) (Wk.refl _) (let s1 : AS := _; blk_cons (σ := s1) ?_)
  rcases hk with rfl | rfl <;> (repeat' (first | k_extra "blk" | k_extra "step"))
  all_goals exact ⟨_, Wk.refl _, H⟩
theorem ct_depthB (ok : 1 ≤ bud) {kd w h d sh : Int} {sg od ra it : AV} (hk : kd = 2 ∨ kd = 3) (H : k (.int d) σ) : CallT bud 500 [.obj 354 (boxF kd w h d sh sg od ra it)] σ k := by
  refine callD ok in_depth_of false 60 [("node", .obj 354 (boxF kd w h d sh sg od ra it))] ([]) (σ.T) rfl rfl (fun _ => .nil) (Wk.refl _) (let s1 : AS := _; blk_cons (σ := s1) ?_)
  rcases hk with rfl | rfl <;> (repeat' (first | k_extra "blk" | k_extra "step"))
  all_goals exact ⟨_, Wk.refl _, H⟩
theorem ct_height (ok : 2 ≤ bud) {nd : Nd} (H : k (.int nd.ht) σ) : CallT bud 495 [nd.av] σ k := by
  refine callD ok in_height_of false 60 [("node", nd.av)] ([]) (σ.T) rfl rfl (fun _ => .nil) (Wk.refl _) (let s1 : AS := _; blk_cons (σ := s1) ?_)
  rcases nd with ⟨_ | _, w, h, d, sh⟩ | ⟨_ | h, d⟩ | w | ⟨g, so, _ | u⟩ | v | _ | _ <;> (repeat' (first | k_extra "blk" | ((with_reducible refine at_ 495 ?_); refine ct_heightB (by first | decide | omega) (by omega) ?_) | k_extra "step"))
  all_goals exact ⟨_, Wk.refl _, H⟩
theorem ct_depth (ok : 2 ≤ bud) {nd : Nd} (H : k (.int nd.dp) σ) : CallT bud 500 [nd.av] σ k := by
  refine callD ok in_depth_of false 60 [("node", nd.av)] ([]) (σ.T) rfl rfl (fun _ => .nil) (Wk.refl _) (let s1 : AS := _; blk_cons (σ := s1) ?_)
  rcases nd with ⟨_ | _, w, h, d, sh⟩ | ⟨_ | h, d⟩ | w | ⟨g, so, _ | u⟩ | v | _ | _ <;> (repeat' (first | k_extra "blk" | ((with_reducible refine at_ 500 ?_); refine ct_depthB (by first | decide | omega) (by omega) ?_) | k_extra "step"))
  all_goals exact ⟨_, Wk.refl _, H⟩
theorem ct_disc (ok : 1 ≤ bud) {nd : Nd} (H : k (.bool nd.disc) σ) : CallT bud 521 [nd.av] σ k := by
  refine callD ok in_is_discardable false 60 [("node", nd.av)] ([]) (σ.T) rfl rfl (fun _ => .nil) (Wk.refl _) (let s1 : AS := _; blk_cons (σ := s1) ?_)
  rcases nd with ⟨_ | _, w, h, d, sh⟩ | ⟨_ | h, d⟩ | w | ⟨g, so, _ | u⟩ | v | _ | _ <;> (repeat' (first | k_extra "blk" | k_extra "step"))
  all_goals exact ⟨_, Wk.refl _, H⟩
theorem ct_ahead (ok : 2 ≤ bud) {nd : Nd} (H : k (.bool (!nd.disc)) σ) : CallT bud 528 [nd.av] σ k := by
  refine callD ok in_is_breakable_ahead false 60 [("node", nd.av)] ([]) (σ.T) rfl rfl (fun _ => .nil) (Wk.refl _) (let s1 : AS := _; blk_cons (σ := s1) ?_)
  repeat' (first | k_extra "blk" | ((with_reducible refine at_ 521 ?_); refine ct_disc (by first | decide | omega) ?_) | k_extra "step")
  exact ⟨_, Wk.refl _, H⟩
theorem ct_widthB (ok : 1 ≤ bud) {kd w h d sh : Int} {sg od ra it : AV} (hk : kd = 2 ∨ kd = 3) (H : k (.int w) σ) : CallT bud 490 [.obj 354 (boxF kd w h d sh sg od ra it)] σ k := by
  refine callD ok in_width_of false 60 [("node", .obj 354 (boxF kd w h d sh sg od ra it))] ([]) (σ.T) rfl rfl (fun _ => .nil) (Wk.refl _) (let s1 : AS := _; blk_cons (σ := s1) ?_)
  rcases hk with rfl | rfl <;> (repeat' (first | k_extra "blk" | k_extra "step"))
  all_goals exact ⟨_, Wk.refl _, H⟩
theorem ct_widthR (ok : 1 ≤ bud) {h : AV} {d : Int} (H : k (.int 0) σ) : CallT bud 490 [.obj 375 [("width", .none), ("height", h), ("depth", .int d)]] σ k := by
  refine callD ok in_width_of false 60 [("node", .obj 375 [("width", .none), ("height", h), ("depth", .int d)])] ([]) (σ.T) rfl rfl (fun _ => .nil) (Wk.refl _) (let s1 : AS := _; blk_cons (σ := s1) ?_)
  repeat' (first | k_extra "blk" | k_extra "step")
  all_goals exact ⟨_, Wk.refl _, H⟩
theorem ct_widthP (ok : 1 ≤ bud) {v : Int} (H : k (.int 0) σ) : CallT bud 490 [Nd.av (.pen v)] σ k := by
  refine callD ok in_width_of false 60 [("node", Nd.av (.pen v))] ([]) (σ.T) rfl rfl (fun _ => .nil) (Wk.refl _) (let s1 : AS := _; blk_cons (σ := s1) ?_)
  repeat' (first | k_extra "blk" | k_extra "step")
  all_goals exact ⟨_, Wk.refl _, H⟩
theorem ct_widthM (ok : 1 ≤ bud) (H : k (.int 0) σ) : CallT bud 490 [Nd.av .mark] σ k := by
  refine callD ok in_width_of false 60 [("node", Nd.av .mark)] ([]) (σ.T) rfl rfl (fun _ => .nil) (Wk.refl _) (let s1 : AS := _; blk_cons (σ := s1) ?_)
  repeat' (first | k_extra "blk" | k_extra "step")
  all_goals exact ⟨_, Wk.refl _, H⟩
theorem ct_widthS (ok : 1 ≤ bud) (H : k (.int 0) σ) : CallT bud 490 [Nd.av .spec] σ k := by
  refine callD ok in_width_of false 60 [("node", Nd.av .spec)] ([]) (σ.T) rfl rfl (fun _ => .nil) (Wk.refl _) (let s1 : AS := _; blk_cons (σ := s1) ?_)
  repeat' (first | k_extra "blk" | k_extra "step")
  all_goals exact ⟨_, Wk.refl _, H⟩
theorem ct_across (ok : 2 ≤ bud) {nd : Nd} (H : k (.int nd.acr) σ) : CallT bud 543 [nd.av] σ k := by
  refine callD ok in_across false 60 [("node", nd.av)] ([]) (σ.T) rfl rfl (fun _ => .nil) (Wk.refl _) (let s1 : AS := _; blk_cons (σ := s1) ?_)
  rcases nd with ⟨_ | _, w, h, d, sh⟩ | ⟨_ | h, d⟩ | w | ⟨g, so, _ | u⟩ | v | _ | _ <;> (repeat' (first | k_extra "blk" | ((with_reducible refine at_ 490 ?_); (first | refine ct_widthS (by first | decide | omega) ?_ | refine ct_widthM (by first | decide | omega) ?_ | refine ct_widthP (by first | decide | omega) ?_ | refine ct_widthR (by first | decide | omega) ?_ | refine ct_widthB (by first | decide | omega) (by omega) ?_)) | k_extra "step"))
  all_goals exact ⟨_, Wk.refl _, H⟩
theorem ct_check_column (ok : 1 ≤ bud) {xs : List AV} {ns : List Nd} (hx : xs = ns.map Nd.av) (H : k .none σ) : CallT bud 550 [.lst xs] σ k := by
  refine callD ok in_check_column false 60 [("items", .lst xs)] ([]) (σ.T) rfl rfl (fun _ => .nil) (Wk.refl _) (let s1 : AS := _; blk_cons (σ := s1) ?_)
  repeat' (first | k_extra "blk" | k_extra "step")
  refine forK_abs fun F step done => ?_
  have key : ∀ ns : List Nd, F (ns.map Nd.av) ⟨[("items", .lst xs)], []⟩ := by
    intro ns
    induction ns with
    | nil =>
      refine done _ ?_
      repeat' (first | k_extra "blk" | k_extra "step")
      exact ⟨_, Wk.refl _, H⟩
    | cons nd ns ih =>
      refine step _ _ _ ?_
      rcases nd with ⟨_ | _, w, h, d, sh⟩ | ⟨_ | h, d⟩ | w | ⟨g, so, _ | u⟩ | v | _ | _ <;> (repeat' (first | k_extra "blk" | k_extra "step"))
      all_goals exact ease_to [("items", .lst xs)] [] (by repeat (first | exact True.intro | refine And.intro rfl ?_)) (Wk.refl _) ih
  exact hx ▸ key ns
structure St4 where
  a : Int
  b : Int
  c : Int
  d : Int
noncomputable def St4.avs (s : St4) : List AV := [.int s.a, .int s.b, .int s.c, .int s.d]
noncomputable def St4.add (s : St4) : Or4 → Int → St4
  | .o0, x => ⟨s.a + x, s.b, s.c, s.d⟩
  | .o1, x => ⟨s.a, s.b + x, s.c, s.d⟩
  | .o2, x => ⟨s.a, s.b, s.c + x, s.d⟩
  | .o3, x => ⟨s.a, s.b, s.c, s.d + x⟩
noncomputable def St4.top (s : St4) : Int := if s.d ≠ 0 then 3 else if s.c ≠ 0 then 2 else if s.b ≠ 0 then 1 else 0
noncomputable def totT (t d s p : Addr) (n : Int) (S : St4) (b : Int) : Led := [(t, .inst 309 d [("natural", .int n), ("stretch", .ref s), ("shrink", .ref p)]), (s, .list S.avs), (p, .list [.int b, .int 0, .int 0, .int 0])]
local macro_rules | `(tactic| k_extra "side") => `(tactic| (dsimp only [Or4.val, St4.avs]; (try simp only [List.length_cons, List.length_nil]); omega))
theorem ct_Totals (ok : 4 ≤ bud) (H : ∀ t d s p, k (.ref t) ⟨σ.loc, totT t d s p 0 ⟨0, 0, 0, 0⟩ 0 ++ σ.T⟩) : CallT bud 309 [] σ k := by
  refine callC ok rfl fun x d ok => ?_
  refine callD ok in_Totals_init true 60 [("self", .ref x)] ([(x, .inst 309 d [])]) (σ.T) rfl rfl (fun _ => .nil) (Wk.refl _) (let s1 : AS := _; blk_cons (σ := s1) ?_)
  repeat' (first | k_extra "blk" | k_extra "step")
  exact ⟨totT _ _ _ _ 0 ⟨0, 0, 0, 0⟩ 0, by repeat (first | exact Wk.refl _ | exact Wk.nil _ | refine Wk.pick (by repeat (first | exact Pick.head | apply Pick.tail)) ?_), rfl, H _ _ _ _⟩
theorem ct_add (ok : 1 ≤ bud) {t d s p : Addr} {n b : Int} {S : St4} {g : Gl} (hT : Wk σ.T (totT t d s p n S b ++ R)) (H : k .none ⟨σ.loc, totT t d s p (n + g.w) (S.add g.o g.s) (b + g.p) ++ R⟩) : CallT bud 278 [.ref t, g.av] σ k := by
  refine callD ok in_Totals_add false 60 [("self", .ref t), ("glue", g.av)] (totT t d s p n S b) (R) rfl rfl (fun _ => .nil) (hT) (let s1 : AS := _; blk_cons (σ := s1) ?_)
  rcases g with ⟨gw, gs, _ | _ | _ | _, gp⟩ <;> (repeat' (first | k_extra "blk" | k_extra "step"))
  all_goals exact ⟨_, Wk.refl _, H⟩
theorem ct_widen (ok : 1 ≤ bud) {t d s p : Addr} {n b w : Int} {S : St4} (hT : Wk σ.T (totT t d s p n S b ++ R)) (H : k .none ⟨σ.loc, totT t d s p (n + w) S b ++ R⟩) : CallT bud 285 [.ref t, .int w] σ k := by
  refine callD ok in_Totals_widen false 60 [("self", .ref t), ("width", .int w)] (totT t d s p n S b) (R) rfl rfl (fun _ => .nil) (hT) (let s1 : AS := _; blk_cons (σ := s1) ?_)
  repeat' (first | k_extra "blk" | k_extra "step")
  exact ⟨_, Wk.refl _, H⟩
theorem ct_top_order (ok : 1 ≤ bud) {s : Addr} {S : St4} (hT : Wk σ.T ([(s, .list S.avs)] ++ R)) (H : ∀ r, r = S.top → k (.int r) ⟨σ.loc, [(s, .list S.avs)] ++ R⟩) : CallT bud 257 [.ref s] σ k := by
  refine callD ok in_top_order false 60 [("sums", .ref s)] ([(s, .list S.avs)]) (R) rfl rfl (fun _ => .nil) (hT) (let s1 : AS := _; blk_cons (σ := s1) ?_)
  repeat' (first | k_extra "blk" | k_extra "loop" | k_extra "step")
  all_goals exact ⟨_, Wk.refl _, H _ (by simp [St4.top, *])⟩
theorem ct_stretch_top (ok : 2 ≤ bud) {t d s p : Addr} {n b : Int} {S : St4} (hT : Wk σ.T (totT t d s p n S b ++ R)) (H : ∀ r, r = S.top → k (.int r) ⟨σ.loc, totT t d s p n S b ++ R⟩) : CallT bud 292 [.ref t] σ k := by
  refine callD ok in_Totals_stretch_top false 60 [("self", .ref t)] (totT t d s p n S b) (R) rfl rfl (fun _ => .nil) (hT) (let s1 : AS := _; blk_cons (σ := s1) ?_)
  repeat' (first | k_extra "blk" | k_extra "step")
  refine ct_top_order (by first | decide | omega) (S := S) (by repeat (first | exact Wk.refl _ | exact Wk.nil _ | refine Wk.pick (by repeat (first | exact Pick.head | apply Pick.tail)) ?_)) fun r hr => ?_
  repeat' (first | k_extra "blk" | k_extra "step")
  exact ⟨_, by repeat (first | exact Wk.refl _ | exact Wk.nil _ | refine Wk.pick (by repeat (first | exact Pick.head | apply Pick.tail)) ?_), H r hr⟩
theorem ct_shrink_top (ok : 2 ≤ bud) {t d s p : Addr} {n b : Int} {S : St4} (hT : Wk σ.T (totT t d s p n S b ++ R)) (H : k (.int 0) ⟨σ.loc, totT t d s p n S b ++ R⟩) : CallT bud 299 [.ref t] σ k := by
  refine callD ok in_Totals_shrink_top false 60 [("self", .ref t)] (totT t d s p n S b) (R) rfl rfl (fun _ => .nil) (hT) (let s1 : AS := _; blk_cons (σ := s1) ?_)
  repeat' (first | k_extra "blk" | k_extra "step")
  refine ct_top_order (by first | decide | omega) (S := ⟨b, 0, 0, 0⟩) (by repeat (first | exact Wk.refl _ | exact Wk.nil _ | refine Wk.pick (by repeat (first | exact Pick.head | apply Pick.tail)) ?_)) fun r hr => ?_
  have hr : r = 0 := by rw [hr]; rfl
  subst hr
  repeat' (first | k_extra "blk" | k_extra "step")
  exact ⟨_, by repeat (first | exact Wk.refl _ | exact Wk.nil _ | refine Wk.pick (by repeat (first | exact Pick.head | apply Pick.tail)) ?_), H⟩
structure Sm where
  n : Int
  st : St4
  p : Int
  w : Int
  d : Int
noncomputable def Sm.step (S : Sm) : Nd → Sm
  | .skip g _ _ => ⟨S.n + S.d + g.w, S.st.add g.o g.s, S.p + g.p, max S.w 0, 0⟩
  | .kern w => ⟨S.n + (S.d + w), S.st, S.p, max S.w 0, 0⟩
  | .box _ w h d sh => ⟨S.n + (S.d + h), S.st, S.p, max S.w (w + sh), d⟩
  | .rule h d => ⟨S.n + (S.d + Nd.ht (.rule h d)), S.st, S.p, max S.w 0, d⟩
  | .pen _ | .mark | .spec => ⟨S.n, S.st, S.p, max S.w 0, S.d⟩
noncomputable def Sm.zero : Sm := ⟨0, ⟨0, 0, 0, 0⟩, 0, 0, 0⟩
noncomputable def Sm.run (S : Sm) (ns : List Nd) : Sm := ns.foldl Sm.step S
theorem ct_natural_column (ok : 5 ≤ bud) {xs : List AV} {ns : List Nd} (hx : xs = ns.map Nd.av) (H : ∀ t d s p S, S = Sm.zero.run ns → k (.tup [.ref t, .int S.w, .int S.d]) ⟨σ.loc, totT t d s p S.n S.st S.p ++ σ.T⟩) : CallT bud 557 [.lst xs] σ k := by
  refine callD ok in_natural_column false 60 [("items", .lst xs)] ([]) (σ.T) rfl rfl (fun _ => .nil) (Wk.refl _) (let s1 : AS := _; blk_cons (σ := s1) ?_)
  repeat' (first | k_extra "blk" | ((with_reducible refine at_ 285 ?_); refine ct_widen (by first | decide | omega) (by repeat (first | exact Wk.refl _ | exact Wk.nil _ | refine Wk.pick (by repeat (first | exact Pick.head | apply Pick.tail)) ?_)) ?_) | ((with_reducible refine at_ 278 ?_); refine ct_add (by first | decide | omega) (by repeat (first | exact Wk.refl _ | exact Wk.nil _ | refine Wk.pick (by repeat (first | exact Pick.head | apply Pick.tail)) ?_)) ?_) | ((with_reducible refine at_ 543 ?_); refine ct_across (by first | decide | omega) ?_) | ((with_reducible refine at_ 500 ?_); (first | refine ct_depth (by first | decide | omega) ?_ | refine ct_depthB (by first | decide | omega) (by omega) ?_)) | ((with_reducible refine at_ 495 ?_); (first | refine ct_height (by first | decide | omega) ?_ | refine ct_heightB (by first | decide | omega) (by omega) ?_)) | k_extra "step")
  refine ct_check_column (by first | decide | omega) hx ?_
  repeat' (first | k_extra "blk" | ((with_reducible refine at_ 285 ?_); refine ct_widen (by first | decide | omega) (by repeat (first | exact Wk.refl _ | exact Wk.nil _ | refine Wk.pick (by repeat (first | exact Pick.head | apply Pick.tail)) ?_)) ?_) | ((with_reducible refine at_ 278 ?_); refine ct_add (by first | decide | omega) (by repeat (first | exact Wk.refl _ | exact Wk.nil _ | refine Wk.pick (by repeat (first | exact Pick.head | apply Pick.tail)) ?_)) ?_) | ((with_reducible refine at_ 543 ?_); refine ct_across (by first | decide | omega) ?_) | ((with_reducible refine at_ 500 ?_); (first | refine ct_depth (by first | decide | omega) ?_ | refine ct_depthB (by first | decide | omega) (by omega) ?_)) | ((with_reducible refine at_ 495 ?_); (first | refine ct_height (by first | decide | omega) ?_ | refine ct_heightB (by first | decide | omega) (by omega) ?_)) | k_extra "step")
  refine ct_Totals (by first | decide | omega) ?_
  intro t d s p
  repeat' (first | k_extra "blk" | ((with_reducible refine at_ 285 ?_); refine ct_widen (by first | decide | omega) (by repeat (first | exact Wk.refl _ | exact Wk.nil _ | refine Wk.pick (by repeat (first | exact Pick.head | apply Pick.tail)) ?_)) ?_) | ((with_reducible refine at_ 278 ?_); refine ct_add (by first | decide | omega) (by repeat (first | exact Wk.refl _ | exact Wk.nil _ | refine Wk.pick (by repeat (first | exact Pick.head | apply Pick.tail)) ?_)) ?_) | ((with_reducible refine at_ 543 ?_); refine ct_across (by first | decide | omega) ?_) | ((with_reducible refine at_ 500 ?_); (first | refine ct_depth (by first | decide | omega) ?_ | refine ct_depthB (by first | decide | omega) (by omega) ?_)) | ((with_reducible refine at_ 495 ?_); (first | refine ct_height (by first | decide | omega) ?_ | refine ct_heightB (by first | decide | omega) (by omega) ?_)) | k_extra "step")
  refine forK_abs fun F step done => ?_
  have key : ∀ (ns' : List Nd) (S : Sm), S.run ns' = Sm.zero.run ns → F (ns'.map Nd.av) ⟨[("items", .lst xs), ("totals", .ref t), ("width", .int S.w), ("depth", .int S.d)], totT t d s p S.n S.st S.p⟩ := by
    intro ns'
    induction ns' with
    | nil =>
      intro S hS
      refine done _ ?_
      repeat' (first | k_extra "blk" | ((with_reducible refine at_ 285 ?_); refine ct_widen (by first | decide | omega) (by repeat (first | exact Wk.refl _ | exact Wk.nil _ | refine Wk.pick (by repeat (first | exact Pick.head | apply Pick.tail)) ?_)) ?_) | ((with_reducible refine at_ 278 ?_); refine ct_add (by first | decide | omega) (by repeat (first | exact Wk.refl _ | exact Wk.nil _ | refine Wk.pick (by repeat (first | exact Pick.head | apply Pick.tail)) ?_)) ?_) | ((with_reducible refine at_ 543 ?_); refine ct_across (by first | decide | omega) ?_) | ((with_reducible refine at_ 500 ?_); (first | refine ct_depth (by first | decide | omega) ?_ | refine ct_depthB (by first | decide | omega) (by omega) ?_)) | ((with_reducible refine at_ 495 ?_); (first | refine ct_height (by first | decide | omega) ?_ | refine ct_heightB (by first | decide | omega) (by omega) ?_)) | k_extra "step")
      exact ⟨_, Wk.refl _, H _ _ _ _ _ hS⟩
    | cons nd ns ih =>
      intro S hS
      have ih := ih (S.step nd) hS
      refine step _ _ _ ?_
      rcases nd with ⟨_ | _, w, h, d, sh⟩ | ⟨_ | h, d⟩ | w | ⟨g, so, _ | u⟩ | v | _ | _ <;> (repeat' (first | k_extra "blk" | ((with_reducible refine at_ 285 ?_); refine ct_widen (by first | decide | omega) (by repeat (first | exact Wk.refl _ | exact Wk.nil _ | refine Wk.pick (by repeat (first | exact Pick.head | apply Pick.tail)) ?_)) ?_) | ((with_reducible refine at_ 278 ?_); refine ct_add (by first | decide | omega) (by repeat (first | exact Wk.refl _ | exact Wk.nil _ | refine Wk.pick (by repeat (first | exact Pick.head | apply Pick.tail)) ?_)) ?_) | ((with_reducible refine at_ 543 ?_); refine ct_across (by first | decide | omega) ?_) | ((with_reducible refine at_ 500 ?_); (first | refine ct_depth (by first | decide | omega) ?_ | refine ct_depthB (by first | decide | omega) (by omega) ?_)) | ((with_reducible refine at_ 495 ?_); (first | refine ct_height (by first | decide | omega) ?_ | refine ct_heightB (by first | decide | omega) (by omega) ?_)) | k_extra "step"))
      all_goals (refine ease_to _ _ ?_ ?_ ih; (repeat (first | exact True.intro | refine And.intro rfl ?_)); exact Wk.refl _)
  have := key ns Sm.zero rfl
  rw [← hx] at this
  exact this
theorem ct_quotient (ok : 1 ≤ bud) {u d : Int} (H : ∀ a b, k (.tup [.int a, .int b]) σ) : CallT bud 564 [.int u, .int d] σ k := by
  refine callD ok in_quotient false 60 [("up", .int u), ("down", .int d)] ([]) (σ.T) rfl rfl (fun _ => .nil) (Wk.refl _) (let s1 : AS := _; blk_cons (σ := s1) ?_)
  repeat' (first | k_extra "blk" | k_extra "step")
  all_goals exact ⟨_, Wk.refl _, H _ _⟩
noncomputable def rep (x : Int) (S : St4) (p : Int) : Int × Int :=
  if x = 0 then (0, 0) else if 0 < x then (if S.top = 0 then (1, bad x S.a) else (0, 0)) else if p < -x then (3, -x - p) else (2, bad (-x) p)
theorem St4.top_cases (S : St4) : (S.top = 0 ∧ S.b = 0 ∧ S.c = 0 ∧ S.d = 0) ∨ (S.top = 1 ∧ S.b ≠ 0) ∨ (S.top = 2 ∧ S.c ≠ 0) ∨ (S.top = 3 ∧ S.d ≠ 0) := by
  unfold St4.top
  by_cases h1 : S.d = 0 <;> by_cases h2 : S.c = 0 <;> by_cases h3 : S.b = 0 <;> simp [*]
theorem ct_set_glue (ok : 3 ≤ bud) {t d s p : Addr} {x n b : Int} {S : St4} (hT : Wk σ.T (totT t d s p n S b ++ R)) (hx : -1073741824 < x ∧ x < 1073741824) (hS : S.a < 1073741824) (hb : 0 ≤ b ∧ b < 1073741824)
    (H : ∀ sg od r1 r2 c m, (c, m) = rep x S b → k (.tup [.int sg, .int od, .tup [.int r1, .int r2], .tup [.int c, .int m]]) ⟨σ.loc, totT t d s p n S b ++ R⟩) : CallT bud 571 [.ref t, .int x] σ k := by
  refine callD ok in_set_glue false 60 [("totals", .ref t), ("excess", .int x)] (totT t d s p n S b) (R) rfl rfl (fun _ => .nil) (hT) (let s1 : AS := _; blk_cons (σ := s1) ?_)
  by_cases h0 : x = 0
  · repeat' (first | k_extra "blk" | ((with_reducible refine at_ 564 ?_); refine ct_quotient (by first | decide | omega) ?_; intro _ _) | ((with_reducible refine at_ 299 ?_); refine ct_shrink_top (by first | decide | omega) (by repeat (first | exact Wk.refl _ | exact Wk.nil _ | refine Wk.pick (by repeat (first | exact Pick.head | apply Pick.tail)) ?_)) ?_) | ((with_reducible refine at_ 164 ?_); refine ct_badness (by first | decide | omega) (by omega) (by omega) ?_; intro _ _) | k_extra "step")
    exact ⟨_, Wk.refl _, H _ _ _ _ _ _ (by simp [rep, *])⟩
  by_cases h1 : 0 < x
  · repeat' (first | k_extra "blk" | ((with_reducible refine at_ 564 ?_); refine ct_quotient (by first | decide | omega) ?_; intro _ _) | ((with_reducible refine at_ 299 ?_); refine ct_shrink_top (by first | decide | omega) (by repeat (first | exact Wk.refl _ | exact Wk.nil _ | refine Wk.pick (by repeat (first | exact Pick.head | apply Pick.tail)) ?_)) ?_) | ((with_reducible refine at_ 164 ?_); refine ct_badness (by first | decide | omega) (by omega) (by omega) ?_; intro _ _) | k_extra "step")
    have hn : (x.natAbs : Int) = x := by omega
    refine ct_stretch_top (by first | decide | omega) (by repeat (first | exact Wk.refl _ | exact Wk.nil _ | refine Wk.pick (by repeat (first | exact Pick.head | apply Pick.tail)) ?_)) fun r hr => ?_
    rcases S.top_cases with ⟨e, e2⟩ | ⟨e, e2⟩ | ⟨e, e2⟩ | ⟨e, e2⟩
    all_goals
      rw [e] at hr
      subst hr
      repeat' (first | k_extra "blk" | ((with_reducible refine at_ 564 ?_); refine ct_quotient (by first | decide | omega) ?_; intro _ _) | ((with_reducible refine at_ 299 ?_); refine ct_shrink_top (by first | decide | omega) (by repeat (first | exact Wk.refl _ | exact Wk.nil _ | refine Wk.pick (by repeat (first | exact Pick.head | apply Pick.tail)) ?_)) ?_) | ((with_reducible refine at_ 164 ?_); refine ct_badness (by first | decide | omega) (by omega) (by omega) ?_; intro _ _) | k_extra "step")
    all_goals exact ⟨_, Wk.refl _, H _ _ _ _ _ _ (by clear ok hT H; simp [rep, *])⟩
  · have hn : (x.natAbs : Int) = -x := by omega
    repeat' (first | k_extra "blk" | ((with_reducible refine at_ 564 ?_); refine ct_quotient (by first | decide | omega) ?_; intro _ _) | ((with_reducible refine at_ 299 ?_); refine ct_shrink_top (by first | decide | omega) (by repeat (first | exact Wk.refl _ | exact Wk.nil _ | refine Wk.pick (by repeat (first | exact Pick.head | apply Pick.tail)) ?_)) ?_) | ((with_reducible refine at_ 164 ?_); refine ct_badness (by first | decide | omega) (by omega) (by omega) ?_; intro _ _) | k_extra "step")
    all_goals exact ⟨_, Wk.refl _, H _ _ _ _ _ _ (by clear ok hT H; simp [rep, *]; try omega)⟩
theorem ct_goal_size (ok : 3 ≤ bud) {own m a : Int} (hm : m = 0 ∨ m = 1) (ha : -1073741823 ≤ a ∧ a ≤ 1073741823) (H : ∀ r, (m = 0 → r = a) → (m = 1 → r = own + a) → k (.int r) σ) : CallT bud 578 [.int own, .int m, .int a] σ k := by
  refine callD ok in_goal_size false 60 [("own", .int own), ("mode", .int m), ("amount", .int a)] ([]) (σ.T) rfl rfl (fun _ => .nil) (Wk.refl _) (let s1 : AS := _; blk_cons (σ := s1) ?_)
  rcases hm with rfl | rfl <;> (repeat' (first | k_extra "blk" | ((with_reducible refine at_ 122 ?_); refine ct_check_dimen (by first | decide | omega) (by omega) ?_) | k_extra "step"))
  all_goals exact ⟨_, Wk.refl _, H _ (by simp) (by simp)⟩
noncomputable def isN : List Nd → Bool
  | [] => true
  | _ => false
noncomputable def boxL (b e : Addr) (w h d : Int) (sg od ra it : AV) : Led := [(b, .inst 354 e (boxF 3 w h d 0 sg od ra it))]
theorem ct_set_box (ok : 4 ≤ bud) {b e t d s p : Addr} {x n bb w h dd : Int} {S : St4} {sg od ra : AV} {xs : List AV} {ns : List Nd} (hxs : xs = ns.map Nd.av) (hT : Wk σ.T ((boxL b e w h dd sg od ra (.lst xs) ++ totT t d s p n S bb) ++ R)) (hx : -1073741824 < x ∧ x < 1073741824) (hS : S.a < 1073741824) (hb : 0 ≤ bb ∧ bb < 1073741824)
    (H : ∀ sg od ra c m, (c, m) = (if isN ns then (0, 0) else rep x S bb) → k (.tup [.int c, .int m]) ⟨σ.loc, boxL b e w h dd sg od ra (.lst xs) ++ R⟩) : CallT bud 585 [.ref b, .ref t, .int x] σ k := by
  refine callD ok in_set_box false 60 [("box", .ref b), ("totals", .ref t), ("excess", .int x)] (boxL b e w h dd sg od ra (.lst xs) ++ totT t d s p n S bb) (R) rfl rfl (fun _ => .nil) (hT) (let s1 : AS := _; blk_cons (σ := s1) ?_)
  repeat' (first | k_extra "blk" | k_extra "step")
  refine ct_set_glue (by first | decide | omega) (by repeat (first | exact Wk.refl _ | exact Wk.nil _ | refine Wk.pick (by repeat (first | exact Pick.head | apply Pick.tail)) ?_)) hx hS hb ?_
  intro sg od r1 r2 c m hcm
  have hd : ns = [] ∨ ∃ a r, ns = a :: r := by cases ns <;> simp
  rcases hd with rfl | ⟨a, r, rfl⟩
  · subst hxs
    repeat' (first | k_extra "blk" | k_extra "step")
    exact ⟨boxL _ _ _ _ _ _ _ _ _, by repeat (first | exact Wk.refl _ | exact Wk.nil _ | refine Wk.pick (by repeat (first | exact Pick.head | apply Pick.tail)) ?_), H _ _ _ _ _ (by simp [isN])⟩
  · subst hxs
    repeat' (first | k_extra "blk" | k_extra "step")
    exact ⟨boxL _ _ _ _ _ _ _ _ _, by repeat (first | exact Wk.refl _ | exact Wk.nil _ | refine Wk.pick (by repeat (first | exact Pick.head | apply Pick.tail)) ?_), H _ _ _ _ _ (by simp [isN, hcm])⟩
noncomputable def Sm.capN (S : Sm) (deep : Int) : Int := if deep < S.d then S.n + (S.d - deep) else S.n
noncomputable def Sm.capD (S : Sm) (deep : Int) : Int := if deep < S.d then deep else S.d
theorem ct_vpack (ok : 6 ≤ bud) {xs : List AV} {ns : List Nd} {S : Sm} {m a deep ht : Int} (hx : xs = ns.map Nd.av) (hS : S = Sm.zero.run ns) (hm : m = 0 ∨ m = 1)
    (ha : -1073741823 ≤ a ∧ a ≤ 1073741823) (hdeep : -1073741823 ≤ deep ∧ deep ≤ 1073741823) (hw : -1073741823 ≤ S.w ∧ S.w ≤ 1073741823) (hD : -1073741823 ≤ S.capD deep ∧ S.capD deep ≤ 1073741823)
    (hht : -1073741823 ≤ ht ∧ ht ≤ 1073741823) (hh0 : m = 0 → ht = a) (hh1 : m = 1 → ht = S.capN deep + a) (hex : -1073741824 < ht - S.capN deep ∧ ht - S.capN deep < 1073741824) (hSa : S.st.a < 1073741824) (hp : 0 ≤ S.p ∧ S.p < 1073741824)
    (H : ∀ b e sg od ra c m', (c, m') = (if isN ns then (0, 0) else rep (ht - S.capN deep) S.st S.p) → k (.tup [.ref b, .tup [.int c, .int m']]) ⟨σ.loc, boxL b e S.w ht (S.capD deep) sg od ra (.lst xs) ++ σ.T⟩) :
    CallT bud 593 [.lst xs, .int m, .int a, .int deep] σ k := by
  refine callD ok in_vpack false 60 [("items", .lst xs), ("mode", .int m), ("amount", .int a), ("most_depth", .int deep)] ([]) (σ.T) rfl rfl (fun _ => .nil) (Wk.refl _) (let s1 : AS := _; blk_cons (σ := s1) ?_)
  repeat' (first | k_extra "blk" | ((with_reducible refine at_ 285 ?_); refine ct_widen (by first | decide | omega) (by repeat (first | exact Wk.refl _ | exact Wk.nil _ | refine Wk.pick (by repeat (first | exact Pick.head | apply Pick.tail)) ?_)) ?_) | ((with_reducible refine at_ 122 ?_); refine ct_check_dimen (by first | decide | omega) (by omega) ?_) | k_extra "step")
  refine ct_natural_column (by first | decide | omega) hx fun t d s p S' hS' => ?_
  obtain rfl : S' = S := hS'.trans hS.symm
  have fin : ∀ (r : Int), r = S'.capN deep → ∀ h', h' = ht → h' - r = ht - S'.capN deep := fun r h1 h' h2 => by omega
  by_cases hc : deep < S'.d
  · have e1 : S'.capN deep = S'.n + (S'.d - deep) := by simp [Sm.capN, hc]
    have e2 : S'.capD deep = deep := by simp [Sm.capD, hc]
    rw [e1] at hh1 hex H fin
    rw [e2] at hD H
    repeat' (first | k_extra "blk" | ((with_reducible refine at_ 285 ?_); refine ct_widen (by first | decide | omega) (by repeat (first | exact Wk.refl _ | exact Wk.nil _ | refine Wk.pick (by repeat (first | exact Pick.head | apply Pick.tail)) ?_)) ?_) | ((with_reducible refine at_ 122 ?_); refine ct_check_dimen (by first | decide | omega) (by omega) ?_) | k_extra "step")
    refine ct_goal_size (by first | decide | omega) (by omega) (by omega) fun r g1 g2 => ?_
    obtain rfl : r = ht := by rcases hm with rfl | rfl <;> simp_all
    repeat' (first | k_extra "blk" | ((with_reducible refine at_ 285 ?_); refine ct_widen (by first | decide | omega) (by repeat (first | exact Wk.refl _ | exact Wk.nil _ | refine Wk.pick (by repeat (first | exact Pick.head | apply Pick.tail)) ?_)) ?_) | ((with_reducible refine at_ 122 ?_); refine ct_check_dimen (by first | decide | omega) (by omega) ?_) | k_extra "step")
    refine ct_Box (by first | decide | omega) (.inr rfl) (by omega) (by omega) (by omega) rfl fun b e => ?_
    repeat' (first | k_extra "blk" | ((with_reducible refine at_ 285 ?_); refine ct_widen (by first | decide | omega) (by repeat (first | exact Wk.refl _ | exact Wk.nil _ | refine Wk.pick (by repeat (first | exact Pick.head | apply Pick.tail)) ?_)) ?_) | ((with_reducible refine at_ 122 ?_); refine ct_check_dimen (by first | decide | omega) (by omega) ?_) | k_extra "step")
    refine ct_set_box (by first | decide | omega) hx (by repeat (first | exact Wk.refl _ | exact Wk.nil _ | refine Wk.pick (by repeat (first | exact Pick.head | apply Pick.tail)) ?_)) (by omega) hSa hp ?_
    intro sg od ra c m' hcm
    repeat' (first | k_extra "blk" | ((with_reducible refine at_ 285 ?_); refine ct_widen (by first | decide | omega) (by repeat (first | exact Wk.refl _ | exact Wk.nil _ | refine Wk.pick (by repeat (first | exact Pick.head | apply Pick.tail)) ?_)) ?_) | ((with_reducible refine at_ 122 ?_); refine ct_check_dimen (by first | decide | omega) (by omega) ?_) | k_extra "step")
    exact ⟨boxL _ _ _ _ _ _ _ _ _, by repeat (first | exact Wk.refl _ | exact Wk.nil _ | refine Wk.pick (by repeat (first | exact Pick.head | apply Pick.tail)) ?_), H _ _ _ _ _ _ _ hcm⟩
  · have e1 : S'.capN deep = S'.n := by simp [Sm.capN, hc]
    have e2 : S'.capD deep = S'.d := by simp [Sm.capD, hc]
    rw [e1] at hh1 hex H fin
    rw [e2] at hD H
    repeat' (first | k_extra "blk" | ((with_reducible refine at_ 285 ?_); refine ct_widen (by first | decide | omega) (by repeat (first | exact Wk.refl _ | exact Wk.nil _ | refine Wk.pick (by repeat (first | exact Pick.head | apply Pick.tail)) ?_)) ?_) | ((with_reducible refine at_ 122 ?_); refine ct_check_dimen (by first | decide | omega) (by omega) ?_) | k_extra "step")
    refine ct_goal_size (by first | decide | omega) (by omega) (by omega) fun r g1 g2 => ?_
    obtain rfl : r = ht := by rcases hm with rfl | rfl <;> simp_all
    repeat' (first | k_extra "blk" | ((with_reducible refine at_ 285 ?_); refine ct_widen (by first | decide | omega) (by repeat (first | exact Wk.refl _ | exact Wk.nil _ | refine Wk.pick (by repeat (first | exact Pick.head | apply Pick.tail)) ?_)) ?_) | ((with_reducible refine at_ 122 ?_); refine ct_check_dimen (by first | decide | omega) (by omega) ?_) | k_extra "step")
    refine ct_Box (by first | decide | omega) (.inr rfl) (by omega) (by omega) (by omega) rfl fun b e => ?_
    repeat' (first | k_extra "blk" | ((with_reducible refine at_ 285 ?_); refine ct_widen (by first | decide | omega) (by repeat (first | exact Wk.refl _ | exact Wk.nil _ | refine Wk.pick (by repeat (first | exact Pick.head | apply Pick.tail)) ?_)) ?_) | ((with_reducible refine at_ 122 ?_); refine ct_check_dimen (by first | decide | omega) (by omega) ?_) | k_extra "step")
    refine ct_set_box (by first | decide | omega) hx (by repeat (first | exact Wk.refl _ | exact Wk.nil _ | refine Wk.pick (by repeat (first | exact Pick.head | apply Pick.tail)) ?_)) (by omega) hSa hp ?_
    intro sg od ra c m' hcm
    repeat' (first | k_extra "blk" | ((with_reducible refine at_ 285 ?_); refine ct_widen (by first | decide | omega) (by repeat (first | exact Wk.refl _ | exact Wk.nil _ | refine Wk.pick (by repeat (first | exact Pick.head | apply Pick.tail)) ?_)) ?_) | ((with_reducible refine at_ 122 ?_); refine ct_check_dimen (by first | decide | omega) (by omega) ?_) | k_extra "step")
    exact ⟨boxL _ _ _ _ _ _ _ _ _, by repeat (first | exact Wk.refl _ | exact Wk.nil _ | refine Wk.pick (by repeat (first | exact Pick.head | apply Pick.tail)) ?_), H _ _ _ _ _ _ _ hcm⟩
theorem sub_i {xs : List AV} {i : Int} {v : AV} {k : AV → Prop} (h : -1000 ≤ i ∧ i ≤ 1000) (h0 : 0 ≤ i) (e : xs[i.toNat]? = some v) (hk : k v) : (-1000 ≤ i ∧ i ≤ 1000) ∧ idxK (pyIdx xs i) k := by
  refine ⟨h, ?_⟩
  unfold pyIdx
  rw [decide_eq_true h0, cond_true, e]
  exact hk
theorem sub_n {xs : List AV} {i : Int} {v : AV} {k : AV → Prop} (h : -1000 ≤ i ∧ i ≤ 1000) (h0 : i < 0) (h1 : -(xs.length : Int) ≤ i) (e : xs[((xs.length : Int) + i).toNat]? = some v) (hk : k v) : (-1000 ≤ i ∧ i ≤ 1000) ∧ idxK (pyIdx xs i) k := by
  refine ⟨h, ?_⟩
  unfold pyIdx
  rw [decide_eq_false (by omega), cond_false, decide_eq_true h1, cond_true, e]
  exact hk
theorem cond_bt {b : Bool} {p q : Prop} (h : b = true) (x : p) : cond b p q := by rw [h]; exact x
theorem cond_bf {b : Bool} {p q : Prop} (h : b = false) (x : q) : cond b p q := by rw [h]; exact x
structure Bd where
  b : Addr
  d : Addr
  co : Addr
  he : Addr
  pg : Addr
  sa : Addr
  vs : Int
  md : Int
  state : Int
  total : Int
  shrink : Int
  depth : Int
  best : AV
  goal : Int
  most : Int
  lp : Int
  lk : Int
  lg : AV
  st : St4
  cs : List AV
  ps : List AV
noncomputable def Bd.fs (x : Bd) : List (Str × AV) :=
  [("vsize", .int x.vs), ("max_depth", .int x.md), ("no_glue", Gl.av ⟨0, 0, .o0, 0⟩), ("contributions", .ref x.co), ("held", .ref x.he), ("page", .ref x.pg), ("state", .int x.state), ("total", .int x.total), ("stretch", .ref x.sa), ("shrink", .int x.shrink), ("depth", .int x.depth), ("best", x.best), ("goal", .int x.goal), ("most_depth", .int x.most), ("inserts", .edict), ("insert_penalties", .int 0), ("last_penalty", .int x.lp), ("last_kern", .int x.lk), ("last_glue", x.lg)]
noncomputable def Bd.T (x : Bd) : Led := [(x.b, .inst 874 x.d x.fs), (x.co, .list x.cs), (x.pg, .list x.ps), (x.sa, .list x.st.avs)]
noncomputable def pageA (pl pe co si : Int) : AV := .obj 740 [("place", .int pl), ("penalty", .int pe), ("cost", .int co), ("size", .int si)]
theorem ct_Page (ok : 3 ≤ bud) {pl pe co si : Int} (H : k (pageA pl pe co si) σ) : CallT bud 740 [.int pl, .int pe, .int co, .int si] σ k := by
  refine CallT.fz (callC ok rfl fun x e ok => ?_)
  refine callD ok in_Page_init false 60 [("self", .ref x), ("place", .int pl), ("penalty", .int pe), ("cost", .int co), ("size", .int si)] ([(x, .inst 740 e [])]) (σ.T) rfl rfl (fun _ => .nil) (Wk.refl _) (let s1 : AS := _; blk_cons (σ := s1) ?_)
  repeat' (first | k_extra "blk" | k_extra "step")
  exact ⟨_, Wk.refl _, rfl, _, _, _, _, _, rfl, Wk.refl _, H⟩
theorem ct_check_finite (ok : 1 ≤ bud) {g : Gl} (H : k .none σ) : CallT bud 695 [g.av] σ k := by
  refine callD ok in_check_finite false 60 [("glue", g.av)] ([]) (σ.T) rfl rfl (fun _ => .nil) (Wk.refl _) (let s1 : AS := _; blk_cons (σ := s1) ?_)
  repeat' (first | k_extra "blk" | k_extra "step")
  exact ⟨_, Wk.refl _, H⟩
theorem ct_remember (ok : 1 ≤ bud) {x : Bd} {nd : Nd} (hT : Wk σ.T (x.T ++ R)) (H : ∀ lp lk lg, k .none ⟨σ.loc, Bd.T { x with lp := lp, lk := lk, lg := lg } ++ R⟩) : CallT bud 822 [.ref x.b, nd.av] σ k := by
  refine callD ok in_PageBuilder_remember false 60 [("self", .ref x.b), ("node", nd.av)] (x.T) (R) rfl rfl (fun _ => .nil) (hT) (let s1 : AS := _; blk_cons (σ := s1) ?_)
  rcases nd with ⟨_ | _, w, h, d, sh⟩ | ⟨_ | h, d⟩ | w | ⟨g, so, _ | u⟩ | v | _ | _ <;> (repeat' (first | k_extra "blk" | k_extra "step"))
  all_goals first
    | exact ⟨_, Wk.refl _, H 0 0 (Gl.av ⟨0, 0, .o0, 0⟩)⟩
    | exact ⟨_, Wk.refl _, H 0 w (Gl.av ⟨0, 0, .o0, 0⟩)⟩
    | exact ⟨_, Wk.refl _, H v 0 (Gl.av ⟨0, 0, .o0, 0⟩)⟩
    | exact ⟨_, Wk.refl _, H 0 0 g.av⟩
theorem ct_clear (ok : 1 ≤ bud) {x : Bd} (hT : Wk σ.T (x.T ++ R)) (H : ∀ sa, k .none ⟨σ.loc, Bd.T { x with total := 0, sa := sa, st := ⟨0, 0, 0, 0⟩, shrink := 0, depth := 0, best := .none } ++ R⟩) : CallT bud 773 [.ref x.b] σ k := by
  refine callD ok in_PageBuilder_clear true 60 [("self", .ref x.b)] (x.T) (R) rfl rfl (fun _ => .nil) (hT) (let s1 : AS := _; blk_cons (σ := s1) ?_)
  repeat' (first | k_extra "blk" | k_extra "step")
  exact ⟨Bd.T { x with total := 0, sa := _, st := ⟨0, 0, 0, 0⟩, shrink := 0, depth := 0, best := .none }, by repeat (first | exact Wk.refl _ | exact Wk.nil _ | refine Wk.pick (by repeat (first | exact Pick.head | apply Pick.tail)) ?_), H _⟩
theorem ct_freeze (ok : 2 ≤ bud) {x : Bd} {st : Int} (hT : Wk σ.T (x.T ++ R)) (H : ∀ sa, k .none ⟨σ.loc, Bd.T { x with total := 0, sa := sa, st := ⟨0, 0, 0, 0⟩, shrink := 0, depth := 0, best := .none, state := st, goal := x.vs, most := x.md } ++ R⟩) : CallT bud 780 [.ref x.b, .int st] σ k := by
  refine callD ok in_PageBuilder_freeze false 60 [("self", .ref x.b), ("state", .int st)] (x.T) (R) rfl rfl (fun _ => .nil) (hT) (let s1 : AS := _; blk_cons (σ := s1) ?_)
  repeat' (first | k_extra "blk" | k_extra "step")
  refine ct_clear (by first | decide | omega) (x := x) (by repeat (first | exact Wk.refl _ | exact Wk.nil _ | refine Wk.pick (by repeat (first | exact Pick.head | apply Pick.tail)) ?_)) fun sa => ?_
  repeat' (first | k_extra "blk" | k_extra "step")
  exact ⟨Bd.T { x with total := 0, sa := sa, st := ⟨0, 0, 0, 0⟩, shrink := 0, depth := 0, best := .none, state := st, goal := x.vs, most := x.md }, Wk.refl _, H _⟩
theorem ct_begin (ok : 5 ≤ bud) {x : Bd} {nd : Nd} {g : Gl} (hT : Wk σ.T (x.T ++ R)) (hst : x.state = 0) (hw : -1073741823 ≤ g.w - nd.ht ∧ g.w - nd.ht ≤ 1073741823) (hs : -1073741823 ≤ g.s ∧ g.s ≤ 1073741823) (hp : -1073741823 ≤ g.p ∧ g.p ≤ 1073741823) (hl : x.cs.length ≤ 900)
    (H : ∀ sa o', k .none ⟨σ.loc, Bd.T { x with total := 0, sa := sa, st := ⟨0, 0, 0, 0⟩, shrink := 0, depth := 0, best := .none, state := 2, goal := x.vs, most := x.md, cs := Nd.av (.skip ⟨max (g.w - nd.ht) 0, g.s, o', g.p⟩ 107 none) :: x.cs } ++ R⟩) : CallT bud 829 [.ref x.b, nd.av, g.av] σ k := by
  refine callD ok in_PageBuilder_begin false 60 [("self", .ref x.b), ("node", nd.av), ("top_skip", g.av)] (x.T) (R) rfl rfl (fun _ => .nil) (hT) (let s1 : AS := _; blk_cons (σ := s1) ?_)
  repeat' (first | k_extra "blk" | ((with_reducible refine at_ 695 ?_); refine ct_check_finite (by first | decide | omega) ?_) | ((with_reducible refine at_ 495 ?_); (first | refine ct_height (by first | decide | omega) ?_ | refine ct_heightB (by first | decide | omega) (by omega) ?_)) | k_extra "step")
  refine ct_Glue (by first | decide | omega) (by omega) hs hp fun o' _ => ?_
  repeat' (first | k_extra "blk" | ((with_reducible refine at_ 695 ?_); refine ct_check_finite (by first | decide | omega) ?_) | ((with_reducible refine at_ 495 ?_); (first | refine ct_height (by first | decide | omega) ?_ | refine ct_heightB (by first | decide | omega) (by omega) ?_)) | k_extra "step")
  refine ct_freeze (by first | decide | omega) (x := x) (by repeat (first | exact Wk.refl _ | exact Wk.nil _ | refine Wk.pick (by repeat (first | exact Pick.head | apply Pick.tail)) ?_)) fun sa => ?_
  repeat' (first | k_extra "blk" | ((with_reducible refine at_ 695 ?_); refine ct_check_finite (by first | decide | omega) ?_) | ((with_reducible refine at_ 495 ?_); (first | refine ct_height (by first | decide | omega) ?_ | refine ct_heightB (by first | decide | omega) (by omega) ?_)) | k_extra "step")
  refine ct_Skip0 (by first | decide | omega) (.inr rfl) ?_
  repeat' (first | k_extra "blk" | ((with_reducible refine at_ 695 ?_); refine ct_check_finite (by first | decide | omega) ?_) | ((with_reducible refine at_ 495 ?_); (first | refine ct_height (by first | decide | omega) ?_ | refine ct_heightB (by first | decide | omega) (by omega) ?_)) | k_extra "step")
  exact ⟨Bd.T { x with total := 0, sa := sa, st := ⟨0, 0, 0, 0⟩, shrink := 0, depth := 0, best := .none, state := 2, goal := x.vs, most := x.md, cs := Nd.av (.skip ⟨max (g.w - nd.ht) 0, g.s, o', g.p⟩ 107 none) :: x.cs }, Wk.refl _, H _ _⟩
noncomputable def pen (pns : List Nd) (nd : Nd) (rest : List Nd) : Option Int := match nd with
  | .pen v => some v
  | .skip .. => (match pns.getLast? with | some l => if l.disc then none else some 0 | none => none)
  | .kern _ => (match rest with | r :: _ => if r.kd = 6 then some 0 else none | [] => none)
  | .box .. | .rule .. | .mark | .spec => none
theorem ct_penalty_ahead (ok : 3 ≤ bud) {x : Bd} {nd : Nd} {pns rest : List Nd} (hT : Wk σ.T (x.T ++ R)) (hp : x.ps = pns.map Nd.av) (hc : x.cs = nd.av :: rest.map Nd.av) (hk : nd.kd = 5 → rest ≠ []) (hlen : pns.length ≤ 900)
    (H : ∀ r, r = pen pns nd rest → k (optA r) ⟨σ.loc, x.T ++ R⟩) : CallT bud 836 [.ref x.b, nd.av] σ k := by
  refine callD ok in_PageBuilder_penalty_ahead false 60 [("self", .ref x.b), ("node", nd.av)] (x.T) (R) rfl rfl (fun _ => .nil) (hT) (let s1 : AS := _; blk_cons (σ := s1) ?_)
  have hlast : pns = [] ∨ ∃ a l, pns = a ++ [l] := by
    rcases List.eq_nil_or_concat pns with h | ⟨a, l, h⟩
    · exact .inl h
    · exact .inr ⟨a, l, by rw [h]; simp⟩
  rcases nd with ⟨_ | _, w, h, d, sh⟩ | ⟨_ | h, d⟩ | w | ⟨g, so, l⟩ | v | _ | _
  case kern =>
    obtain ⟨r, rest, rfl⟩ : ∃ r rs, rest = r :: rs := by
      cases rest with
      | nil => exact absurd rfl (hk rfl)
      | cons r rs => exact ⟨r, rs, rfl⟩
    have h1 : x.cs[(1 : Int).toNat]? = some r.av := by rw [hc]; rfl
    repeat' (first | k_extra "blk" | ((with_reducible refine at_ 528 ?_); refine ct_ahead (by first | decide | omega) ?_) | ((refine (?_ : _ ∧ _)); (with_reducible refine g_sub ?_); (first | (refine sub_n (by omega) (by omega) (by omega) (by assumption) ?_) | (refine sub_i (by omega) (by omega) (by assumption) ?_))) | k_extra "step")
    rcases r with ⟨_ | _, w, h, d, sh⟩ | ⟨_ | h, d⟩ | w | ⟨g, so, l⟩ | v | _ | _ <;> (repeat' (first | k_extra "blk" | ((with_reducible refine at_ 528 ?_); refine ct_ahead (by first | decide | omega) ?_) | ((refine (?_ : _ ∧ _)); (with_reducible refine g_sub ?_); (first | (refine sub_n (by omega) (by omega) (by omega) (by assumption) ?_) | (refine sub_i (by omega) (by omega) (by assumption) ?_))) | k_extra "step"))
    all_goals exact ⟨_, Wk.refl _, H _ rfl⟩
  case skip =>
    rcases hlast with rfl | ⟨a, q, rfl⟩
    · repeat' (first | k_extra "blk" | ((with_reducible refine at_ 528 ?_); refine ct_ahead (by first | decide | omega) ?_) | ((refine (?_ : _ ∧ _)); (with_reducible refine g_sub ?_); (first | (refine sub_n (by omega) (by omega) (by omega) (by assumption) ?_) | (refine sub_i (by omega) (by omega) (by assumption) ?_))) | k_extra "step")
      conv => whnf
      refine cond_bf (by rw [hp]; rfl) ?_
      repeat' (first | k_extra "blk" | ((with_reducible refine at_ 528 ?_); refine ct_ahead (by first | decide | omega) ?_) | ((refine (?_ : _ ∧ _)); (with_reducible refine g_sub ?_); (first | (refine sub_n (by omega) (by omega) (by omega) (by assumption) ?_) | (refine sub_i (by omega) (by omega) (by assumption) ?_))) | k_extra "step")
      exact ⟨_, Wk.refl _, H _ rfl⟩
    · have hl : x.ps.length = a.length + 1 := by rw [hp]; simp
      have h1 : x.ps[((x.ps.length : Int) + -1).toNat]? = some q.av := by
        rw [hl, show (((a.length + 1 : Nat) : Int) + -1).toNat = a.length by omega, hp]; simp
      have h2 : (!isNil x.ps) = true := by rw [hp]; cases a <;> rfl
      have h3 : (a ++ [q]).getLast? = some q := by simp
      repeat' (first | k_extra "blk" | ((with_reducible refine at_ 528 ?_); refine ct_ahead (by first | decide | omega) ?_) | ((refine (?_ : _ ∧ _)); (with_reducible refine g_sub ?_); (first | (refine sub_n (by omega) (by omega) (by omega) (by assumption) ?_) | (refine sub_i (by omega) (by omega) (by assumption) ?_))) | k_extra "step")
      conv => whnf
      refine cond_bt h2 ?_
      repeat' (first | k_extra "blk" | ((with_reducible refine at_ 528 ?_); refine ct_ahead (by first | decide | omega) ?_) | ((refine (?_ : _ ∧ _)); (with_reducible refine g_sub ?_); (first | (refine sub_n (by omega) (by omega) (by omega) (by assumption) ?_) | (refine sub_i (by omega) (by omega) (by assumption) ?_))) | k_extra "step")
      cases e : q.disc with
      | true =>
        repeat' (first | k_extra "blk" | ((with_reducible refine at_ 528 ?_); refine ct_ahead (by first | decide | omega) ?_) | ((refine (?_ : _ ∧ _)); (with_reducible refine g_sub ?_); (first | (refine sub_n (by omega) (by omega) (by omega) (by assumption) ?_) | (refine sub_i (by omega) (by omega) (by assumption) ?_))) | k_extra "step")
        exact ⟨_, Wk.refl _, H none (by simp [pen, e])⟩
      | false =>
        repeat' (first | k_extra "blk" | ((with_reducible refine at_ 528 ?_); refine ct_ahead (by first | decide | omega) ?_) | ((refine (?_ : _ ∧ _)); (with_reducible refine g_sub ?_); (first | (refine sub_n (by omega) (by omega) (by omega) (by assumption) ?_) | (refine sub_i (by omega) (by omega) (by assumption) ?_))) | k_extra "step")
        exact ⟨_, Wk.refl _, H (some 0) (by simp [pen, e])⟩
  all_goals
    repeat' (first | k_extra "blk" | ((with_reducible refine at_ 528 ?_); refine ct_ahead (by first | decide | omega) ?_) | ((refine (?_ : _ ∧ _)); (with_reducible refine g_sub ?_); (first | (refine sub_n (by omega) (by omega) (by omega) (by assumption) ?_) | (refine sub_i (by omega) (by omega) (by assumption) ?_))) | k_extra "step")
    exact ⟨_, Wk.refl _, H _ rfl⟩
noncomputable def bcost (total goal shrink : Int) (st : St4) (p : Int) : Int :=
  if shrink < total - goal ∧ 0 ≤ total - goal then 1073741823 else if p ≤ -10000 then p else
    let bd := if 0 ≤ total - goal then bad (total - goal) shrink else if st.b ≠ 0 ∨ st.c ≠ 0 ∨ st.d ≠ 0 then 0 else bad (-(total - goal)) st.a
    if bd < 10000 then bd + p else 100000
theorem ct_cost (ok : 3 ≤ bud) {x : Bd} {p : Int} (hT : Wk σ.T (x.T ++ R)) (he : -1073741824 < x.total - x.goal ∧ x.total - x.goal < 1073741824) (hs : x.shrink < 1073741824) (ha : x.st.a < 1073741824)
    (H : ∀ r, r = bcost x.total x.goal x.shrink x.st p → k (.int r) ⟨σ.loc, x.T ++ R⟩) : CallT bud 843 [.ref x.b, .int p] σ k := by
  refine callD ok in_PageBuilder_cost false 60 [("self", .ref x.b), ("penalty", .int p)] (x.T) (R) rfl rfl (fun _ => .nil) (hT) (let s1 : AS := _; blk_cons (σ := s1) ?_)
  repeat' (first | k_extra "blk" | ((with_reducible refine at_ 164 ?_); refine ct_badness (by first | decide | omega) (by omega) (by omega) ?_; intro _ _) | ((refine (?_ : _ ∧ _)); (with_reducible refine g_sub ?_); (first | (refine sub_n (by omega) (by omega) (by omega) (by assumption) ?_) | (refine sub_i (by omega) (by omega) (by assumption) ?_))) | k_extra "step")
  all_goals exact ⟨_, Wk.refl _, H _ (by clear ok hT H; first | (simp [bcost, *]; done) | (simp [bcost, *]; omega))⟩
noncomputable abbrev Bst := Option (Int × Int × Int × Int)
noncomputable def bestA : Bst → AV
  | none => .none
  | some (a, b, c, d) => pageA a b c d
noncomputable def isPen : Nd → Bool
  | .pen _ => true
  | _ => false
noncomputable def better (bo : Bst) (c : Int) (n : Int × Int × Int × Int) : Bst := match bo with
  | none => some n
  | some (a, b, c', d) => if c ≤ c' then some n else some (a, b, c', d)
/-- a break at a place is tried: whether the page must end, and the best yet -/
noncomputable def tryS (len goal : Int) (bo : Bst) (ip : Bool) (cost : Int → Int) : Option Int → Bool × Bst
  | none => (false, bo)
  | some p => if 10000 ≤ p then (false, bo) else (decide (cost p = 1073741823 ∨ p ≤ -10000), better bo (cost p) (len, cond ip p 10000, cost p, goal))
theorem ct_tried (ok : 6 ≤ bud) {x : Bd} {nd : Nd} {pns rest : List Nd} {bo : Bst} (hT : Wk σ.T (x.T ++ R)) (hb : x.best = bestA bo) (hp : x.ps = pns.map Nd.av) (hc : x.cs = nd.av :: rest.map Nd.av) (hk : nd.kd = 5 → rest ≠ []) (hlen : pns.length ≤ 900)
    (he : -1073741824 < x.total - x.goal ∧ x.total - x.goal < 1073741824) (hs : x.shrink < 1073741824) (ha : x.st.a < 1073741824)
    (H : ∀ f bo', (f, bo') = tryS pns.length x.goal bo (isPen nd) (bcost x.total x.goal x.shrink x.st) (pen pns nd rest) → k (cond f (bestA bo') .none) ⟨σ.loc, Bd.T { x with best := bestA bo' } ++ R⟩) : CallT bud 850 [.ref x.b, nd.av] σ k := by
  have hl : x.ps.length = pns.length := by rw [hp]; simp
  have hT' : Wk σ.T (Bd.T { x with best := bestA bo } ++ R) := by rw [← hb]; exact hT
  rw [← hl] at H
  clear hT hb
  refine callD ok in_PageBuilder_tried false 60 [("self", .ref x.b), ("node", nd.av)] (Bd.T { x with best := bestA bo }) (R) rfl rfl (fun _ => .nil) (hT') (let s1 : AS := _; blk_cons (σ := s1) ?_)
  clear hT'
  repeat' (first | k_extra "blk" | ((with_reducible refine at_ 740 ?_); refine ct_Page (by first | decide | omega) ?_) | ((refine (?_ : _ ∧ _)); (with_reducible refine g_sub ?_); (first | (refine sub_n (by omega) (by omega) (by omega) (by assumption) ?_) | (refine sub_i (by omega) (by omega) (by assumption) ?_))) | k_extra "step")
  refine ct_penalty_ahead (by first | decide | omega) (x := { x with best := bestA bo }) (by repeat (first | exact Wk.refl _ | exact Wk.nil _ | refine Wk.pick (by repeat (first | exact Pick.head | apply Pick.tail)) ?_)) hp hc hk hlen fun r hr => ?_
  rw [← hr] at H
  cases r with
  | none =>
    repeat' (first | k_extra "blk" | ((with_reducible refine at_ 740 ?_); refine ct_Page (by first | decide | omega) ?_) | ((refine (?_ : _ ∧ _)); (with_reducible refine g_sub ?_); (first | (refine sub_n (by omega) (by omega) (by omega) (by assumption) ?_) | (refine sub_i (by omega) (by omega) (by assumption) ?_))) | k_extra "step")
    exact ⟨_, Wk.refl _, H false bo rfl⟩
  | some p =>
    by_cases h1 : 10000 ≤ p
    · repeat' (first | k_extra "blk" | ((with_reducible refine at_ 740 ?_); refine ct_Page (by first | decide | omega) ?_) | ((refine (?_ : _ ∧ _)); (with_reducible refine g_sub ?_); (first | (refine sub_n (by omega) (by omega) (by omega) (by assumption) ?_) | (refine sub_i (by omega) (by omega) (by assumption) ?_))) | k_extra "step")
      exact ⟨_, Wk.refl _, H false bo (by simp [tryS, h1])⟩
    · repeat' (first | k_extra "blk" | ((with_reducible refine at_ 740 ?_); refine ct_Page (by first | decide | omega) ?_) | ((refine (?_ : _ ∧ _)); (with_reducible refine g_sub ?_); (first | (refine sub_n (by omega) (by omega) (by omega) (by assumption) ?_) | (refine sub_i (by omega) (by omega) (by assumption) ?_))) | k_extra "step")
      refine ct_cost (by first | decide | omega) (x := { x with best := bestA bo }) (by repeat (first | exact Wk.refl _ | exact Wk.nil _ | refine Wk.pick (by repeat (first | exact Pick.head | apply Pick.tail)) ?_)) he hs ha fun c hcc => ?_
      have hcc' : bcost x.total x.goal x.shrink x.st p = c := hcc.symm
      simp only [tryS, h1, if_false, hcc'] at H
      clear hcc hcc' he hs ha hc hp hk ok
      rcases nd with ⟨_ | _, w, h, d', sh⟩ | ⟨h, d'⟩ | w | ⟨g, so, l⟩ | v | _ | _
      all_goals try (simp [pen] at hr; done)
      all_goals clear hr
      all_goals
        rcases bo with _ | ⟨a1, a2, a3, a4⟩
      all_goals (repeat' (first | k_extra "blk" | ((with_reducible refine at_ 740 ?_); refine ct_Page (by first | decide | omega) ?_) | ((refine (?_ : _ ∧ _)); (with_reducible refine g_sub ?_); (first | (refine sub_n (by omega) (by omega) (by omega) (by assumption) ?_) | (refine sub_i (by omega) (by omega) (by assumption) ?_))) | k_extra "loop" | k_extra "step"))
      all_goals first
        | exact ⟨Bd.T { x with best := bestA (some (x.ps.length, 10000, c, x.goal)) }, Wk.refl _, H true (some (x.ps.length, 10000, c, x.goal)) (by (simp only [better, isPen, Prod.mk.injEq]; first | (simp [*]; done) | (simp [*]; (try intro _); exfalso; omega) | (simp [*]; omega)))⟩
        | exact ⟨Bd.T { x with best := bestA (some (x.ps.length, 10000, c, x.goal)) }, Wk.refl _, H false (some (x.ps.length, 10000, c, x.goal)) (by (simp only [better, isPen, Prod.mk.injEq]; first | (simp [*]; done) | (simp [*]; (try intro _); exfalso; omega) | (simp [*]; omega)))⟩
        | exact ⟨Bd.T { x with best := bestA (some (x.ps.length, p, c, x.goal)) }, Wk.refl _, H true (some (x.ps.length, p, c, x.goal)) (by (simp only [better, isPen, Prod.mk.injEq]; first | (simp [*]; done) | (simp [*]; (try intro _); exfalso; omega) | (simp [*]; omega)))⟩
        | exact ⟨Bd.T { x with best := bestA (some (x.ps.length, p, c, x.goal)) }, Wk.refl _, H false (some (x.ps.length, p, c, x.goal)) (by (simp only [better, isPen, Prod.mk.injEq]; first | (simp [*]; done) | (simp [*]; (try intro _); exfalso; omega) | (simp [*]; omega)))⟩
        | exact ⟨Bd.T { x with best := bestA (some (a1, a2, a3, a4)) }, Wk.refl _, by first | exact H true (some (a1, a2, a3, a4)) (by (simp only [better, isPen, Prod.mk.injEq]; first | (simp [*]; done) | (simp [*]; (try intro _); exfalso; omega) | (simp [*]; omega))) | exact H false (some (a1, a2, a3, a4)) (by (simp only [better, isPen, Prod.mk.injEq]; first | (simp [*]; done) | (simp [*]; (try intro _); exfalso; omega) | (simp [*]; omega)))⟩
/-- what a node adds to the page's sums -/
noncomputable def Nd.sum (total depth shrink : Int) (st : St4) : Nd → Int × Int × Int × St4
  | .skip g _ _ => (total + (depth + g.w), 0, shrink + g.p, st.add g.o g.s)
  | .kern w => (total + (depth + w), 0, shrink, st)
  | .box _ _ h d _ => (total + (depth + h), d, shrink, st)
  | .rule h d => (total + (depth + Nd.ht (.rule h d)), d, shrink, st)
  | _ => (total, depth, shrink, st)
noncomputable def Bd.take (x : Bd) (nd : Nd) : Bd :=
  let q := nd.sum x.total x.depth x.shrink x.st
  { x with total := if x.most < q.2.1 then q.1 + (q.2.1 - x.most) else q.1, depth := if x.most < q.2.1 then x.most else q.2.1, shrink := q.2.2.1, st := q.2.2.2, ps := x.ps ++ [nd.av], cs := x.cs.tail }
noncomputable def Bd.T1 (x : Bd) (cs : List AV) : Led := [(x.b, .inst 874 x.d x.fs), (x.co, .list cs), (x.pg, .list x.ps), (x.sa, .list x.st.avs)]
theorem ct_take (ok : 4 ≤ bud) {x : Bd} {nd : Nd} {r : List AV} (hT : Wk σ.T (x.T ++ R)) (hc : x.cs = nd.av :: r) (hp : x.ps.length ≤ 900) (hr : x.cs.length ≤ 900) (H : k .none ⟨σ.loc, (x.take nd).T ++ R⟩) : CallT bud 857 [.ref x.b, nd.av, .none] σ k := by
  have hT' : Wk σ.T (x.T1 (nd.av :: r) ++ R) := by rw [← hc]; exact hT
  rw [hc, List.length_cons] at hr
  have e1 : x.cs.tail = r := by rw [hc]; rfl
  refine callD ok in_PageBuilder_take false 60 [("self", .ref x.b), ("node", nd.av), ("classes", .none)] (x.T1 (nd.av :: r)) (R) rfl rfl (fun _ => .nil) (hT') (let s1 : AS := _; blk_cons (σ := s1) ?_)
  clear hT hT'
  rcases nd with ⟨_ | _, w, h, d, sh⟩ | ⟨h, d⟩ | w | ⟨⟨gw, gs, _ | _ | _ | _, gp⟩, so, u⟩ | v | _ | _ <;> (repeat' (first | k_extra "blk" | ((with_reducible refine at_ 500 ?_); (first | refine ct_depth (by first | decide | omega) ?_ | refine ct_depthB (by first | decide | omega) (by omega) ?_)) | ((with_reducible refine at_ 495 ?_); (first | refine ct_height (by first | decide | omega) ?_ | refine ct_heightB (by first | decide | omega) (by omega) ?_)) | ((refine (?_ : _ ∧ _)); (with_reducible refine g_sub ?_); (first | (refine sub_n (by omega) (by omega) (by omega) (by assumption) ?_) | (refine sub_i (by omega) (by omega) (by assumption) ?_))) | k_extra "step"))
  all_goals
    clear ok
    try dsimp only [Nd.dp, Nd.ht] at *
    simp only [Bd.take, Nd.sum, Nd.ht, e1, if_true, if_false, *] at H
    exact ⟨_, Wk.refl _, H⟩
theorem ct_contribute (ok : 1 ≤ bud) {x : Bd} {xs : List AV} {ns : List Nd} (hx : xs = ns.map Nd.av) (hl : x.cs.length + xs.length ≤ 900) (hT : Wk σ.T (x.T ++ R)) (H : k .none ⟨σ.loc, Bd.T { x with cs := x.cs ++ xs } ++ R⟩) : CallT bud 808 [.ref x.b, .lst xs] σ k := by
  refine callD ok in_PageBuilder_contribute false 60 [("self", .ref x.b), ("items", .lst xs)] (x.T) (R) rfl rfl (fun _ => .nil) (hT) (let s1 : AS := _; blk_cons (σ := s1) ?_)
  repeat' (first | k_extra "blk" | k_extra "step")
  refine forK_abs fun F step done => ?_
  have key : ∀ ns : List Nd, F (ns.map Nd.av) ⟨[("self", .ref x.b), ("items", .lst xs)], x.T⟩ := by
    intro ns
    induction ns with
    | nil =>
      refine done _ ?_
      repeat' (first | k_extra "blk" | k_extra "step")
      exact ⟨Bd.T { x with cs := x.cs ++ xs }, Wk.refl _, H⟩
    | cons nd ns ih =>
      refine step _ _ _ ?_
      rcases nd with ⟨_ | _, w, h, d, sh⟩ | ⟨_ | h, d⟩ | w | ⟨g, so, _ | u⟩ | v | _ | _ <;> (repeat' (first | k_extra "blk" | k_extra "step"))
      all_goals exact ease_to [("self", .ref x.b), ("items", .lst xs)] x.T (by repeat (first | exact True.intro | refine And.intro rfl ?_)) (Wk.refl _) ih
  have := key ns
  rw [← hx] at this
  exact this
noncomputable def Bd.new (b d co he pg sa : Addr) (vs md : Int) : Bd := ⟨b, d, co, he, pg, sa, vs, md, 0, 0, 0, 0, .none, 0, 0, 0, 0, Gl.av ⟨0, 0, .o0, 0⟩, ⟨0, 0, 0, 0⟩, [], []⟩
noncomputable def bd5 (vs md : Int) (co he : Addr) : List (Str × AV) := [("vsize", .int vs), ("max_depth", .int md), ("no_glue", Gl.av ⟨0, 0, .o0, 0⟩), ("contributions", .ref co), ("held", .ref he)]
noncomputable def bd7 (vs md : Int) (co he pg : Addr) : List (Str × AV) := [("vsize", .int vs), ("max_depth", .int md), ("no_glue", Gl.av ⟨0, 0, .o0, 0⟩), ("contributions", .ref co), ("held", .ref he), ("page", .ref pg), ("state", .int 0)]
noncomputable def bd12 (vs md : Int) (co he pg sa : Addr) : List (Str × AV) := [("vsize", .int vs), ("max_depth", .int md), ("no_glue", Gl.av ⟨0, 0, .o0, 0⟩), ("contributions", .ref co), ("held", .ref he), ("page", .ref pg), ("state", .int 0), ("total", .int 0), ("stretch", .ref sa), ("shrink", .int 0), ("depth", .int 0), ("best", .none)]
theorem ct_clear0 (ok : 1 ≤ bud) {b d co he pg : Addr} {vs md : Int} (hT : Wk σ.T ([(b, .inst 874 d (bd7 vs md co he pg))] ++ R)) (H : ∀ sa, k .none ⟨σ.loc, [(b, .inst 874 d (bd12 vs md co he pg sa)), (sa, .list [.int 0, .int 0, .int 0, .int 0])] ++ R⟩) : CallT bud 773 [.ref b] σ k := by
  refine callD ok in_PageBuilder_clear true 60 [("self", .ref b)] ([(b, .inst 874 d (bd7 vs md co he pg))]) (R) rfl rfl (fun _ => .nil) (hT) (let s1 : AS := _; blk_cons (σ := s1) ?_)
  repeat' (first | k_extra "blk" | k_extra "step")
  exact ⟨[(b, .inst 874 d (bd12 vs md co he pg _)), (_, .list [.int 0, .int 0, .int 0, .int 0])], by repeat (first | exact Wk.refl _ | exact Wk.nil _ | refine Wk.pick (by repeat (first | exact Pick.head | apply Pick.tail)) ?_), H _⟩
theorem ct_start0 (ok : 2 ≤ bud) {b d co he : Addr} {vs md : Int} (hT : Wk σ.T ([(b, .inst 874 d (bd5 vs md co he)), (co, .list [])] ++ R)) (H : ∀ pg sa, k .none ⟨σ.loc, (Bd.new b d co he pg sa vs md).T ++ R⟩) : CallT bud 766 [.ref b] σ k := by
  refine callD ok in_PageBuilder_start true 60 [("self", .ref b)] ([(b, .inst 874 d (bd5 vs md co he)), (co, .list [])]) (R) rfl rfl (fun _ => .nil) (hT) (let s1 : AS := _; blk_cons (σ := s1) ?_)
  repeat' (first | k_extra "blk" | k_extra "step")
  refine ct_clear0 (by first | decide | omega) (b := b) (d := d) (co := co) (he := he) (vs := vs) (md := md) (by repeat (first | exact Wk.refl _ | exact Wk.nil _ | refine Wk.pick (by repeat (first | exact Pick.head | apply Pick.tail)) ?_)) fun sa => ?_
  repeat' (first | k_extra "blk" | k_extra "step")
  exact ⟨(Bd.new b d co he _ sa vs md).T, by repeat (first | exact Wk.refl _ | exact Wk.nil _ | refine Wk.pick (by repeat (first | exact Pick.head | apply Pick.tail)) ?_), H _ _⟩
theorem ct_PageBuilder (ok : 6 ≤ bud) {vs md : Int} (h1 : -1073741823 ≤ vs ∧ vs ≤ 1073741823) (h2 : -1073741823 ≤ md ∧ md ≤ 1073741823) (H : ∀ b d co he pg sa, k (.ref b) ⟨σ.loc, (Bd.new b d co he pg sa vs md).T ++ σ.T⟩) : CallT bud 874 [.int vs, .int md] σ k := by
  refine callC ok rfl fun x d ok => ?_
  refine callD ok in_PageBuilder_init true 60 [("self", .ref x), ("vsize", .int vs), ("max_depth", .int md)] ([(x, .inst 874 d [])]) (σ.T) rfl rfl (fun _ => .nil) (Wk.refl _) (let s1 : AS := _; blk_cons (σ := s1) ?_)
  repeat' (first | k_extra "blk" | ((with_reducible refine at_ 122 ?_); refine ct_check_dimen (by first | decide | omega) (by omega) ?_) | k_extra "step")
  refine ct_Glue0 (by first | decide | omega) ?_
  repeat' (first | k_extra "blk" | ((with_reducible refine at_ 122 ?_); refine ct_check_dimen (by first | decide | omega) (by omega) ?_) | k_extra "step")
  refine ct_start0 (by first | decide | omega) (b := x) (d := d) (vs := vs) (md := md) (by repeat (first | exact Wk.refl _ | exact Wk.nil _ | refine Wk.pick (by repeat (first | exact Pick.head | apply Pick.tail)) ?_)) fun pg sa => ?_
  repeat' (first | k_extra "blk" | ((with_reducible refine at_ 122 ?_); refine ct_check_dimen (by first | decide | omega) (by omega) ?_) | k_extra "step")
  exact ⟨(Bd.new x d _ _ pg sa vs md).T, by repeat (first | exact Wk.refl _ | exact Wk.nil _ | refine Wk.pick (by repeat (first | exact Pick.head | apply Pick.tail)) ?_), rfl, H _ _ _ _ _ _⟩
noncomputable def NOk (u : Int) : Nd → Prop
  | .box _ w h d sh => (0 ≤ w ∧ w ≤ u) ∧ (-u ≤ h ∧ h ≤ 10 * u) ∧ (-u ≤ d ∧ d ≤ 4 * u) ∧ (-(3 * u) ≤ sh ∧ sh ≤ 3 * u)
  | .rule h d => (∀ i, h = some i → -u ≤ i ∧ i ≤ 10 * u) ∧ (-u ≤ d ∧ d ≤ 4 * u)
  | .kern w => -(3 * u) ≤ w ∧ w ≤ 3 * u
  | .skip g _ _ => (-u ≤ g.w ∧ g.w ≤ 6 * u) ∧ (-u ≤ g.s ∧ g.s ≤ 5 * u) ∧ (0 ≤ g.p ∧ g.p ≤ 2 * u)
  | .pen v => -2147483647 ≤ v ∧ v ≤ 2147483647
  | .mark => True
  | .spec => True
noncomputable def lcost (pre : List Nd) (goal deep p : Int) : Int :=
  let S := Sm.zero.run pre
  let q := if isN pre then (0, 0) else rep (goal - S.capN deep) S.st S.p
  if q.1 = 3 then 1073741823 else if p ≤ -10000 then p else if q.2 < 10000 then q.2 + p else 100000
noncomputable def scan (goal deep : Int) : List Nd → List Nd → Bst → Int × Bst
  | _, [], bo => (-1, bo)
  | pre, nd :: rest, bo => match tryS pre.length goal bo (isPen nd) (lcost pre goal deep) (pen pre nd rest) with
    | (true, bo') => (pre.length, bo')
    | (false, bo') => scan goal deep (pre ++ [nd]) rest bo'
noncomputable def endK : List Nd → Bool
  | [] => false
  | [.kern _] => true
  | _ :: r => endK r
theorem endKern (pns : List Nd) (w : Int) : endK (pns ++ [.kern w]) = true := by
  induction pns with
  | nil => rfl
  | cons a r ih => cases r <;> cases a <;> simp_all [endK]
structure Inv (u : Int) (x : Bd) (pns cns : List Nd) (bo : Bst) (M : Nat) : Prop where
  u1 : 1 ≤ u ∧ u ≤ 1500007
  vs : -u ≤ x.vs ∧ x.vs ≤ 27 * u
  md : 0 ≤ x.md ∧ x.md ≤ 30 * u
  ps : x.ps = pns.map Nd.av
  cs : x.cs = cns.map Nd.av
  st : (x.state = 0 ∧ (∀ n ∈ pns, n.kd = 9 ∨ n.kd = 13) ∧ x.most = 0 ∧ x.goal = 0 ∧ bo = none) ∨ (x.state = 2 ∧ x.goal = x.vs ∧ x.most = x.md ∧ (pns = [] → ∃ g s l r, cns = .skip g s l :: r))
  okp : ∀ n ∈ pns, NOk u n
  okc : ∀ n ∈ cns, NOk u n
  tot : x.total = (Sm.zero.run pns).capN x.md
  dep : x.depth = (Sm.zero.run pns).capD x.md
  shr : x.shrink = (Sm.zero.run pns).p
  str : x.st = (Sm.zero.run pns).st
  best : x.best = bestA bo
  bq : ∀ q : Int × Int × Int × Int, bo = some q → 0 ≤ q.1 ∧ q.1 ≤ pns.length
  ek : endK pns = true → cns ≠ []
  sc : ∀ rest, (endK pns = true → cns ≠ [] ∧ rest.head? = cns.head?) → scan x.vs x.md [] (pns ++ rest) none = scan x.vs x.md pns rest bo
  cnt : pns.length + cns.length + (if x.state = 0 then 1 else 0) ≤ M
theorem run_snoc (S : Sm) (ns : List Nd) (nd : Nd) : S.run (ns ++ [nd]) = (S.run ns).step nd := by simp [Sm.run, List.foldl_append]
theorem kd_cases {nd : Nd} (h : nd.kd = 9 ∨ nd.kd = 13) : nd = .mark ∨ nd = .spec := by
  rcases nd with ⟨_ | _, w, h, d, sh⟩ | ⟨h, d⟩ | w | ⟨g, so, l⟩ | v | _ | _ <;> simp [Nd.kd] at *
theorem run_zero : ∀ (ns : List Nd) (S : Sm), (∀ n ∈ ns, n.kd = 9 ∨ n.kd = 13) → S.n = 0 → S.d = 0 → S.p = 0 → S.st = ⟨0, 0, 0, 0⟩ → (S.run ns).n = 0 ∧ (S.run ns).d = 0 ∧ (S.run ns).p = 0 ∧ (S.run ns).st = ⟨0, 0, 0, 0⟩
  | [], S, _, a, b, c, d => ⟨a, b, c, d⟩
  | nd :: ns, S, h, a, b, c, d => by
    have h1 := kd_cases (h nd (.head _))
    have ih := run_zero ns (S.step nd) (fun n hn => h n (.tail _ hn))
    rcases h1 with rfl | rfl <;> exact ih a b c d
structure Bnd (u t : Int) (S : Sm) : Prop where
  n : -(4 * t) ≤ S.n ∧ S.n ≤ 14 * t
  d : -u ≤ S.d ∧ S.d ≤ 4 * u
  p : 0 ≤ S.p ∧ S.p ≤ 2 * t
  a : S.st.a ≤ 5 * t
  w : 0 ≤ S.w ∧ S.w ≤ 4 * u
theorem Bnd.step {u t : Int} {S : Sm} {nd : Nd} (hu : 1 ≤ u) (h : NOk u nd) (b : Bnd u t S) : Bnd u (t + u) (S.step nd) := by
  obtain ⟨b1, b2, b3, b4, b5⟩ := b
  rcases nd with ⟨v, w, ht, d, sh⟩ | ⟨_ | ht, d⟩ | w | ⟨⟨gw, gs, _ | _ | _ | _, gp⟩, so, l⟩ | v | _ | _ <;> simp only [NOk] at h
  case rule.some =>
    have := h.1 ht rfl
    constructor <;> simp only [Sm.step, Nd.ht] <;> omega
  all_goals constructor <;> simp only [Sm.step, Nd.ht, St4.add] <;> omega
theorem Bnd.run {u : Int} (hu : 1 ≤ u) : ∀ (ns : List Nd) (t : Int) (S : Sm), (∀ n ∈ ns, NOk u n) → Bnd u t S → Bnd u (t + ns.length * u) (S.run ns)
  | [], t, S, _, b => by rw [show t + (([] : List Nd).length : Int) * u = t by simp]; exact b
  | nd :: ns, t, S, h, b => by
    have := Bnd.run hu ns (t + u) (S.step nd) (fun n hn => h n (.tail _ hn)) (b.step hu (h nd (.head _)))
    rw [show t + ((nd :: ns).length : Int) * u = t + u + ns.length * u by simp [Int.add_mul]; omega]
    exact this
theorem Bnd.of {u : Int} {ns : List Nd} (hu : 1 ≤ u) (h : ∀ n ∈ ns, NOk u n) (hl : ns.length ≤ 40) : ∃ t, 0 ≤ t ∧ t ≤ 40 * u ∧ Bnd u t (Sm.zero.run ns) := by
  have := Bnd.run hu ns 0 Sm.zero h ⟨by simp [Sm.zero], by simp [Sm.zero]; omega, by simp [Sm.zero], by simp [Sm.zero], by simp [Sm.zero]; omega⟩
  exact ⟨0 + ns.length * u, by have := Int.mul_nonneg (show 0 ≤ (ns.length : Int) by omega) (show 0 ≤ u by omega); omega, by have := Int.mul_le_mul_of_nonneg_right (show (ns.length : Int) ≤ 40 by omega) (show 0 ≤ u by omega); omega, this⟩
theorem Sm.cap_le (S : Sm) (deep : Int) : (S.n ≤ S.capN deep ∧ (S.capN deep ≤ S.n ∨ S.capN deep ≤ S.n + S.d - deep)) ∧ ((S.d ≤ deep ∧ S.capD deep = S.d) ∨ (deep < S.d ∧ S.capD deep = deep)) := by
  unfold Sm.capN Sm.capD
  split <;> omega
theorem bad_zero (t : Int) : bad 0 t = 0 := by simp [bad]
theorem cost_eq {pre : List Nd} (hpre : isN pre = false) {goal deep p : Int} (h0 : 0 ≤ (Sm.zero.run pre).p) :
    lcost pre goal deep p = bcost ((Sm.zero.run pre).capN deep) goal (Sm.zero.run pre).p (Sm.zero.run pre).st p := by
  simp only [lcost, bcost, hpre, Bool.false_eq_true, if_false, rep]
  generalize (Sm.zero.run pre) = S at *
  generalize S.capN deep = T
  have neg : -(T - goal) = goal - T := by omega
  have neg2 : -(goal - T) = T - goal := by omega
  by_cases e : goal - T = 0
  · have e2 : T - goal = 0 := by omega
    have n1 : ¬ S.p < 0 := by omega
    simp [e, e2, n1, bad_zero]
  · by_cases e1 : 0 < goal - T
    · have n1 : ¬ 0 ≤ T - goal := by omega
      have n2 : ¬ goal ≤ T := by omega
      have n3 : T < goal := by omega
      rcases S.st.top_cases with ⟨a, b, c, d⟩ | ⟨a, b⟩ | ⟨a, b⟩ | ⟨a, b⟩ <;> simp [e, n2, n3, a, b, neg, *]
    · have n1 : 0 ≤ T - goal := by omega
      have n2 : goal ≤ T := by omega
      have n3 : ¬ T < goal := by omega
      by_cases e3 : S.p < T - goal
      · simp [e, n2, n3, e3, neg2]
      · simp [e, n2, n3, e3, neg2]
theorem tryS_congr {len g g' : Int} {bo : Bst} {ip : Bool} {c c' : Int → Int} {o : Option Int} (hg : o ≠ none → g = g') (hc : ∀ p, o = some p → c p = c' p) : tryS len g bo ip c o = tryS len g' bo ip c' o := by
  cases o with
  | none => rfl
  | some p => simp only [tryS, hc p rfl, hg (by simp)]
theorem pen_congr {pns : List Nd} {nd : Nd} {r r' : List Nd} (h : nd.kd = 5 → r ≠ [] ∧ r'.head? = r.head?) : pen pns nd r' = pen pns nd r := by
  rcases nd with ⟨v, w, ht, d, sh⟩ | ⟨ht, d⟩ | w | ⟨g, so, l⟩ | v | _ | _ <;> try rfl
  obtain ⟨h1, h2⟩ := h rfl
  cases r with
  | nil => exact absurd rfl h1
  | cons a r => cases r' with
    | nil => simp at h2
    | cons b r' => simp only [List.head?_cons, Option.some.injEq] at h2; subst h2; rfl
theorem Inv.pnn {u : Int} {x : Bd} {pns cns : List Nd} {bo : Bst} {M : Nat} (hM : M ≤ 40) (I : Inv u x pns cns bo M) : 0 ≤ (Sm.zero.run pns).p := by
  have := I.cnt
  obtain ⟨t, _, _, b⟩ := Bnd.of I.u1.1 I.okp (by omega)
  exact b.p.1
theorem inv_try {u : Int} {x : Bd} {pns rest : List Nd} {nd : Nd} {bo : Bst} {M : Nat} (hM : M ≤ 40) (I : Inv u x pns (nd :: rest) bo M) (h0 : x.state = 0 → nd.kd = 9 ∨ nd.kd = 13) :
    tryS pns.length x.vs bo (isPen nd) (lcost pns x.vs x.md) (pen pns nd rest) = tryS pns.length x.goal bo (isPen nd) (bcost x.total x.goal x.shrink x.st) (pen pns nd rest) := by
  rcases I.st with ⟨s0, -, -, -, -⟩ | ⟨s2, g2, m2, q⟩
  · have : pen pns nd rest = none := by rcases kd_cases (h0 s0) with rfl | rfl <;> rfl
    rw [this]; rfl
  · refine tryS_congr (fun _ => g2.symm) fun p hp => ?_
    have hn : isN pns = false := by
      cases pns with
      | cons a r => rfl
      | nil =>
        obtain ⟨g, s, l, r, e⟩ := q rfl
        simp only [List.cons.injEq] at e
        rw [e.1] at hp
        simp [pen] at hp
    rw [cost_eq hn (I.pnn hM), ← I.tot, ← I.shr, ← I.str, g2]
theorem endK_snoc (pns : List Nd) (nd : Nd) : endK (pns ++ [nd]) = true → nd.kd = 5 := by
  induction pns with
  | nil => cases nd <;> simp [endK, Nd.kd]
  | cons a r ih => cases r <;> cases a <;> simp_all [endK]
theorem endK_marks (pns : List Nd) (h : ∀ n ∈ pns, n.kd = 9 ∨ n.kd = 13) : endK pns = false := by
  rcases List.eq_nil_or_concat pns with rfl | ⟨a, l, rfl⟩
  · rfl
  · have := h l (by simp)
    cases e : endK (a ++ [l]) with
    | false => simpa using e
    | true =>
      have := endK_snoc _ _ e
      omega
theorem inv_begin {u : Int} {x : Bd} {pns rest : List Nd} {nd : Nd} {bo : Bst} {M : Nat} {g : Gl} {o' : Or4} {sa : Addr} (I : Inv u x pns (nd :: rest) bo M) (h0 : x.state = 0) (hkd : nd.kd = 2 ∨ nd.kd = 3 ∨ nd.kd = 4) (hg : NOk u (.skip g 0 none)) (hg5 : g.w ≤ 5 * u) :
    Inv u { x with total := 0, sa := sa, st := ⟨0, 0, 0, 0⟩, shrink := 0, depth := 0, best := .none, state := 2, goal := x.vs, most := x.md, cs := Nd.av (.skip ⟨max (g.w - nd.ht) 0, g.s, o', g.p⟩ 107 none) :: x.cs } pns (.skip ⟨max (g.w - nd.ht) 0, g.s, o', g.p⟩ 107 none :: nd :: rest) none M := by
  obtain ⟨hm, hmo, hgo, hbo⟩ : (∀ n ∈ pns, n.kd = 9 ∨ n.kd = 13) ∧ x.most = 0 ∧ x.goal = 0 ∧ bo = none := by
    rcases I.st with ⟨_, a, b, c, d⟩ | ⟨s, _⟩
    · exact ⟨a, b, c, d⟩
    · omega
  subst hbo
  have hu := I.u1
  have hmd := I.md
  obtain ⟨z1, z2, z3, z4⟩ := run_zero pns Sm.zero hm rfl rfl rfl rfl
  have hk := endK_marks pns hm
  have hht : -u ≤ nd.ht := by
    have := I.okc nd (.head _)
    rcases nd with ⟨v, w, ht, d, sh⟩ | ⟨_ | ht, d⟩ | w | ⟨g, so, _ | l⟩ | v | _ | _ <;> simp only [NOk] at this <;> simp only [Nd.ht, Nd.kd] at hkd ⊢ <;> try omega
    · have := this.1 ht rfl; omega
  refine ⟨I.u1, I.vs, I.md, I.ps, ?_, .inr ⟨rfl, rfl, rfl, fun _ => ⟨_, _, _, _, rfl⟩⟩, I.okp, ?_, ?_, ?_, z3.symm, z4.symm, rfl, (by intro q e; cases e), (fun e => by simp), ?_, ?_⟩
  · show _ :: x.cs = _
    rw [I.cs]; rfl
  · intro n hn
    rcases List.mem_cons.mp hn with rfl | hn
    · simp only [NOk] at hg ⊢; omega
    · exact I.okc n hn
  · show (0 : Int) = _
    simp only [Sm.capN, z1, z2]; split <;> omega
  · show (0 : Int) = _
    simp only [Sm.capD, z2]; split <;> omega
  · intro r _
    exact I.sc r (by rw [hk]; intro e; cases e)
  · have := I.cnt
    rw [if_pos h0] at this
    simp only [List.length_cons] at *
    simp; omega
theorem inv_drop {u : Int} {x : Bd} {pns rest : List Nd} {nd : Nd} {bo : Bst} {M : Nat} (I : Inv u x pns (nd :: rest) bo M) (h0 : x.state = 0) : Inv u { x with cs := rest.map Nd.av } pns rest bo M := by
  obtain ⟨hm, hmo, hgo, hbo⟩ : (∀ n ∈ pns, n.kd = 9 ∨ n.kd = 13) ∧ x.most = 0 ∧ x.goal = 0 ∧ bo = none := by
    rcases I.st with ⟨_, a, b, c, d⟩ | ⟨s, _⟩
    · exact ⟨a, b, c, d⟩
    · omega
  have hk := endK_marks pns hm
  refine ⟨I.u1, I.vs, I.md, I.ps, rfl, .inl ⟨h0, hm, hmo, hgo, hbo⟩, I.okp, fun n hn => I.okc n (.tail _ hn), I.tot, I.dep, I.shr, I.str, I.best, I.bq, (by rw [hk]; intro e; cases e), ?_, ?_⟩
  · intro r _
    exact I.sc r (by rw [hk]; intro e; cases e)
  · have := I.cnt
    simp only [List.length_cons] at *
    omega
theorem better_q {bo : Bst} {c : Int} {n q : Int × Int × Int × Int} (h : better bo c n = some q) : q = n ∨ bo = some q := by
  rcases bo with _ | ⟨a, b, c', d⟩
  · simp only [better, Option.some.injEq] at h; exact .inl h.symm
  · simp only [better] at h
    split at h
    · simp only [Option.some.injEq] at h; exact .inl h.symm
    · exact .inr h
theorem tryS_q {len g : Int} {bo bo' : Bst} {ip f : Bool} {c : Int → Int} {o : Option Int} (h : (f, bo') = tryS len g bo ip c o) {q : Int × Int × Int × Int} (hq : bo' = some q) : q.1 = len ∨ bo = some q := by
  subst hq
  cases o with
  | none => simp only [tryS, Prod.mk.injEq] at h; exact .inr h.2.symm
  | some p =>
    simp only [tryS] at h
    split at h
    · simp only [Prod.mk.injEq] at h; exact .inr h.2.symm
    · simp only [Prod.mk.injEq] at h
      rcases better_q h.2.symm with e | e
      · exact .inl (by rw [e])
      · exact .inr e
theorem tryS_some {len g : Int} {bo bo' : Bst} {ip : Bool} {c : Int → Int} {o : Option Int} (h : (true, bo') = tryS len g bo ip c o) : ∃ q : Int × Int × Int × Int, bo' = some q := by
  cases o with
  | none => simp [tryS] at h
  | some p =>
    simp only [tryS] at h
    split at h
    · simp at h
    · simp only [Prod.mk.injEq] at h
      rw [h.2]
      rcases bo with _ | ⟨a, b, c', d⟩
      · exact ⟨_, rfl⟩
      · simp only [better]; split <;> exact ⟨_, rfl⟩
theorem scan_cons (goal deep : Int) (pre rest : List Nd) (nd : Nd) (bo : Bst) : scan goal deep pre (nd :: rest) bo = match tryS pre.length goal bo (isPen nd) (lcost pre goal deep) (pen pre nd rest) with
    | (true, bo') => (pre.length, bo')
    | (false, bo') => scan goal deep (pre ++ [nd]) rest bo' := rfl
theorem inv_sc {u : Int} {x : Bd} {pns rest r' : List Nd} {nd : Nd} {bo bo' : Bst} {M : Nat} {f : Bool} (hM : M ≤ 40) (I : Inv u x pns (nd :: rest) bo M) (h0 : x.state = 0 → nd.kd = 9 ∨ nd.kd = 13) (hr : nd.kd = 5 → rest ≠ [] ∧ r'.head? = rest.head?)
    (ht : (f, bo') = tryS pns.length x.goal bo (isPen nd) (bcost x.total x.goal x.shrink x.st) (pen pns nd rest)) : scan x.vs x.md [] (pns ++ nd :: r') none = cond f ((pns.length : Int), bo') (scan x.vs x.md (pns ++ [nd]) r' bo') := by
  rw [I.sc (nd :: r') (fun _ => ⟨by simp, rfl⟩)]
  rw [scan_cons, pen_congr hr, inv_try hM I h0, ← ht]
  cases f <;> rfl
theorem sum_step (S : Sm) (md : Int) (nd : Nd) : (((nd.sum (S.capN md) (S.capD md) S.p S.st).1 = (S.step nd).n ∧ (nd.sum (S.capN md) (S.capD md) S.p S.st).2.1 = (S.step nd).d) ∨ ((nd.sum (S.capN md) (S.capD md) S.p S.st).1 = S.capN md ∧ (nd.sum (S.capN md) (S.capD md) S.p S.st).2.1 = S.capD md ∧ (S.step nd).n = S.n ∧ (S.step nd).d = S.d)) ∧
    (nd.sum (S.capN md) (S.capD md) S.p S.st).2.2.1 = (S.step nd).p ∧ (nd.sum (S.capN md) (S.capD md) S.p S.st).2.2.2 = (S.step nd).st := by
  have hs : ∀ h, S.capN md + (S.capD md + h) = S.n + (S.d + h) := fun h => by
    have : S.capN md + S.capD md = S.n + S.d := by unfold Sm.capN Sm.capD; split <;> omega
    omega
  have hs2 : ∀ h, S.capN md + (S.capD md + h) = S.n + S.d + h := fun h => (hs h).trans (Int.add_assoc _ _ _).symm
  cases nd with
  | box => exact ⟨.inl ⟨hs _, rfl⟩, rfl, rfl⟩
  | rule => exact ⟨.inl ⟨hs _, rfl⟩, rfl, rfl⟩
  | kern => exact ⟨.inl ⟨hs _, rfl⟩, rfl, rfl⟩
  | skip => exact ⟨.inl ⟨hs2 _, rfl⟩, rfl, rfl⟩
  | _ => exact ⟨.inr ⟨rfl, rfl, rfl, rfl⟩, rfl, rfl⟩
theorem take_sum {x : Bd} {S : Sm} (b : AV) (nd : Nd) (e1 : x.total = S.capN x.md) (e2 : x.depth = S.capD x.md) (e3 : x.shrink = S.p) (e4 : x.st = S.st) (m2 : x.most = x.md) :
    (Bd.take { x with best := b } nd).total = (S.step nd).capN x.md ∧ (Bd.take { x with best := b } nd).depth = (S.step nd).capD x.md ∧ (Bd.take { x with best := b } nd).shrink = (S.step nd).p ∧ (Bd.take { x with best := b } nd).st = (S.step nd).st := by
  have q := sum_step S x.md nd
  rw [← e1, ← e2, ← e3, ← e4] at q
  obtain ⟨q12, q3, q4⟩ := q
  refine ⟨?_, ?_, q3, q4⟩
  · show (if x.most < (nd.sum x.total x.depth x.shrink x.st).2.1 then (nd.sum x.total x.depth x.shrink x.st).1 + ((nd.sum x.total x.depth x.shrink x.st).2.1 - x.most) else (nd.sum x.total x.depth x.shrink x.st).1) = (S.step nd).capN x.md
    rcases q12 with ⟨a, b⟩ | ⟨a, b, c, d⟩
    · rw [a, b, m2]; rfl
    · have : S.capD x.md ≤ x.md := by unfold Sm.capD; split <;> omega
      rw [a, b, m2, e2, if_neg (Int.not_lt.mpr this), e1]
      unfold Sm.capN
      rw [c, d]
  · show (if x.most < (nd.sum x.total x.depth x.shrink x.st).2.1 then x.most else (nd.sum x.total x.depth x.shrink x.st).2.1) = (S.step nd).capD x.md
    rcases q12 with ⟨a, b⟩ | ⟨a, b, c, d⟩
    · rw [b, m2]; rfl
    · have : S.capD x.md ≤ x.md := by unfold Sm.capD; split <;> omega
      rw [b, m2, e2, if_neg (Int.not_lt.mpr this)]
      unfold Sm.capD
      rw [d]
theorem inv_take {u : Int} {x : Bd} {pns rest : List Nd} {nd : Nd} {bo bo' : Bst} {M : Nat} (hM : M ≤ 40) (I : Inv u x pns (nd :: rest) bo M) (h0 : x.state = 0 → nd.kd = 9 ∨ nd.kd = 13) (hk : nd.kd = 5 → rest ≠ [])
    (ht : (false, bo') = tryS pns.length x.goal bo (isPen nd) (bcost x.total x.goal x.shrink x.st) (pen pns nd rest)) : Inv u (Bd.take { x with best := bestA bo' } nd) (pns ++ [nd]) rest bo' M := by
  have hmd := I.md
  have key : (Bd.take { x with best := bestA bo' } nd).total = ((Sm.zero.run pns).step nd).capN x.md ∧ (Bd.take { x with best := bestA bo' } nd).depth = ((Sm.zero.run pns).step nd).capD x.md ∧ (Bd.take { x with best := bestA bo' } nd).shrink = ((Sm.zero.run pns).step nd).p ∧ (Bd.take { x with best := bestA bo' } nd).st = ((Sm.zero.run pns).step nd).st := by
    have e1 := I.tot
    have e2 := I.dep
    have e3 := I.shr
    have e4 := I.str
    rcases I.st with ⟨s0, hm, m0, -, -⟩ | ⟨s2, g2, m2, q⟩
    · obtain ⟨z1, z2, z3, z4⟩ := run_zero pns Sm.zero hm rfl rfl rfl rfl
      generalize (Sm.zero.run pns) = S at *
      have c1 : S.capN x.md = 0 := by simp only [Sm.capN, z1, z2]; split <;> omega
      have c2 : S.capD x.md = 0 := by simp only [Sm.capD, z2]; split <;> omega
      rw [c1] at e1
      rw [c2] at e2
      have n1 : ¬ x.md < 0 := by omega
      rcases kd_cases (h0 s0) with rfl | rfl <;> simp [Bd.take, Nd.sum, Sm.step, Sm.capN, Sm.capD, *]
    · exact take_sum _ nd e1 e2 e3 e4 m2
  obtain ⟨k1, k2, k3, k4⟩ := key
  have hst : (Bd.take { x with best := bestA bo' } nd).state = x.state := rfl
  have hbo : x.state = 0 → bo' = bo := fun s0 => by
    have : pen pns nd rest = none := by rcases kd_cases (h0 s0) with rfl | rfl <;> rfl
    rw [this] at ht
    simp only [tryS, Prod.mk.injEq] at ht
    exact ht.2
  refine ⟨I.u1, I.vs, I.md, ?_, ?_, ?_, ?_, fun n hn => I.okc n (.tail _ hn), ?_, ?_, ?_, ?_, rfl, ?_, ?_, ?_, ?_⟩
  · show x.ps ++ [nd.av] = _
    rw [I.ps]; simp
  · show x.cs.tail = _
    rw [I.cs]; rfl
  · rcases I.st with ⟨s0, hm, m0, g0, b0⟩ | ⟨s2, g2, m2, q⟩
    · refine .inl ⟨s0, fun n hn => ?_, m0, g0, by rw [hbo s0, b0]⟩
      rcases List.mem_append.mp hn with hn | hn
      · exact hm n hn
      · simp only [List.mem_singleton] at hn
        rw [hn]; exact h0 s0
    · exact .inr ⟨s2, g2, m2, fun e => by simp at e⟩
  · intro n hn
    rcases List.mem_append.mp hn with hn | hn
    · exact I.okp n hn
    · simp only [List.mem_singleton] at hn
      rw [hn]; exact I.okc nd (.head _)
  · rw [run_snoc]; exact k1
  · rw [run_snoc]; exact k2
  · rw [run_snoc]; exact k3
  · rw [run_snoc]; exact k4
  · intro q hq
    rcases tryS_q ht hq with e | e
    · simp [e]; omega
    · have := I.bq q e
      simp; omega
  · exact fun e => hk (endK_snoc _ _ e)
  · intro r hr
    show scan x.vs x.md [] _ none = scan x.vs x.md _ r bo'
    rw [show pns ++ [nd] ++ r = pns ++ nd :: r by simp]
    exact inv_sc hM I h0 (fun e => by
      rcases nd with ⟨_ | _, w, h, d, sh⟩ | ⟨h, d⟩ | w | ⟨g, so, l⟩ | v | _ | _ <;> simp [Nd.kd] at e
      exact hr (endKern pns w)) ht
  · have := I.cnt
    show _ + _ + (if x.state = 0 then 1 else 0) ≤ M
    simp only [List.length_cons, List.length_append, List.length_nil] at *
    omega
theorem inv_rem {u : Int} {x : Bd} {pns cns : List Nd} {bo : Bst} {M : Nat} (I : Inv u x pns cns bo M) (lp lk : Int) (lg : AV) : Inv u { x with lp := lp, lk := lk, lg := lg } pns cns bo M :=
  ⟨I.u1, I.vs, I.md, I.ps, I.cs, I.st, I.okp, I.okc, I.tot, I.dep, I.shr, I.str, I.best, I.bq, I.ek, I.sc, I.cnt⟩
/-- the page must end -/
theorem inv_found {u : Int} {x : Bd} {pns rest : List Nd} {nd : Nd} {bo bo' : Bst} {M : Nat} (hM : M ≤ 40) (I : Inv u x pns (nd :: rest) bo M) (h0 : x.state = 0 → nd.kd = 9 ∨ nd.kd = 13) (hk : nd.kd = 5 → rest ≠ [])
    (ht : (true, bo') = tryS pns.length x.goal bo (isPen nd) (bcost x.total x.goal x.shrink x.st) (pen pns nd rest)) : ∃ q : Int × Int × Int × Int, bo' = some q ∧ (0 ≤ q.1 ∧ q.1 ≤ pns.length) ∧ scan x.vs x.md [] (pns ++ nd :: rest) none = ((pns.length : Int), bo') := by
  obtain ⟨q, hq⟩ := tryS_some ht
  refine ⟨q, hq, ?_, inv_sc hM I h0 (fun e => ⟨hk e, rfl⟩) ht⟩
  rcases tryS_q ht hq with e | e
  · omega
  · exact I.bq q e
theorem inv_none {u : Int} {x : Bd} {pns cns : List Nd} {bo : Bst} {M : Nat} (I : Inv u x pns cns bo M) (h : cns = [] ∨ ∃ w, cns = [.kern w]) : scan x.vs x.md [] (pns ++ cns) none = (-1, bo) := by
  rw [I.sc cns (fun e => ⟨I.ek e, rfl⟩)]
  rcases h with rfl | ⟨w, rfl⟩ <;> rfl
theorem inv_more {u : Int} {x : Bd} {pns cns ns : List Nd} {bo : Bst} {M : Nat} (I : Inv u x pns cns bo M) (h : ∀ n ∈ ns, NOk u n) : Inv u { x with cs := x.cs ++ ns.map Nd.av } pns (cns ++ ns) bo (M + ns.length) := by
  have hh : ∀ r : List Nd, cns ≠ [] → (cns ++ r).head? = cns.head? := by
    intro r h
    cases cns with
    | nil => exact absurd rfl h
    | cons a l => rfl
  refine ⟨I.u1, I.vs, I.md, I.ps, ?_, ?_, I.okp, ?_, I.tot, I.dep, I.shr, I.str, I.best, I.bq, fun e => by simp [I.ek e], ?_, ?_⟩
  · show x.cs ++ _ = _
    rw [I.cs]; simp
  · rcases I.st with h | ⟨a, b, c, d⟩
    · exact .inl h
    · exact .inr ⟨a, b, c, fun e => let ⟨g, s, l, r, e⟩ := d e; ⟨g, s, l, r ++ ns, by rw [e]; rfl⟩⟩
  · intro n hn
    rcases List.mem_append.mp hn with hn | hn
    · exact I.okc n hn
    · exact h n hn
  · intro r hr
    refine I.sc r fun e => ⟨I.ek e, ?_⟩
    rw [(hr e).2, hh _ (I.ek e)]
  · have := I.cnt
    show _ + _ + (if x.state = 0 then 1 else 0) ≤ _
    simp only [List.length_append] at *
    omega
theorem ht_b {u : Int} (hu : 1 ≤ u) {nd : Nd} (h : NOk u nd) (hk : nd.kd = 2 ∨ nd.kd = 3 ∨ nd.kd = 4) : -u ≤ nd.ht ∧ nd.ht ≤ 10 * u := by
  rcases nd with ⟨v, w, ht, d, sh⟩ | ⟨_ | ht, d⟩ | w | ⟨g, so, l⟩ | v | _ | _ <;> simp only [NOk] at h <;> simp only [Nd.ht, Nd.kd] at hk ⊢ <;> try omega
  have := h.1 ht rfl
  omega
/-- what the law asks of the page -/
structure Pg (u : Int) (x : Bd) (pns cns : List Nd) (M : Nat) : Prop where
  ps : x.ps = pns.map Nd.av
  cs : x.cs = cns.map Nd.av
  okp : ∀ n ∈ pns, NOk u n
  okc : ∀ n ∈ cns, NOk u n
  tot : x.total = (Sm.zero.run pns).capN x.md
  dep : x.depth = (Sm.zero.run pns).capD x.md
  cnt : pns.length + cns.length ≤ M
theorem Inv.pg {u : Int} {x : Bd} {pns cns : List Nd} {bo : Bst} {M : Nat} (I : Inv u x pns cns bo M) : Pg u x pns cns M :=
  ⟨I.ps, I.cs, I.okp, I.okc, I.tot, I.dep, by have := I.cnt; omega⟩
theorem inv_bounds {u : Int} {x : Bd} {pns cns : List Nd} {bo : Bst} {M : Nat} (hM : M ≤ 40) (I : Inv u x pns cns bo M) : (-1073741824 < x.total - x.goal ∧ x.total - x.goal < 1073741824) ∧ x.shrink < 1073741824 ∧ x.st.a < 1073741824 := by
  have := I.cnt
  have hu := I.u1
  have hv := I.vs
  have hmd := I.md
  obtain ⟨t, t1, t2, b⟩ := Bnd.of hu.1 I.okp (by omega)
  have e1 := I.tot
  have hg : x.goal = 0 ∨ x.goal = x.vs := by
    rcases I.st with ⟨_, _, _, c, _⟩ | ⟨_, c, _⟩
    · exact .inl c
    · exact .inr c
  rw [I.shr, I.str]
  have hc := (Sm.zero.run pns).cap_le x.md
  obtain ⟨b1, b2, b3, b4, b5⟩ := b
  omega
theorem ct_build (ok : 8 ≤ bud) {u : Int} {x : Bd} {pns cns : List Nd} {bo : Bst} {M : Nat} {g : Gl} (hM : M ≤ 40) (hT : Wk σ.T (x.T ++ R)) (I : Inv u x pns cns bo M) (hg : NOk u (.skip g 0 none)) (hg5 : g.w ≤ 5 * u)
    (H : ∀ (f : Bool) (x' : Bd) (pns' cns' : List Nd) (bo' : Bst), x'.b = x.b → Pg u x' pns' cns' M → x'.vs = x.vs → x'.md = x.md → (f = true → (∃ q : Int × Int × Int × Int, bo' = some q ∧ (0 ≤ q.1 ∧ q.1 ≤ pns'.length)) ∧ scan x.vs x.md [] (pns' ++ cns') none = ((pns'.length : Int), bo')) →
      (f = false → Inv u x' pns' cns' bo' M ∧ (cns' = [] ∨ ∃ w, cns' = [.kern w])) → k (cond f (bestA bo') .none) ⟨σ.loc, x'.T ++ R⟩) : CallT bud 815 [.ref x.b, g.av, .none] σ k := by
  refine callD ok in_PageBuilder_build false 130 [("self", .ref x.b), ("top_skip", g.av), ("classes", .none)] (x.T) (R) rfl rfl (fun _ => .nil) (hT) (let s1 : AS := _; blk_cons (σ := s1) ?_)
  repeat' (first | k_extra "blk" | ((with_reducible refine at_ 695 ?_); refine ct_check_finite (by first | decide | omega) ?_) | ((with_reducible refine at_ 521 ?_); refine ct_disc (by first | decide | omega) ?_) | ((refine (?_ : _ ∧ _)); (with_reducible refine g_sub ?_); (first | (refine sub_n (by omega) (by omega) (by omega) (by assumption) ?_) | (refine sub_i (by omega) (by omega) (by assumption) ?_))) | k_extra "step")
  refine while_abs fun F step => ?_
  have key : ∀ (N : Nat) (y : Bd) (pns cns : List Nd) (bo : Bst), y.b = x.b → y.vs = x.vs → y.md = x.md → Inv u y pns cns bo M → cns.length + (if y.state = 0 then 2 else 0) < N →
      F N ⟨[("self", .ref y.b), ("top_skip", g.av), ("classes", .none)], y.T⟩ := by
    intro N
    induction N with
    | zero => intro y pns cns bo _ _ _ _ h; omega
    | succ N ih =>
      intro y pns cns bo eb ev em I hN
      refine step _ _ ?_
      rcases cns with _ | ⟨nd, rest⟩
      · have hcs : y.cs = [] := I.cs
        repeat' (first | k_extra "blk" | ((with_reducible refine at_ 695 ?_); refine ct_check_finite (by first | decide | omega) ?_) | ((with_reducible refine at_ 521 ?_); refine ct_disc (by first | decide | omega) ?_) | ((refine (?_ : _ ∧ _)); (with_reducible refine g_sub ?_); (first | (refine sub_n (by omega) (by omega) (by omega) (by assumption) ?_) | (refine sub_i (by omega) (by omega) (by assumption) ?_))) | k_extra "step")
        conv => whnf
        refine cond_bf (by rw [hcs]; rfl) ?_
        repeat' (first | k_extra "blk" | ((with_reducible refine at_ 695 ?_); refine ct_check_finite (by first | decide | omega) ?_) | ((with_reducible refine at_ 521 ?_); refine ct_disc (by first | decide | omega) ?_) | ((refine (?_ : _ ∧ _)); (with_reducible refine g_sub ?_); (first | (refine sub_n (by omega) (by omega) (by omega) (by assumption) ?_) | (refine sub_i (by omega) (by omega) (by assumption) ?_))) | k_extra "step")
        exact ⟨Bd.T y, Wk.refl _, H false y pns [] bo eb I.pg ev em (fun e => by cases e) (fun _ => ⟨I, .inl rfl⟩)⟩
      · have hcs : y.cs = nd.av :: rest.map Nd.av := I.cs
        have h0 : y.cs[(0 : Int).toNat]? = some nd.av := by rw [hcs]; rfl
        have hl : y.cs.length = rest.length + 1 := by rw [hcs]; simp
        have hlp : y.ps.length = pns.length := by rw [I.ps]; simp
        have hcnt := I.cnt
        simp only [List.length_cons] at hcnt hN
        obtain ⟨b1, b2, b3⟩ := inv_bounds hM I
        have hu := I.u1
        have hok := I.okc nd (.head _)
        have hgb := hg
        simp only [NOk] at hgb
        have s02 : y.state = 0 ∨ y.state = 2 := by
          rcases I.st with h | h
          · exact .inl h.1
          · exact .inr h.1
        rcases s02 with s0 | s2
        · rw [if_pos s0] at hcnt hN
          have kds : (nd.kd = 2 ∨ nd.kd = 3 ∨ nd.kd = 4) ∨ nd.disc = true ∨ (nd.kd = 9 ∨ nd.kd = 13) := by
            rcases nd with ⟨_ | _, w, h, d, sh⟩ | ⟨h, d⟩ | w | ⟨g, so, l⟩ | v | _ | _ <;> simp [Nd.kd, Nd.disc]
          obtain ⟨nd0, hnd0⟩ : ∃ n, n = nd := ⟨_, rfl⟩
          have I0 : Inv u y pns (nd0 :: rest) bo M := by rw [hnd0]; exact I
          have hcs0 : y.cs = nd0.av :: rest.map Nd.av := I0.cs
          have P0 := I0.pg
          rcases kds with hk | hk | hk
          · have hb := ht_b hu.1 hok hk
            have J := fun sa o' => inv_begin (o' := o') (sa := sa) I s0 hk hg hg5
            rcases nd with ⟨_ | _, w, h, d, sh⟩ | ⟨h, d⟩ | w | ⟨g', so, l⟩ | v | _ | _ <;> (try (simp [Nd.kd] at hk; done))
            all_goals
              repeat' (first | k_extra "blk" | ((with_reducible refine at_ 695 ?_); refine ct_check_finite (by first | decide | omega) ?_) | ((with_reducible refine at_ 521 ?_); refine ct_disc (by first | decide | omega) ?_) | ((refine (?_ : _ ∧ _)); (with_reducible refine g_sub ?_); (first | (refine sub_n (by omega) (by omega) (by omega) (by assumption) ?_) | (refine sub_i (by omega) (by omega) (by assumption) ?_))) | k_extra "step")
              conv => whnf
              refine cond_bt (by rw [hcs]; rfl) ?_
              repeat' (first | k_extra "blk" | ((with_reducible refine at_ 695 ?_); refine ct_check_finite (by first | decide | omega) ?_) | ((with_reducible refine at_ 521 ?_); refine ct_disc (by first | decide | omega) ?_) | ((refine (?_ : _ ∧ _)); (with_reducible refine g_sub ?_); (first | (refine sub_n (by omega) (by omega) (by omega) (by assumption) ?_) | (refine sub_i (by omega) (by omega) (by assumption) ?_))) | k_extra "step")
              refine ct_begin (by first | decide | omega) (x := y) (g := g) (by repeat (first | exact Wk.refl _ | exact Wk.nil _ | refine Wk.pick (by repeat (first | exact Pick.head | apply Pick.tail)) ?_)) s0 (by omega) (by omega) (by omega) (by omega) (fun sa o' => ?_)
              have J := J sa o'
              revert J
              generalize (max _ 0 : Int) = ww
              intro J
              repeat' (first | k_extra "blk" | ((with_reducible refine at_ 695 ?_); refine ct_check_finite (by first | decide | omega) ?_) | ((with_reducible refine at_ 521 ?_); refine ct_disc (by first | decide | omega) ?_) | ((refine (?_ : _ ∧ _)); (with_reducible refine g_sub ?_); (first | (refine sub_n (by omega) (by omega) (by omega) (by assumption) ?_) | (refine sub_i (by omega) (by omega) (by assumption) ?_))) | k_extra "step")
              refine ct_remember (by first | decide | omega) (x := { y with total := 0, sa := sa, st := ⟨0, 0, 0, 0⟩, shrink := 0, depth := 0, best := .none, state := 2, goal := y.vs, most := y.md, cs := Nd.av (.skip ⟨ww, g.s, o', g.p⟩ 107 none) :: y.cs }) (by repeat (first | exact Wk.refl _ | exact Wk.nil _ | refine Wk.pick (by repeat (first | exact Pick.head | apply Pick.tail)) ?_)) (fun lp lk lg => ?_)
              repeat' (first | k_extra "blk" | ((with_reducible refine at_ 695 ?_); refine ct_check_finite (by first | decide | omega) ?_) | ((with_reducible refine at_ 521 ?_); refine ct_disc (by first | decide | omega) ?_) | ((refine (?_ : _ ∧ _)); (with_reducible refine g_sub ?_); (first | (refine sub_n (by omega) (by omega) (by omega) (by assumption) ?_) | (refine sub_i (by omega) (by omega) (by assumption) ?_))) | k_extra "step")
              exact ease_to [("self", .ref y.b), ("top_skip", g.av), ("classes", .none)] (Bd.T { y with total := 0, sa := sa, st := ⟨0, 0, 0, 0⟩, shrink := 0, depth := 0, best := .none, state := 2, goal := y.vs, most := y.md, cs := Nd.av (.skip ⟨ww, g.s, o', g.p⟩ 107 none) :: y.cs, lp := lp, lk := lk, lg := lg }) (by repeat (first | exact True.intro | refine And.intro rfl ?_)) (Wk.refl _)
                (ih { y with total := 0, sa := sa, st := ⟨0, 0, 0, 0⟩, shrink := 0, depth := 0, best := .none, state := 2, goal := y.vs, most := y.md, cs := Nd.av (.skip ⟨ww, g.s, o', g.p⟩ 107 none) :: y.cs, lp := lp, lk := lk, lg := lg } pns _ none eb ev em (inv_rem J lp lk lg) (by simp only [List.length_cons]; rw [if_neg (by decide)]; omega))
          · have J := inv_drop I s0
            rcases nd with ⟨_ | _, w, h, d, sh⟩ | ⟨h, d⟩ | w | ⟨g', so, l⟩ | v | _ | _ <;> (try (simp [Nd.disc] at hk; done))
            all_goals
              repeat' (first | k_extra "blk" | ((with_reducible refine at_ 695 ?_); refine ct_check_finite (by first | decide | omega) ?_) | ((with_reducible refine at_ 521 ?_); refine ct_disc (by first | decide | omega) ?_) | ((refine (?_ : _ ∧ _)); (with_reducible refine g_sub ?_); (first | (refine sub_n (by omega) (by omega) (by omega) (by assumption) ?_) | (refine sub_i (by omega) (by omega) (by assumption) ?_))) | k_extra "step")
              conv => whnf
              refine cond_bt (by rw [hcs]; rfl) ?_
              repeat' (first | k_extra "blk" | ((with_reducible refine at_ 695 ?_); refine ct_check_finite (by first | decide | omega) ?_) | ((with_reducible refine at_ 521 ?_); refine ct_disc (by first | decide | omega) ?_) | ((refine (?_ : _ ∧ _)); (with_reducible refine g_sub ?_); (first | (refine sub_n (by omega) (by omega) (by omega) (by assumption) ?_) | (refine sub_i (by omega) (by omega) (by assumption) ?_))) | k_extra "step")
              conv => whnf
              rw [hcs]
              repeat' (first | k_extra "blk" | ((with_reducible refine at_ 695 ?_); refine ct_check_finite (by first | decide | omega) ?_) | ((with_reducible refine at_ 521 ?_); refine ct_disc (by first | decide | omega) ?_) | ((refine (?_ : _ ∧ _)); (with_reducible refine g_sub ?_); (first | (refine sub_n (by omega) (by omega) (by omega) (by assumption) ?_) | (refine sub_i (by omega) (by omega) (by assumption) ?_))) | k_extra "step")
              refine ct_remember (by first | decide | omega) (x := { y with cs := rest.map Nd.av }) (by repeat (first | exact Wk.refl _ | exact Wk.nil _ | refine Wk.pick (by repeat (first | exact Pick.head | apply Pick.tail)) ?_)) (fun lp lk lg => ?_)
              repeat' (first | k_extra "blk" | ((with_reducible refine at_ 695 ?_); refine ct_check_finite (by first | decide | omega) ?_) | ((with_reducible refine at_ 521 ?_); refine ct_disc (by first | decide | omega) ?_) | ((refine (?_ : _ ∧ _)); (with_reducible refine g_sub ?_); (first | (refine sub_n (by omega) (by omega) (by omega) (by assumption) ?_) | (refine sub_i (by omega) (by omega) (by assumption) ?_))) | k_extra "step")
              exact ease_to [("self", .ref y.b), ("top_skip", g.av), ("classes", .none)] (Bd.T { y with cs := rest.map Nd.av, lp := lp, lk := lk, lg := lg }) (by repeat (first | exact True.intro | refine And.intro rfl ?_)) (Wk.refl _) (ih { y with cs := rest.map Nd.av, lp := lp, lk := lk, lg := lg } pns rest bo eb ev em (inv_rem J lp lk lg) (by show _ + (if y.state = 0 then 2 else 0) < N; rw [if_pos s0]; omega))
          · have ks : y.state = 0 → nd0.kd = 9 ∨ nd0.kd = 13 := fun _ => by rw [hnd0]; exact hk
            have hkr : nd0.kd = 5 → rest ≠ [] := fun e => by rw [hnd0] at e; omega
            rcases nd with ⟨_ | _, w, h, d, sh⟩ | ⟨h, d⟩ | w | ⟨g', so, l⟩ | v | _ | _ <;> (try (simp [Nd.kd] at hk; done))
            all_goals
              repeat' (first | k_extra "blk" | ((with_reducible refine at_ 695 ?_); refine ct_check_finite (by first | decide | omega) ?_) | ((with_reducible refine at_ 521 ?_); refine ct_disc (by first | decide | omega) ?_) | ((refine (?_ : _ ∧ _)); (with_reducible refine g_sub ?_); (first | (refine sub_n (by omega) (by omega) (by omega) (by assumption) ?_) | (refine sub_i (by omega) (by omega) (by assumption) ?_))) | k_extra "step")
              conv => whnf
              refine cond_bt (by rw [hcs]; rfl) ?_
              repeat' (first | k_extra "blk" | ((with_reducible refine at_ 695 ?_); refine ct_check_finite (by first | decide | omega) ?_) | ((with_reducible refine at_ 521 ?_); refine ct_disc (by first | decide | omega) ?_) | ((refine (?_ : _ ∧ _)); (with_reducible refine g_sub ?_); (first | (refine sub_n (by omega) (by omega) (by omega) (by assumption) ?_) | (refine sub_i (by omega) (by omega) (by assumption) ?_))) | k_extra "step")
              rw [← hnd0]
              refine ct_tried (by first | decide | omega) (x := y) (bo := bo) (nd := nd0) (rest := rest) (by repeat (first | exact Wk.refl _ | exact Wk.nil _ | refine Wk.pick (by repeat (first | exact Pick.head | apply Pick.tail)) ?_)) I0.best I0.ps hcs0 hkr (by omega) b1 b2 b3 (fun f bo' ht => ?_)
              cases f with
              | false =>
                have J := inv_take hM I0 ks hkr ht
                repeat' (first | k_extra "blk" | ((with_reducible refine at_ 695 ?_); refine ct_check_finite (by first | decide | omega) ?_) | ((with_reducible refine at_ 521 ?_); refine ct_disc (by first | decide | omega) ?_) | ((refine (?_ : _ ∧ _)); (with_reducible refine g_sub ?_); (first | (refine sub_n (by omega) (by omega) (by omega) (by assumption) ?_) | (refine sub_i (by omega) (by omega) (by assumption) ?_))) | k_extra "step")
                rw [← hnd0]
                refine ct_take (by first | decide | omega) (x := { y with best := bestA bo' }) (nd := nd0) (by repeat (first | exact Wk.refl _ | exact Wk.nil _ | refine Wk.pick (by repeat (first | exact Pick.head | apply Pick.tail)) ?_)) hcs0 (by show y.ps.length ≤ 900; omega) (by show y.cs.length ≤ 900; omega) ?_
                repeat' (first | k_extra "blk" | ((with_reducible refine at_ 695 ?_); refine ct_check_finite (by first | decide | omega) ?_) | ((with_reducible refine at_ 521 ?_); refine ct_disc (by first | decide | omega) ?_) | ((refine (?_ : _ ∧ _)); (with_reducible refine g_sub ?_); (first | (refine sub_n (by omega) (by omega) (by omega) (by assumption) ?_) | (refine sub_i (by omega) (by omega) (by assumption) ?_))) | k_extra "step")
                rw [← hnd0]
                refine ct_remember (by first | decide | omega) (x := Bd.take { y with best := bestA bo' } nd0) (nd := nd0) (by repeat (first | exact Wk.refl _ | exact Wk.nil _ | refine Wk.pick (by repeat (first | exact Pick.head | apply Pick.tail)) ?_)) (fun lp lk lg => ?_)
                repeat' (first | k_extra "blk" | ((with_reducible refine at_ 695 ?_); refine ct_check_finite (by first | decide | omega) ?_) | ((with_reducible refine at_ 521 ?_); refine ct_disc (by first | decide | omega) ?_) | ((refine (?_ : _ ∧ _)); (with_reducible refine g_sub ?_); (first | (refine sub_n (by omega) (by omega) (by omega) (by assumption) ?_) | (refine sub_i (by omega) (by omega) (by assumption) ?_))) | k_extra "step")
                exact ease_to [("self", .ref y.b), ("top_skip", g.av), ("classes", .none)] (Bd.T { Bd.take { y with best := bestA bo' } nd0 with lp := lp, lk := lk, lg := lg }) (by repeat (first | exact True.intro | refine And.intro rfl ?_)) (Wk.refl _) (ih { Bd.take { y with best := bestA bo' } nd0 with lp := lp, lk := lk, lg := lg } (pns ++ [nd0]) rest bo' eb ev em (inv_rem J lp lk lg) (by show _ + (if y.state = 0 then 2 else 0) < N; rw [if_pos s0]; omega))
              | true =>
                obtain ⟨q, hq, hq2, hsc⟩ := inv_found hM I0 ks hkr ht
                subst hq
                obtain ⟨qa, qb, qc, qd⟩ := q
                repeat' (first | k_extra "blk" | ((with_reducible refine at_ 695 ?_); refine ct_check_finite (by first | decide | omega) ?_) | ((with_reducible refine at_ 521 ?_); refine ct_disc (by first | decide | omega) ?_) | ((refine (?_ : _ ∧ _)); (with_reducible refine g_sub ?_); (first | (refine sub_n (by omega) (by omega) (by omega) (by assumption) ?_) | (refine sub_i (by omega) (by omega) (by assumption) ?_))) | k_extra "step")
                rw [← hnd0]
                refine ct_remember (by first | decide | omega) (x := { y with best := bestA (some (qa, qb, qc, qd)) }) (nd := nd0) (by repeat (first | exact Wk.refl _ | exact Wk.nil _ | refine Wk.pick (by repeat (first | exact Pick.head | apply Pick.tail)) ?_)) (fun lp lk lg => ?_)
                repeat' (first | k_extra "blk" | ((with_reducible refine at_ 695 ?_); refine ct_check_finite (by first | decide | omega) ?_) | ((with_reducible refine at_ 521 ?_); refine ct_disc (by first | decide | omega) ?_) | ((refine (?_ : _ ∧ _)); (with_reducible refine g_sub ?_); (first | (refine sub_n (by omega) (by omega) (by omega) (by assumption) ?_) | (refine sub_i (by omega) (by omega) (by assumption) ?_))) | k_extra "step")
                exact ⟨Bd.T { y with best := bestA (some (qa, qb, qc, qd)), lp := lp, lk := lk, lg := lg }, Wk.refl _, H true { y with best := bestA (some (qa, qb, qc, qd)), lp := lp, lk := lk, lg := lg } pns (nd0 :: rest) (some (qa, qb, qc, qd)) eb ⟨P0.ps, P0.cs, P0.okp, P0.okc, P0.tot, P0.dep, P0.cnt⟩ ev em (fun _ => ⟨⟨_, rfl, hq2⟩, by rw [← ev, ← em]; exact hsc⟩) (fun e => by cases e)⟩
        · have n0 : y.state ≠ 0 := by omega
          rw [if_neg n0] at hcnt hN
          obtain ⟨nd0, hnd0⟩ : ∃ n, n = nd := ⟨_, rfl⟩
          have I0 : Inv u y pns (nd0 :: rest) bo M := by rw [hnd0]; exact I
          have hcs0 : y.cs = nd0.av :: rest.map Nd.av := I0.cs
          have P0 := I0.pg
          have ks : y.state = 0 → nd0.kd = 9 ∨ nd0.kd = 13 := fun e => absurd e n0
          by_cases hw : nd.kd = 5 ∧ rest = []
          · obtain ⟨hk, rfl⟩ := hw
            have hl1 : y.cs.length = 1 := hl
            rcases nd with ⟨_ | _, w, h, d, sh⟩ | ⟨h, d⟩ | w | ⟨g', so, l⟩ | v | _ | _ <;> (try (simp [Nd.kd] at hk; done))
            repeat' (first | k_extra "blk" | ((with_reducible refine at_ 695 ?_); refine ct_check_finite (by first | decide | omega) ?_) | ((with_reducible refine at_ 521 ?_); refine ct_disc (by first | decide | omega) ?_) | ((refine (?_ : _ ∧ _)); (with_reducible refine g_sub ?_); (first | (refine sub_n (by omega) (by omega) (by omega) (by assumption) ?_) | (refine sub_i (by omega) (by omega) (by assumption) ?_))) | k_extra "step")
            conv => whnf
            refine cond_bt (by rw [hcs]; rfl) ?_
            repeat' (first | k_extra "blk" | ((with_reducible refine at_ 695 ?_); refine ct_check_finite (by first | decide | omega) ?_) | ((with_reducible refine at_ 521 ?_); refine ct_disc (by first | decide | omega) ?_) | ((refine (?_ : _ ∧ _)); (with_reducible refine g_sub ?_); (first | (refine sub_n (by omega) (by omega) (by omega) (by assumption) ?_) | (refine sub_i (by omega) (by omega) (by assumption) ?_))) | k_extra "step")
            refine ct_remember (by first | decide | omega) (x := y) (by repeat (first | exact Wk.refl _ | exact Wk.nil _ | refine Wk.pick (by repeat (first | exact Pick.head | apply Pick.tail)) ?_)) (fun lp lk lg => ?_)
            repeat' (first | k_extra "blk" | ((with_reducible refine at_ 695 ?_); refine ct_check_finite (by first | decide | omega) ?_) | ((with_reducible refine at_ 521 ?_); refine ct_disc (by first | decide | omega) ?_) | ((refine (?_ : _ ∧ _)); (with_reducible refine g_sub ?_); (first | (refine sub_n (by omega) (by omega) (by omega) (by assumption) ?_) | (refine sub_i (by omega) (by omega) (by assumption) ?_))) | k_extra "step")
            exact ⟨Bd.T { y with lp := lp, lk := lk, lg := lg }, Wk.refl _, H false { y with lp := lp, lk := lk, lg := lg } pns [.kern w] bo eb (inv_rem I lp lk lg).pg ev em (fun e => by cases e) (fun _ => ⟨inv_rem I lp lk lg, .inr ⟨w, rfl⟩⟩)⟩
          · have hkr : nd0.kd = 5 → rest ≠ [] := fun e1 e2 => hw ⟨by rw [← hnd0]; exact e1, e2⟩
            have hl2 : nd.kd = 5 → ¬ ((y.cs.length : Int) = 1) := fun e => by
              have : rest ≠ [] := fun e2 => hw ⟨e, e2⟩
              have : rest.length ≠ 0 := fun e2 => this (List.eq_nil_of_length_eq_zero e2)
              omega
            rcases nd with ⟨_ | _, w, h, d, sh⟩ | ⟨h, d⟩ | w | ⟨g', so, l⟩ | v | _ | _
            case' kern => have hl3 := hl2 rfl
            all_goals
              clear hl2 hw
              repeat' (first | k_extra "blk" | ((with_reducible refine at_ 695 ?_); refine ct_check_finite (by first | decide | omega) ?_) | ((with_reducible refine at_ 521 ?_); refine ct_disc (by first | decide | omega) ?_) | ((refine (?_ : _ ∧ _)); (with_reducible refine g_sub ?_); (first | (refine sub_n (by omega) (by omega) (by omega) (by assumption) ?_) | (refine sub_i (by omega) (by omega) (by assumption) ?_))) | k_extra "step")
              conv => whnf
              refine cond_bt (by rw [hcs]; rfl) ?_
              repeat' (first | k_extra "blk" | ((with_reducible refine at_ 695 ?_); refine ct_check_finite (by first | decide | omega) ?_) | ((with_reducible refine at_ 521 ?_); refine ct_disc (by first | decide | omega) ?_) | ((refine (?_ : _ ∧ _)); (with_reducible refine g_sub ?_); (first | (refine sub_n (by omega) (by omega) (by omega) (by assumption) ?_) | (refine sub_i (by omega) (by omega) (by assumption) ?_))) | k_extra "step")
              rw [← hnd0]
              refine ct_tried (by first | decide | omega) (x := y) (bo := bo) (nd := nd0) (rest := rest) (by repeat (first | exact Wk.refl _ | exact Wk.nil _ | refine Wk.pick (by repeat (first | exact Pick.head | apply Pick.tail)) ?_)) I0.best I0.ps hcs0 hkr (by omega) b1 b2 b3 (fun f bo' ht => ?_)
              cases f with
              | false =>
                have J := inv_take hM I0 ks hkr ht
                repeat' (first | k_extra "blk" | ((with_reducible refine at_ 695 ?_); refine ct_check_finite (by first | decide | omega) ?_) | ((with_reducible refine at_ 521 ?_); refine ct_disc (by first | decide | omega) ?_) | ((refine (?_ : _ ∧ _)); (with_reducible refine g_sub ?_); (first | (refine sub_n (by omega) (by omega) (by omega) (by assumption) ?_) | (refine sub_i (by omega) (by omega) (by assumption) ?_))) | k_extra "step")
                rw [← hnd0]
                refine ct_take (by first | decide | omega) (x := { y with best := bestA bo' }) (nd := nd0) (by repeat (first | exact Wk.refl _ | exact Wk.nil _ | refine Wk.pick (by repeat (first | exact Pick.head | apply Pick.tail)) ?_)) hcs0 (by show y.ps.length ≤ 900; omega) (by show y.cs.length ≤ 900; omega) ?_
                repeat' (first | k_extra "blk" | ((with_reducible refine at_ 695 ?_); refine ct_check_finite (by first | decide | omega) ?_) | ((with_reducible refine at_ 521 ?_); refine ct_disc (by first | decide | omega) ?_) | ((refine (?_ : _ ∧ _)); (with_reducible refine g_sub ?_); (first | (refine sub_n (by omega) (by omega) (by omega) (by assumption) ?_) | (refine sub_i (by omega) (by omega) (by assumption) ?_))) | k_extra "step")
                rw [← hnd0]
                refine ct_remember (by first | decide | omega) (x := Bd.take { y with best := bestA bo' } nd0) (nd := nd0) (by repeat (first | exact Wk.refl _ | exact Wk.nil _ | refine Wk.pick (by repeat (first | exact Pick.head | apply Pick.tail)) ?_)) (fun lp lk lg => ?_)
                repeat' (first | k_extra "blk" | ((with_reducible refine at_ 695 ?_); refine ct_check_finite (by first | decide | omega) ?_) | ((with_reducible refine at_ 521 ?_); refine ct_disc (by first | decide | omega) ?_) | ((refine (?_ : _ ∧ _)); (with_reducible refine g_sub ?_); (first | (refine sub_n (by omega) (by omega) (by omega) (by assumption) ?_) | (refine sub_i (by omega) (by omega) (by assumption) ?_))) | k_extra "step")
                exact ease_to [("self", .ref y.b), ("top_skip", g.av), ("classes", .none)] (Bd.T { Bd.take { y with best := bestA bo' } nd0 with lp := lp, lk := lk, lg := lg }) (by repeat (first | exact True.intro | refine And.intro rfl ?_)) (Wk.refl _) (ih { Bd.take { y with best := bestA bo' } nd0 with lp := lp, lk := lk, lg := lg } (pns ++ [nd0]) rest bo' eb ev em (inv_rem J lp lk lg) (by show _ + (if y.state = 0 then 2 else 0) < N; rw [if_neg n0]; omega))
              | true =>
                obtain ⟨q, hq, hq2, hsc⟩ := inv_found hM I0 ks hkr ht
                subst hq
                obtain ⟨qa, qb, qc, qd⟩ := q
                repeat' (first | k_extra "blk" | ((with_reducible refine at_ 695 ?_); refine ct_check_finite (by first | decide | omega) ?_) | ((with_reducible refine at_ 521 ?_); refine ct_disc (by first | decide | omega) ?_) | ((refine (?_ : _ ∧ _)); (with_reducible refine g_sub ?_); (first | (refine sub_n (by omega) (by omega) (by omega) (by assumption) ?_) | (refine sub_i (by omega) (by omega) (by assumption) ?_))) | k_extra "step")
                rw [← hnd0]
                refine ct_remember (by first | decide | omega) (x := { y with best := bestA (some (qa, qb, qc, qd)) }) (nd := nd0) (by repeat (first | exact Wk.refl _ | exact Wk.nil _ | refine Wk.pick (by repeat (first | exact Pick.head | apply Pick.tail)) ?_)) (fun lp lk lg => ?_)
                repeat' (first | k_extra "blk" | ((with_reducible refine at_ 695 ?_); refine ct_check_finite (by first | decide | omega) ?_) | ((with_reducible refine at_ 521 ?_); refine ct_disc (by first | decide | omega) ?_) | ((refine (?_ : _ ∧ _)); (with_reducible refine g_sub ?_); (first | (refine sub_n (by omega) (by omega) (by omega) (by assumption) ?_) | (refine sub_i (by omega) (by omega) (by assumption) ?_))) | k_extra "step")
                exact ⟨Bd.T { y with best := bestA (some (qa, qb, qc, qd)), lp := lp, lk := lk, lg := lg }, Wk.refl _, H true { y with best := bestA (some (qa, qb, qc, qd)), lp := lp, lk := lk, lg := lg } pns (nd0 :: rest) (some (qa, qb, qc, qd)) eb ⟨P0.ps, P0.cs, P0.okp, P0.okc, P0.tot, P0.dep, P0.cnt⟩ ev em (fun _ => ⟨⟨_, rfl, hq2⟩, by rw [← ev, ← em]; exact hsc⟩) (fun e => by cases e)⟩
  exact key _ x pns cns bo rfl rfl rfl I (by have := I.cnt; split <;> omega)
noncomputable def hp (h : Addr) (w c : Int) : Led := [(h, .list [.int w, .int c])]
noncomputable def HB (n w c : Int) : Prop := 0 ≤ w ∧ 0 ≤ c ∧ c ≤ n
theorem HB.le {n m w c : Int} (h : HB n w c) (e : n ≤ m) : HB m w c := ⟨h.1, h.2.1, by have := h.2.2; omega⟩
theorem fmod_b {a m : Int} (h : 0 < m) : 0 ≤ a.fmod m ∧ a.fmod m < m := ⟨Int.fmod_nonneg_of_pos a h, Int.fmod_lt_of_pos a h⟩
theorem fdiv_b {a m : Int} (h : 0 < m) (h0 : 0 ≤ a) : 0 ≤ a.fdiv m := by
  rw [Int.fdiv_eq_ediv_of_nonneg _ (by omega)]
  exact Int.ediv_nonneg h0 (by omega)
theorem mulb {u x : Int} (a b : Int) (hu : 0 ≤ u) (h1 : a ≤ x) (h2 : x ≤ b) : u * a ≤ u * x ∧ u * x ≤ u * b := ⟨Int.mul_le_mul_of_nonneg_left h1 hu, Int.mul_le_mul_of_nonneg_left h2 hu⟩
theorem ct_ltake (ok : 1 ≤ bud) {h : Addr} {w c many n : Int} (hT : Wk σ.T (hp h w c ++ R)) (hb : HB n w c) (hn : n ≤ 100000) (hm : 1 ≤ many ∧ many ≤ 1000) (H : ∀ d w' c', (0 ≤ d ∧ d < many) → HB (n + 1) w' c' → k (.int d) ⟨σ.loc, hp h w' c' ++ R⟩) : CallT bud 892 [.ref h, .int many] σ k := by
  obtain ⟨q1, q2, q3⟩ := hb
  refine callD ok in_law_take false 60 [("heap", .ref h), ("many", .int many)] (hp h w c) (R) rfl rfl (fun _ => .nil) (hT) (let s1 : AS := _; blk_cons (σ := s1) ?_)
  repeat' (first | k_extra "blk" | ((refine (?_ : _ ∧ _)); (with_reducible refine g_sub ?_); (first | (refine sub_n (by omega) (by omega) (by omega) (by assumption) ?_) | (refine sub_i (by omega) (by omega) (by assumption) ?_))) | k_extra "step")
  · exact ⟨hp h _ _, Wk.refl _, H _ _ _ (fmod_b (by omega)) ⟨fdiv_b (by omega) (by omega), by omega, by omega⟩⟩
  · exact ⟨hp h _ _, Wk.refl _, H _ _ _ (fmod_b (by omega)) ⟨by omega, by omega, by omega⟩⟩
theorem ct_GlueI (ok : 4 ≤ bud) {w s p oi : Int} (ho : 0 ≤ oi ∧ oi ≤ 3) (hw : -1073741823 ≤ w ∧ w ≤ 1073741823) (hs : -1073741823 ≤ s ∧ s ≤ 1073741823) (hp : -1073741823 ≤ p ∧ p ≤ 1073741823) (h : ∀ o', k (Gl.av ⟨w, s, o', p⟩) σ) :
    CallT bud 246 [.int w, .int s, .int oi, .int p, .int 0] σ k := by
  rcases (by omega : oi = 0 ∨ oi = 1 ∨ oi = 2 ∨ oi = 3) with rfl | rfl | rfl | rfl
  · exact ct_Glue (o := .o0) ok hw hs hp fun o' _ => h o'
  · exact ct_Glue (o := .o1) ok hw hs hp fun o' _ => h o'
  · exact ct_Glue (o := .o2) ok hw hs hp fun o' _ => h o'
  · exact ct_Glue (o := .o3) ok hw hs hp fun o' _ => h o'
theorem mul_dim {u x : Int} (hu : 1 ≤ u ∧ u ≤ 1500007) (hx : -100 ≤ x ∧ x ≤ 100) : -1073741823 ≤ u * x ∧ u * x ≤ 1073741823 := by
  have := mulb (u := u) (-100) 100 (by omega) hx.1 hx.2
  omega
theorem CallT.fzo {f : Addr} {args : List AV} (h : CallT bud f args σ (fun v σ' => k v σ' ∨ ∃ a C d fs T, v = .ref a ∧ Wk σ'.T ((a, .inst C d fs) :: T) ∧ k (.obj C fs) ⟨σ'.loc, T⟩)) : CallT bud f args σ k :=
  ⟨fun cx ok => ⟨fun B s ys hR hr R hQ => (h.run cx ok).run B s ys hR hr R fun B' v σ' y h' tk n r e => by
    rcases e with e | ⟨a, C, d, fs, T, rfl, w, kk⟩
    · exact hQ B' _ _ _ h' tk n r e
    · obtain ⟨B'', n', le, r'⟩ := n.freeze w
      obtain rfl := r.refL
      exact hQ B'' _ _ _ h' tk n' r' kk⟩⟩
noncomputable def inB (lo hi : Int) (v : AV) : Bool := match v with
  | .int i => decide (lo ≤ i) && decide (i ≤ hi)
  | _ => false
theorem sub_ints {d : Int} {k : AV → Prop} (xs : List AV) (n : Nat) (lo hi : Int) (e : xs.all (inB lo hi) = true) (hn : xs.length = n) (hn2 : n ≤ 1000) (h : 0 ≤ d ∧ d < n) (H : ∀ v, lo ≤ v ∧ v ≤ hi → k (.int v)) : (-1000 ≤ d ∧ d ≤ 1000) ∧ idxK (pyIdx xs d) k := by
  have hl : d.toNat < xs.length := by omega
  have e' := List.all_eq_true.mp e _ (List.getElem_mem hl)
  have e2 : xs[d.toNat]? = some xs[d.toNat] := List.getElem?_eq_getElem hl
  generalize xs[d.toNat] = v at e' e2
  cases v with
  | int i =>
    have e' := Bool.and_eq_true_iff.mp e'
    exact sub_i (by omega) (by omega) e2 (H i ⟨of_decide_eq_true e'.1, of_decide_eq_true e'.2⟩)
  | _ => exact ff e'
theorem sub_6 {d : Int} {k : AV → Prop} (h : 0 ≤ d ∧ d < 6) (H : ∀ v, -1 ≤ v ∧ v ≤ 5 → k (.int v)) : (-1000 ≤ d ∧ d ≤ 1000) ∧ idxK (pyIdx [.int 1, .int 2, .int 3, .int 0, .int (-1), .int 5] d) k :=
  sub_ints _ 6 _ _ rfl rfl (by decide) h H
theorem sub_10 {d : Int} {k : AV → Prop} (h : 0 ≤ d ∧ d < 10) (H : ∀ v, -12000 ≤ v ∧ v ≤ 30000 → k (.int v)) : (-1000 ≤ d ∧ d ≤ 1000) ∧ idxK (pyIdx [.int 0, .int 9999, .int (-300), .int 2000, .int 10000, .int (-12000), .int (-9999), .int 50, .int 30000, .int (-10000)] d) k :=
  sub_ints _ 10 _ _ rfl rfl (by decide) h H
theorem sub_4u {d : Int} {k : AV → Prop} (h : 0 ≤ d ∧ d < 4) (H : ∀ v, 1 ≤ v ∧ v ≤ 1500007 → k (.int v)) : (-1000 ≤ d ∧ d ≤ 1000) ∧ idxK (pyIdx [.int 65536, .int 1500007, .int 1, .int 1000] d) k :=
  sub_ints _ 4 _ _ rfl rfl (by decide) h H
theorem sub_4d {d : Int} {k : AV → Prop} (h : 0 ≤ d ∧ d < 4) (H : ∀ v, 0 ≤ v ∧ v ≤ 30 → k (.int v)) : (-1000 ≤ d ∧ d ≤ 1000) ∧ idxK (pyIdx [.int 0, .int 1, .int 2, .int 30] d) k :=
  sub_ints _ 4 _ _ rfl rfl (by decide) h H
theorem sub_4t {d : Int} {k : AV → Prop} (h : 0 ≤ d ∧ d < 4) (H : ∀ v, 2 ≤ v ∧ v ≤ 4 → k (.int v)) : (-1000 ≤ d ∧ d ≤ 1000) ∧ idxK (pyIdx [.int 4, .int 4, .int 3, .int 2] d) k :=
  sub_ints _ 4 _ _ rfl rfl (by decide) h H
theorem nok_skip {u a b c : Int} {o : Or4} (so : Int) (l : Option Int) (hu : 1 ≤ u ∧ u ≤ 1500007) (ha : -1 ≤ a ∧ a ≤ 5) (hb : -1 ≤ b ∧ b ≤ 5) (hc : 0 ≤ c ∧ c ≤ 2) : NOk u (.skip ⟨u * a, u * b, o, u * c⟩ so l) ∧ u * a ≤ 5 * u := by
  have m1 := mulb (u := u) (-1) 5 (by omega) ha.1 ha.2
  have m2 := mulb (u := u) (-1) 5 (by omega) hb.1 hb.2
  have m3 := mulb (u := u) 0 2 (by omega) hc.1 hc.2
  simp only [NOk]
  omega
theorem ct_lskip (ok : 6 ≤ bud) {h : Addr} {w c n u : Int} (hu : 1 ≤ u ∧ u ≤ 1500007) (hT : Wk σ.T (hp h w c ++ R)) (hb : HB n w c) (hn : n ≤ 10000) (H : ∀ g so l w' c', NOk u (.skip g so l) → g.w ≤ 5 * u → HB (n + 5) w' c' → k (Nd.av (.skip g so l)) ⟨σ.loc, hp h w' c' ++ R⟩) : CallT bud 899 [.ref h, .int u] σ k := by
  refine callD ok in_law_skip false 60 [("heap", .ref h), ("unit", .int u)] (hp h w c) (R) rfl rfl (fun _ => .nil) (hT) (let s1 : AS := _; blk_cons (σ := s1) ?_)
  repeat' (first | k_extra "blk" | ((with_reducible refine at_ 354 ?_); refine ct_BoxF (by first | decide | omega) (by omega) ?_) | ((with_reducible refine at_ 418 ?_); (first | refine ct_Skip (by first | decide | omega) ?_ | refine ct_Skip0 (by first | decide | omega) (.inl rfl) ?_)) | ((refine (?_ : _ ∧ _)); (with_reducible refine g_sub ?_); (first | (refine sub_4t (by assumption) ?_; intro _ _) | (refine sub_4d (by assumption) ?_; intro _ _) | (refine sub_4u (by assumption) ?_; intro _ _) | (refine sub_10 (by assumption) ?_; intro _ _) | (refine sub_6 (by assumption) ?_; intro _ _) | (refine sub_n (by omega) (by omega) (by omega) (by assumption) ?_) | (refine sub_i (by omega) (by omega) (by assumption) ?_))) | k_extra "step")
  refine ct_ltake (by first | decide | omega) (by repeat (first | exact Wk.refl _ | exact Wk.nil _ | refine Wk.pick (by repeat (first | exact Pick.head | apply Pick.tail)) ?_)) hb (by omega) (by omega) ?_
  intro d1 w1 c1 b1 hb1
  repeat' (first | k_extra "blk" | ((with_reducible refine at_ 354 ?_); refine ct_BoxF (by first | decide | omega) (by omega) ?_) | ((with_reducible refine at_ 418 ?_); (first | refine ct_Skip (by first | decide | omega) ?_ | refine ct_Skip0 (by first | decide | omega) (.inl rfl) ?_)) | ((refine (?_ : _ ∧ _)); (with_reducible refine g_sub ?_); (first | (refine sub_4t (by assumption) ?_; intro _ _) | (refine sub_4d (by assumption) ?_; intro _ _) | (refine sub_4u (by assumption) ?_; intro _ _) | (refine sub_10 (by assumption) ?_; intro _ _) | (refine sub_6 (by assumption) ?_; intro _ _) | (refine sub_n (by omega) (by omega) (by omega) (by assumption) ?_) | (refine sub_i (by omega) (by omega) (by assumption) ?_))) | k_extra "step")
  refine ct_ltake (by first | decide | omega) (by repeat (first | exact Wk.refl _ | exact Wk.nil _ | refine Wk.pick (by repeat (first | exact Pick.head | apply Pick.tail)) ?_)) hb1 (by omega) (by omega) ?_
  intro d2 w2 c2 b2 hb2
  repeat' (first | k_extra "blk" | ((with_reducible refine at_ 354 ?_); refine ct_BoxF (by first | decide | omega) (by omega) ?_) | ((with_reducible refine at_ 418 ?_); (first | refine ct_Skip (by first | decide | omega) ?_ | refine ct_Skip0 (by first | decide | omega) (.inl rfl) ?_)) | ((refine (?_ : _ ∧ _)); (with_reducible refine g_sub ?_); (first | (refine sub_4t (by assumption) ?_; intro _ _) | (refine sub_4d (by assumption) ?_; intro _ _) | (refine sub_4u (by assumption) ?_; intro _ _) | (refine sub_10 (by assumption) ?_; intro _ _) | (refine sub_6 (by assumption) ?_; intro _ _) | (refine sub_n (by omega) (by omega) (by omega) (by assumption) ?_) | (refine sub_i (by omega) (by omega) (by assumption) ?_))) | k_extra "step")
  refine ct_ltake (by first | decide | omega) (by repeat (first | exact Wk.refl _ | exact Wk.nil _ | refine Wk.pick (by repeat (first | exact Pick.head | apply Pick.tail)) ?_)) hb2 (by omega) (by omega) ?_
  intro d3 w3 c3 b3 hb3
  repeat' (first | k_extra "blk" | ((with_reducible refine at_ 354 ?_); refine ct_BoxF (by first | decide | omega) (by omega) ?_) | ((with_reducible refine at_ 418 ?_); (first | refine ct_Skip (by first | decide | omega) ?_ | refine ct_Skip0 (by first | decide | omega) (.inl rfl) ?_)) | ((refine (?_ : _ ∧ _)); (with_reducible refine g_sub ?_); (first | (refine sub_4t (by assumption) ?_; intro _ _) | (refine sub_4d (by assumption) ?_; intro _ _) | (refine sub_4u (by assumption) ?_; intro _ _) | (refine sub_10 (by assumption) ?_; intro _ _) | (refine sub_6 (by assumption) ?_; intro _ _) | (refine sub_n (by omega) (by omega) (by omega) (by assumption) ?_) | (refine sub_i (by omega) (by omega) (by assumption) ?_))) | k_extra "step")
  refine ct_ltake (by first | decide | omega) (by repeat (first | exact Wk.refl _ | exact Wk.nil _ | refine Wk.pick (by repeat (first | exact Pick.head | apply Pick.tail)) ?_)) hb3 (by omega) (by omega) ?_
  intro d4 w4 c4 b4 hb4
  repeat' (first | k_extra "blk" | ((with_reducible refine at_ 354 ?_); refine ct_BoxF (by first | decide | omega) (by omega) ?_) | ((with_reducible refine at_ 418 ?_); (first | refine ct_Skip (by first | decide | omega) ?_ | refine ct_Skip0 (by first | decide | omega) (.inl rfl) ?_)) | ((refine (?_ : _ ∧ _)); (with_reducible refine g_sub ?_); (first | (refine sub_4t (by assumption) ?_; intro _ _) | (refine sub_4d (by assumption) ?_; intro _ _) | (refine sub_4u (by assumption) ?_; intro _ _) | (refine sub_10 (by assumption) ?_; intro _ _) | (refine sub_6 (by assumption) ?_; intro _ _) | (refine sub_n (by omega) (by omega) (by omega) (by assumption) ?_) | (refine sub_i (by omega) (by omega) (by assumption) ?_))) | k_extra "step")
  all_goals
    refine ct_GlueI (by first | decide | omega) (by omega) (mul_dim hu (by omega)) (mul_dim hu (by omega)) (mul_dim hu (by omega)) fun o => ?_
    repeat' (first | k_extra "blk" | ((with_reducible refine at_ 354 ?_); refine ct_BoxF (by first | decide | omega) (by omega) ?_) | ((with_reducible refine at_ 418 ?_); (first | refine ct_Skip (by first | decide | omega) ?_ | refine ct_Skip0 (by first | decide | omega) (.inl rfl) ?_)) | ((refine (?_ : _ ∧ _)); (with_reducible refine g_sub ?_); (first | (refine sub_4t (by assumption) ?_; intro _ _) | (refine sub_4d (by assumption) ?_; intro _ _) | (refine sub_4u (by assumption) ?_; intro _ _) | (refine sub_10 (by assumption) ?_; intro _ _) | (refine sub_6 (by assumption) ?_; intro _ _) | (refine sub_n (by omega) (by omega) (by omega) (by assumption) ?_) | (refine sub_i (by omega) (by omega) (by assumption) ?_))) | k_extra "step")
    refine ct_ltake (by first | decide | omega) (by repeat (first | exact Wk.refl _ | exact Wk.nil _ | refine Wk.pick (by repeat (first | exact Pick.head | apply Pick.tail)) ?_)) hb4 (by omega) (by omega) ?_
    intro d5 w5 c5 b5 hb5
    repeat' (first | k_extra "blk" | ((with_reducible refine at_ 354 ?_); refine ct_BoxF (by first | decide | omega) (by omega) ?_) | ((with_reducible refine at_ 418 ?_); (first | refine ct_Skip (by first | decide | omega) ?_ | refine ct_Skip0 (by first | decide | omega) (.inl rfl) ?_)) | ((refine (?_ : _ ∧ _)); (with_reducible refine g_sub ?_); (first | (refine sub_4t (by assumption) ?_; intro _ _) | (refine sub_4d (by assumption) ?_; intro _ _) | (refine sub_4u (by assumption) ?_; intro _ _) | (refine sub_10 (by assumption) ?_; intro _ _) | (refine sub_6 (by assumption) ?_; intro _ _) | (refine sub_n (by omega) (by omega) (by omega) (by assumption) ?_) | (refine sub_i (by omega) (by omega) (by assumption) ?_))) | k_extra "step")
  all_goals
    have nk := fun so l => nok_skip (o := o) (a := d1 - 1) (c := d4) so l hu (by omega) (by assumption) (by omega)
    first
      | exact ⟨hp h w5 c5, by repeat (first | exact Wk.refl _ | exact Wk.nil _ | refine Wk.pick (by repeat (first | exact Pick.head | apply Pick.tail)) ?_), H _ 1 (some u) w5 c5 (nk 1 (some u)).1 (nk 1 (some u)).2 (hb5.le (by omega))⟩
      | exact ⟨hp h w5 c5, by repeat (first | exact Wk.refl _ | exact Wk.nil _ | refine Wk.pick (by repeat (first | exact Pick.head | apply Pick.tail)) ?_), H _ 0 none w5 c5 (nk 0 none).1 (nk 0 none).2 (hb5.le (by omega))⟩
theorem ct_lstanding (ok : 6 ≤ bud) {h : Addr} {w c n u : Int} (hu : 1 ≤ u ∧ u ≤ 1500007) (hT : Wk σ.T (hp h w c ++ R)) (hb : HB n w c) (hn : n ≤ 10000) (H : ∀ nd w' c', NOk u nd → HB (n + 3) w' c' → k (Nd.av nd) ⟨σ.loc, hp h w' c' ++ R⟩) : CallT bud 906 [.ref h, .int u] σ k := by
  refine CallT.fzo ?_
  refine callD ok in_law_standing false 60 [("heap", .ref h), ("unit", .int u)] (hp h w c) (R) rfl rfl (fun _ => .nil) (hT) (let s1 : AS := _; blk_cons (σ := s1) ?_)
  repeat' (first | k_extra "blk" | ((with_reducible refine at_ 354 ?_); refine ct_BoxF (by first | decide | omega) (by omega) ?_) | k_extra "step")
  refine ct_ltake (by first | decide | omega) (by repeat (first | exact Wk.refl _ | exact Wk.nil _ | refine Wk.pick (by repeat (first | exact Pick.head | apply Pick.tail)) ?_)) hb (by omega) (by omega) ?_
  intro d1 w1 c1 b1 hb1
  repeat' (first | k_extra "blk" | ((with_reducible refine at_ 354 ?_); refine ct_BoxF (by first | decide | omega) (by omega) ?_) | k_extra "step")
  refine ct_ltake (by first | decide | omega) (by repeat (first | exact Wk.refl _ | exact Wk.nil _ | refine Wk.pick (by repeat (first | exact Pick.head | apply Pick.tail)) ?_)) hb1 (by omega) (by omega) ?_
  intro d2 w2 c2 b2 hb2
  repeat' (first | k_extra "blk" | ((with_reducible refine at_ 354 ?_); refine ct_BoxF (by first | decide | omega) (by omega) ?_) | k_extra "step")
  refine ct_ltake (by first | decide | omega) (by repeat (first | exact Wk.refl _ | exact Wk.nil _ | refine Wk.pick (by repeat (first | exact Pick.head | apply Pick.tail)) ?_)) hb2 (by omega) (by omega) ?_
  intro d3 w3 c3 b3 hb3
  have m1 := mulb (u := u) (x := d1 - 1) (-1) 10 (by omega) (by omega) (by omega)
  have m2 := mulb (u := u) (x := d2 - 1) (-1) 4 (by omega) (by omega) (by omega)
  have m3 : d3 ≤ 5 → u * (-2) ≤ u * (d3 - 2) ∧ u * (d3 - 2) ≤ u * 3 := fun h => mulb (u := u) (x := d3 - 2) (-2) 3 (by omega) (by omega) (by omega)
  have f1 := fmod_b (a := d3) (m := 2) (by decide)
  have hk : 2 + d3.fmod 2 = 2 ∨ 2 + d3.fmod 2 = 3 := by omega
  have hb' : HB (n + 3) w3 c3 := hb3.le (by omega)
  repeat' (first | k_extra "blk" | ((with_reducible refine at_ 354 ?_); refine ct_BoxF (by first | decide | omega) (by omega) ?_) | k_extra "step")
  · refine ct_Rule (h := some (u * (d1 - 1))) (by first | decide | omega) (fun i e => by cases e; exact mul_dim hu (by omega)) (mul_dim hu (by omega)) ?_
    repeat' (first | k_extra "blk" | ((with_reducible refine at_ 354 ?_); refine ct_BoxF (by first | decide | omega) (by omega) ?_) | k_extra "step")
    exact ⟨hp h w3 c3, by repeat (first | exact Wk.refl _ | exact Wk.nil _ | refine Wk.pick (by repeat (first | exact Pick.head | apply Pick.tail)) ?_), .inl (H (.rule (some (u * (d1 - 1))) (u * (d2 - 1))) w3 c3 ⟨fun i e => by cases e; omega, by omega⟩ hb')⟩
  · refine ct_Rule (h := none) (by first | decide | omega) (fun i e => by cases e) (mul_dim hu (by omega)) ?_
    repeat' (first | k_extra "blk" | ((with_reducible refine at_ 354 ?_); refine ct_BoxF (by first | decide | omega) (by omega) ?_) | k_extra "step")
    exact ⟨hp h w3 c3, by repeat (first | exact Wk.refl _ | exact Wk.nil _ | refine Wk.pick (by repeat (first | exact Pick.head | apply Pick.tail)) ?_), .inl (H (.rule none (u * (d2 - 1))) w3 c3 ⟨(fun i e => by cases e), by omega⟩ hb')⟩
  · have m4 := m3 (by omega)
    clear m3
    rcases hk with hk | hk
    all_goals
      conv => whnf
      rw [hk]
      refine ct_Box (by first | decide | omega) (by omega) (by omega) (mul_dim hu (by omega)) (mul_dim hu (by omega)) rfl fun x e => ?_
      repeat' (first | k_extra "blk" | ((with_reducible refine at_ 354 ?_); refine ct_BoxF (by first | decide | omega) (by omega) ?_) | k_extra "step")
    · exact ⟨(x, .inst 354 e (boxF 2 u (u * (d1 - 1)) (u * (d2 - 1)) (u * (d3 - 2)) (.int 0) (.int 0) (.tup [.int 0, .int 1]) (.lst []))) :: hp h w3 c3, Wk.refl _, .inr ⟨x, 354, e, _, hp h w3 c3 ++ R, rfl, Wk.refl _, H (.box false u (u * (d1 - 1)) (u * (d2 - 1)) (u * (d3 - 2))) w3 c3 ⟨by omega, by omega, by omega, by omega⟩ hb'⟩⟩
    · exact ⟨(x, .inst 354 e (boxF 3 u (u * (d1 - 1)) (u * (d2 - 1)) (u * (d3 - 2)) (.int 0) (.int 0) (.tup [.int 0, .int 1]) (.lst []))) :: hp h w3 c3, Wk.refl _, .inr ⟨x, 354, e, _, hp h w3 c3 ++ R, rfl, Wk.refl _, H (.box true u (u * (d1 - 1)) (u * (d2 - 1)) (u * (d3 - 2))) w3 c3 ⟨by omega, by omega, by omega, by omega⟩ hb'⟩⟩
theorem ct_lgap (ok : 8 ≤ bud) {h : Addr} {w c n u : Int} (hu : 1 ≤ u ∧ u ≤ 1500007) (hT : Wk σ.T (hp h w c ++ R)) (hb : HB n w c) (hn : n ≤ 9000) (H : ∀ (ns : List Nd) w' c', (∀ nd ∈ ns, NOk u nd) → ns.length ≤ 2 → HB (n + 8) w' c' → k (.lst (ns.map Nd.av)) ⟨σ.loc, hp h w' c' ++ R⟩) : CallT bud 913 [.ref h, .int u] σ k := by
  have one : ∀ {nd : Nd}, NOk u nd → ∀ m ∈ [nd], NOk u m := fun h m hm => by rw [List.mem_singleton.mp hm]; exact h
  have two : ∀ {nd nd' : Nd}, NOk u nd → NOk u nd' → ∀ m ∈ [nd, nd'], NOk u m := fun h h' m hm => by
    rcases List.mem_cons.mp hm with rfl | hm
    · exact h
    · rw [List.mem_singleton.mp hm]; exact h'
  refine callD ok in_law_gap false 60 [("heap", .ref h), ("unit", .int u)] (hp h w c) (R) rfl rfl (fun _ => .nil) (hT) (let s1 : AS := _; blk_cons (σ := s1) ?_)
  repeat' (first | k_extra "blk" | ((with_reducible refine at_ 481 ?_); refine ct_Special (by first | decide | omega) ?_) | ((with_reducible refine at_ 460 ?_); refine ct_Mark (by first | decide | omega) ?_) | ((with_reducible refine at_ 396 ?_); refine ct_Kern (by first | decide | omega) (mul_dim (by assumption) (by omega)) ?_) | ((with_reducible refine at_ 439 ?_); refine ct_Penalty (by first | decide | omega) (by omega) ?_) | ((refine (?_ : _ ∧ _)); (with_reducible refine g_sub ?_); (first | (refine sub_4t (by assumption) ?_; intro _ _) | (refine sub_4d (by assumption) ?_; intro _ _) | (refine sub_4u (by assumption) ?_; intro _ _) | (refine sub_10 (by assumption) ?_; intro _ _) | (refine sub_6 (by assumption) ?_; intro _ _) | (refine sub_n (by omega) (by omega) (by omega) (by assumption) ?_) | (refine sub_i (by omega) (by omega) (by assumption) ?_))) | k_extra "step")
  refine ct_ltake (by first | decide | omega) (by repeat (first | exact Wk.refl _ | exact Wk.nil _ | refine Wk.pick (by repeat (first | exact Pick.head | apply Pick.tail)) ?_)) hb (by omega) (by omega) ?_
  intro d1 w1 c1 b1 hb1
  repeat' (first | k_extra "blk" | ((with_reducible refine at_ 481 ?_); refine ct_Special (by first | decide | omega) ?_) | ((with_reducible refine at_ 460 ?_); refine ct_Mark (by first | decide | omega) ?_) | ((with_reducible refine at_ 396 ?_); refine ct_Kern (by first | decide | omega) (mul_dim (by assumption) (by omega)) ?_) | ((with_reducible refine at_ 439 ?_); refine ct_Penalty (by first | decide | omega) (by omega) ?_) | ((refine (?_ : _ ∧ _)); (with_reducible refine g_sub ?_); (first | (refine sub_4t (by assumption) ?_; intro _ _) | (refine sub_4d (by assumption) ?_; intro _ _) | (refine sub_4u (by assumption) ?_; intro _ _) | (refine sub_10 (by assumption) ?_; intro _ _) | (refine sub_6 (by assumption) ?_; intro _ _) | (refine sub_n (by omega) (by omega) (by omega) (by assumption) ?_) | (refine sub_i (by omega) (by omega) (by assumption) ?_))) | k_extra "step")
  · refine ct_lskip (by first | decide | omega) hu (by repeat (first | exact Wk.refl _ | exact Wk.nil _ | refine Wk.pick (by repeat (first | exact Pick.head | apply Pick.tail)) ?_)) hb1 (by omega) ?_
    intro g so l w2 c2 n1 n2 hb2
    repeat' (first | k_extra "blk" | ((with_reducible refine at_ 481 ?_); refine ct_Special (by first | decide | omega) ?_) | ((with_reducible refine at_ 460 ?_); refine ct_Mark (by first | decide | omega) ?_) | ((with_reducible refine at_ 396 ?_); refine ct_Kern (by first | decide | omega) (mul_dim (by assumption) (by omega)) ?_) | ((with_reducible refine at_ 439 ?_); refine ct_Penalty (by first | decide | omega) (by omega) ?_) | ((refine (?_ : _ ∧ _)); (with_reducible refine g_sub ?_); (first | (refine sub_4t (by assumption) ?_; intro _ _) | (refine sub_4d (by assumption) ?_; intro _ _) | (refine sub_4u (by assumption) ?_; intro _ _) | (refine sub_10 (by assumption) ?_; intro _ _) | (refine sub_6 (by assumption) ?_; intro _ _) | (refine sub_n (by omega) (by omega) (by omega) (by assumption) ?_) | (refine sub_i (by omega) (by omega) (by assumption) ?_))) | k_extra "step")
    exact ⟨hp h w2 c2, by repeat (first | exact Wk.refl _ | exact Wk.nil _ | refine Wk.pick (by repeat (first | exact Pick.head | apply Pick.tail)) ?_), H [Nd.skip g so l] w2 c2 (one n1) (by simp) (hb2.le (by omega))⟩
  · refine ct_ltake (by first | decide | omega) (by repeat (first | exact Wk.refl _ | exact Wk.nil _ | refine Wk.pick (by repeat (first | exact Pick.head | apply Pick.tail)) ?_)) hb1 (by omega) (by omega) ?_
    intro d2 w2 c2 b2 hb2
    repeat' (first | k_extra "blk" | ((with_reducible refine at_ 481 ?_); refine ct_Special (by first | decide | omega) ?_) | ((with_reducible refine at_ 460 ?_); refine ct_Mark (by first | decide | omega) ?_) | ((with_reducible refine at_ 396 ?_); refine ct_Kern (by first | decide | omega) (mul_dim (by assumption) (by omega)) ?_) | ((with_reducible refine at_ 439 ?_); refine ct_Penalty (by first | decide | omega) (by omega) ?_) | ((refine (?_ : _ ∧ _)); (with_reducible refine g_sub ?_); (first | (refine sub_4t (by assumption) ?_; intro _ _) | (refine sub_4d (by assumption) ?_; intro _ _) | (refine sub_4u (by assumption) ?_; intro _ _) | (refine sub_10 (by assumption) ?_; intro _ _) | (refine sub_6 (by assumption) ?_; intro _ _) | (refine sub_n (by omega) (by omega) (by omega) (by assumption) ?_) | (refine sub_i (by omega) (by omega) (by assumption) ?_))) | k_extra "step")
    · exact ⟨hp h w2 c2, by repeat (first | exact Wk.refl _ | exact Wk.nil _ | refine Wk.pick (by repeat (first | exact Pick.head | apply Pick.tail)) ?_), H [.pen _] w2 c2 (one (show NOk u (.pen _) from ⟨by omega, by omega⟩)) (by simp) (hb2.le (by omega))⟩
    all_goals
      refine ct_lskip (by first | decide | omega) hu (by repeat (first | exact Wk.refl _ | exact Wk.nil _ | refine Wk.pick (by repeat (first | exact Pick.head | apply Pick.tail)) ?_)) hb2 (by omega) ?_
      intro g so l w3 c3 n1 n2 hb3
      repeat' (first | k_extra "blk" | ((with_reducible refine at_ 481 ?_); refine ct_Special (by first | decide | omega) ?_) | ((with_reducible refine at_ 460 ?_); refine ct_Mark (by first | decide | omega) ?_) | ((with_reducible refine at_ 396 ?_); refine ct_Kern (by first | decide | omega) (mul_dim (by assumption) (by omega)) ?_) | ((with_reducible refine at_ 439 ?_); refine ct_Penalty (by first | decide | omega) (by omega) ?_) | ((refine (?_ : _ ∧ _)); (with_reducible refine g_sub ?_); (first | (refine sub_4t (by assumption) ?_; intro _ _) | (refine sub_4d (by assumption) ?_; intro _ _) | (refine sub_4u (by assumption) ?_; intro _ _) | (refine sub_10 (by assumption) ?_; intro _ _) | (refine sub_6 (by assumption) ?_; intro _ _) | (refine sub_n (by omega) (by omega) (by omega) (by assumption) ?_) | (refine sub_i (by omega) (by omega) (by assumption) ?_))) | k_extra "step")
      first
        | exact ⟨hp h w3 c3, by repeat (first | exact Wk.refl _ | exact Wk.nil _ | refine Wk.pick (by repeat (first | exact Pick.head | apply Pick.tail)) ?_), H [.pen _, .skip g so l] w3 c3 (two (show NOk u (.pen _) from ⟨by omega, by omega⟩) n1) (by simp) (hb3.le (by omega))⟩
        | exact ⟨hp h w3 c3, by repeat (first | exact Wk.refl _ | exact Wk.nil _ | refine Wk.pick (by repeat (first | exact Pick.head | apply Pick.tail)) ?_), H [.skip g so l, .pen _] w3 c3 (two n1 (show NOk u (.pen _) from ⟨by omega, by omega⟩)) (by simp) (hb3.le (by omega))⟩
  · refine ct_ltake (by first | decide | omega) (by repeat (first | exact Wk.refl _ | exact Wk.nil _ | refine Wk.pick (by repeat (first | exact Pick.head | apply Pick.tail)) ?_)) hb1 (by omega) (by omega) ?_
    intro d2 w2 c2 b2 hb2
    have nk : NOk u (.kern (u * (d2 - 2))) := by
      have := mulb (u := u) (x := d2 - 2) (-2) 3 (by omega) (by omega) (by omega)
      simp only [NOk]
      omega
    repeat' (first | k_extra "blk" | ((with_reducible refine at_ 481 ?_); refine ct_Special (by first | decide | omega) ?_) | ((with_reducible refine at_ 460 ?_); refine ct_Mark (by first | decide | omega) ?_) | ((with_reducible refine at_ 396 ?_); refine ct_Kern (by first | decide | omega) (mul_dim (by assumption) (by omega)) ?_) | ((with_reducible refine at_ 439 ?_); refine ct_Penalty (by first | decide | omega) (by omega) ?_) | ((refine (?_ : _ ∧ _)); (with_reducible refine g_sub ?_); (first | (refine sub_4t (by assumption) ?_; intro _ _) | (refine sub_4d (by assumption) ?_; intro _ _) | (refine sub_4u (by assumption) ?_; intro _ _) | (refine sub_10 (by assumption) ?_; intro _ _) | (refine sub_6 (by assumption) ?_; intro _ _) | (refine sub_n (by omega) (by omega) (by omega) (by assumption) ?_) | (refine sub_i (by omega) (by omega) (by assumption) ?_))) | k_extra "step")
    · exact ⟨hp h w2 c2, by repeat (first | exact Wk.refl _ | exact Wk.nil _ | refine Wk.pick (by repeat (first | exact Pick.head | apply Pick.tail)) ?_), H [.kern (u * (d2 - 2))] w2 c2 (one nk) (by simp) (hb2.le (by omega))⟩
    · refine ct_ltake (by first | decide | omega) (by repeat (first | exact Wk.refl _ | exact Wk.nil _ | refine Wk.pick (by repeat (first | exact Pick.head | apply Pick.tail)) ?_)) hb2 (by omega) (by omega) ?_
      intro d3 w3 c3 b3 hb3
      rcases (by omega : d3 = 0 ∨ d3 = 1) with rfl | rfl
      all_goals
        repeat' (first | k_extra "blk" | ((with_reducible refine at_ 481 ?_); refine ct_Special (by first | decide | omega) ?_) | ((with_reducible refine at_ 460 ?_); refine ct_Mark (by first | decide | omega) ?_) | ((with_reducible refine at_ 396 ?_); refine ct_Kern (by first | decide | omega) (mul_dim (by assumption) (by omega)) ?_) | ((with_reducible refine at_ 439 ?_); refine ct_Penalty (by first | decide | omega) (by omega) ?_) | ((refine (?_ : _ ∧ _)); (with_reducible refine g_sub ?_); (first | (refine sub_4t (by assumption) ?_; intro _ _) | (refine sub_4d (by assumption) ?_; intro _ _) | (refine sub_4u (by assumption) ?_; intro _ _) | (refine sub_10 (by assumption) ?_; intro _ _) | (refine sub_6 (by assumption) ?_; intro _ _) | (refine sub_n (by omega) (by omega) (by omega) (by assumption) ?_) | (refine sub_i (by omega) (by omega) (by assumption) ?_))) | k_extra "step")
        refine ct_lskip (by first | decide | omega) hu (by repeat (first | exact Wk.refl _ | exact Wk.nil _ | refine Wk.pick (by repeat (first | exact Pick.head | apply Pick.tail)) ?_)) hb3 (by omega) ?_
        intro g so l w4 c4 n1 n2 hb4
        repeat' (first | k_extra "blk" | ((with_reducible refine at_ 481 ?_); refine ct_Special (by first | decide | omega) ?_) | ((with_reducible refine at_ 460 ?_); refine ct_Mark (by first | decide | omega) ?_) | ((with_reducible refine at_ 396 ?_); refine ct_Kern (by first | decide | omega) (mul_dim (by assumption) (by omega)) ?_) | ((with_reducible refine at_ 439 ?_); refine ct_Penalty (by first | decide | omega) (by omega) ?_) | ((refine (?_ : _ ∧ _)); (with_reducible refine g_sub ?_); (first | (refine sub_4t (by assumption) ?_; intro _ _) | (refine sub_4d (by assumption) ?_; intro _ _) | (refine sub_4u (by assumption) ?_; intro _ _) | (refine sub_10 (by assumption) ?_; intro _ _) | (refine sub_6 (by assumption) ?_; intro _ _) | (refine sub_n (by omega) (by omega) (by omega) (by assumption) ?_) | (refine sub_i (by omega) (by omega) (by assumption) ?_))) | k_extra "step")
        first
          | exact ⟨hp h w4 c4, by repeat (first | exact Wk.refl _ | exact Wk.nil _ | refine Wk.pick (by repeat (first | exact Pick.head | apply Pick.tail)) ?_), H [.mark, .skip g so l] w4 c4 (two trivial n1) (by simp) (hb4.le (by omega))⟩
          | exact ⟨hp h w4 c4, by repeat (first | exact Wk.refl _ | exact Wk.nil _ | refine Wk.pick (by repeat (first | exact Pick.head | apply Pick.tail)) ?_), H [.spec, .skip g so l] w4 c4 (two trivial n1) (by simp) (hb4.le (by omega))⟩
    · refine ct_lskip (by first | decide | omega) hu (by repeat (first | exact Wk.refl _ | exact Wk.nil _ | refine Wk.pick (by repeat (first | exact Pick.head | apply Pick.tail)) ?_)) hb2 (by omega) ?_
      intro g so l w3 c3 n1 n2 hb3
      repeat' (first | k_extra "blk" | ((with_reducible refine at_ 481 ?_); refine ct_Special (by first | decide | omega) ?_) | ((with_reducible refine at_ 460 ?_); refine ct_Mark (by first | decide | omega) ?_) | ((with_reducible refine at_ 396 ?_); refine ct_Kern (by first | decide | omega) (mul_dim (by assumption) (by omega)) ?_) | ((with_reducible refine at_ 439 ?_); refine ct_Penalty (by first | decide | omega) (by omega) ?_) | ((refine (?_ : _ ∧ _)); (with_reducible refine g_sub ?_); (first | (refine sub_4t (by assumption) ?_; intro _ _) | (refine sub_4d (by assumption) ?_; intro _ _) | (refine sub_4u (by assumption) ?_; intro _ _) | (refine sub_10 (by assumption) ?_; intro _ _) | (refine sub_6 (by assumption) ?_; intro _ _) | (refine sub_n (by omega) (by omega) (by omega) (by assumption) ?_) | (refine sub_i (by omega) (by omega) (by assumption) ?_))) | k_extra "step")
      exact ⟨hp h w3 c3, by repeat (first | exact Wk.refl _ | exact Wk.nil _ | refine Wk.pick (by repeat (first | exact Pick.head | apply Pick.tail)) ?_), H [.kern (u * (d2 - 2)), .skip g so l] w3 c3 (two nk n1) (by simp) (hb3.le (by omega))⟩
theorem e18 : (10 : Int) ^ (18 : Int).toNat = 1000000000000000000 := by decide
theorem e30 : (2 : Int) ^ (30 : Int).toNat = 1073741824 := by decide
theorem e60 : (10 : Int) ^ (60 : Int).toNat = 1000000000000000000000000000000000000000000000000000000000000 := by decide
theorem g300 : ∃ p : Int, 0 < p ∧ (10 : Int) ^ (300 : Int).toNat = p := ⟨_, Int.pow_pos (by decide), rfl⟩
theorem ct_lheap (ok : 2 ≤ bud) {ns : List Int} (hl : ns.length ≤ 900) (H : ∀ h w, 0 ≤ w → k (.ref h) ⟨σ.loc, hp h w 0 ++ σ.T⟩) : CallT bud 885 [.src (ns.map AV.int)] σ k := by
  have hl' : (ns.map AV.int).length ≤ 900 := by simpa using hl
  refine callD ok in_law_heap true 60 [("script", .src (ns.map AV.int))] ([]) (σ.T) rfl rfl (fun _ => .nil) (Wk.refl _) (let s1 : AS := _; blk_cons (σ := s1) ?_)
  repeat' (first | k_extra "blk" | ((refine (?_ : _ ∧ _)); refine and_i (by decide) ?_; (first | rw [e18] | rw [e30] | rw [e60] | (obtain ⟨p, h1, h2⟩ := g300; rw [h2]; clear h2))) | k_extra "step")
  have e1 : cut none (some (63 : Int).toNat) (ns.map AV.int) = (ns.take 63).map AV.int := by simp [cut, List.map_take]
  rw [e1]
  refine forK_abs fun F step done => ?_
  have key : ∀ (ms : List Int) (w : Int), 0 ≤ w → F (ms.map AV.int) ⟨[("script", .src (ns.map AV.int)), ("whole", .int w)], []⟩ := by
    intro ms
    induction ms with
    | nil =>
      intro w hw
      refine done _ ?_
      repeat' (first | k_extra "blk" | ((refine (?_ : _ ∧ _)); refine and_i (by decide) ?_; (first | rw [e18] | rw [e30] | rw [e60] | (obtain ⟨p, h1, h2⟩ := g300; rw [h2]; clear h2))) | k_extra "step")
      exact ⟨hp _ w 0, Wk.refl _, H _ w hw⟩
    | cons c ms ih =>
      intro w hw
      refine step _ _ _ ?_
      have hb : ∀ b : Bool, 0 ≤ (cond b 1 0 : Int) ∧ (cond b 1 0 : Int) ≤ 1 := fun b => by cases b <;> decide
      have hc := hb (decide (c < 0))
      obtain ⟨a, ha, ea⟩ : ∃ a : Int, 0 ≤ a ∧ (c.natAbs : Int) = a := ⟨_, by omega, rfl⟩
      conv => whnf
      refine g_stop ?_
      k_extra "blk"
      conv => whnf
      rw [ea]
      repeat' (first | k_extra "blk" | ((refine (?_ : _ ∧ _)); refine and_i (by decide) ?_; (first | rw [e18] | rw [e30] | rw [e60] | (obtain ⟨p, h1, h2⟩ := g300; rw [h2]; clear h2))) | k_extra "step")
      all_goals exact ease_to [("script", .src (ns.map AV.int)), ("whole", .int _)] [] (by repeat (first | exact True.intro | refine And.intro rfl ?_)) (Wk.refl _) (ih _ (fmod_b (by assumption)).1)
  exact key _ 0 (by decide)
theorem at_mid {pre rest : List Nd} {nd : Nd} {xs : List AV} {i : Int} (hx : xs = (pre ++ nd :: rest).map Nd.av) (hi : i = pre.length) : xs[i.toNat]? = some nd.av := by
  subst hx hi
  simp
theorem at_pre {pre rest : List Nd} {nd q : Nd} {xs : List AV} {i : Int} (hx : xs = ((pre ++ [q]) ++ nd :: rest).map Nd.av) (hi : i = (pre ++ [q]).length) : xs[(i - 1).toNat]? = some q.av := by
  subst hx hi
  have : (((pre ++ [q]).length : Nat) : Int) - 1 = pre.length := by simp
  rw [this]
  simp
theorem cut_mid {pre rest : List Nd} {nd : Nd} {xs : List AV} {i : Int} (hx : xs = (pre ++ nd :: rest).map Nd.av) (hi : i = pre.length) : cut (some (i + 1).toNat) (some (i + 2).toNat) xs = (rest.take 1).map Nd.av := by
  subst hx hi
  have key : ∀ (l r : List AV) (n m : Nat), n = l.length → m = l.length + 1 → ((l ++ r).take m).drop n = r.take 1 := by
    intro l r n m h1 h2
    subst h1 h2
    rw [List.take_length_add_append, List.drop_left]
  have e : (pre ++ nd :: rest).map Nd.av = (pre ++ [nd]).map Nd.av ++ rest.map Nd.av := by simp
  rw [e]
  exact (key _ _ _ _ (by simp <;> omega) (by simp <;> omega)).trans (by rw [List.map_take])
theorem pen_kern {pre rest : List Nd} {w : Int} : pen pre (.kern w) rest = (match rest.take 1 with | [r] => if r.kd = 6 then some 0 else none | _ => none) := by
  cases rest <;> rfl
theorem ct_lprice (ok : 2 ≤ bud) {pre rest : List Nd} {nd : Nd} {xs : List AV} {i : Int} (hx : xs = (pre ++ nd :: rest).map Nd.av) (hi : i = pre.length) (hl : pre.length + rest.length ≤ 200) (H : ∀ p, p = (pen pre nd rest).getD 10000 → k (.int p) σ) : CallT bud 918 [.lst xs, .int i] σ k := by
  have h0 := at_mid hx hi
  have hlen : xs.length = pre.length + (rest.length + 1) := by rw [hx]; simp
  have hcut := cut_mid hx hi
  have hlast : pre = [] ∨ ∃ a l, pre = a ++ [l] := by
    rcases List.eq_nil_or_concat pre with h | ⟨a, l, h⟩
    · exact .inl h
    · exact .inr ⟨a, l, by rw [h]; simp⟩
  refine callD ok in_law_price false 60 [("line", .lst xs), ("place", .int i)] ([]) (σ.T) rfl rfl (fun _ => .nil) (Wk.refl _) (let s1 : AS := _; blk_cons (σ := s1) ?_)
  rcases nd with ⟨_ | _, w, h, d, sh⟩ | ⟨h, d⟩ | w | ⟨g, so, l⟩ | v | _ | _
  case kern =>
    repeat' (first | k_extra "blk" | ((refine (?_ : _ ∧ _)); (with_reducible refine g_sub ?_); (first | (refine sub_4t (by assumption) ?_; intro _ _) | (refine sub_4d (by assumption) ?_; intro _ _) | (refine sub_4u (by assumption) ?_; intro _ _) | (refine sub_10 (by assumption) ?_; intro _ _) | (refine sub_6 (by assumption) ?_; intro _ _) | (refine sub_n (by omega) (by omega) (by omega) (by assumption) ?_) | (refine sub_i (by omega) (by omega) (by assumption) ?_))) | k_extra "step")
    refine comp_one (ml := false) (m := 12) (by decide) (by decide) rfl (by decide) rfl rfl rfl ?_
    repeat' (first | k_extra "blk" | ((refine (?_ : _ ∧ _)); (with_reducible refine g_sub ?_); (first | (refine sub_4t (by assumption) ?_; intro _ _) | (refine sub_4d (by assumption) ?_; intro _ _) | (refine sub_4u (by assumption) ?_; intro _ _) | (refine sub_10 (by assumption) ?_; intro _ _) | (refine sub_6 (by assumption) ?_; intro _ _) | (refine sub_n (by omega) (by omega) (by omega) (by assumption) ?_) | (refine sub_i (by omega) (by omega) (by assumption) ?_))) | k_extra "step")
    rcases rest with _ | ⟨r, rest⟩
    · refine ⟨[], [], by rw [hcut]; rfl, .inl ⟨rfl, rfl⟩, ?_⟩
      repeat' (first | k_extra "blk" | ((refine (?_ : _ ∧ _)); (with_reducible refine g_sub ?_); (first | (refine sub_4t (by assumption) ?_; intro _ _) | (refine sub_4d (by assumption) ?_; intro _ _) | (refine sub_4u (by assumption) ?_; intro _ _) | (refine sub_10 (by assumption) ?_; intro _ _) | (refine sub_6 (by assumption) ?_; intro _ _) | (refine sub_n (by omega) (by omega) (by omega) (by assumption) ?_) | (refine sub_i (by omega) (by omega) (by assumption) ?_))) | k_extra "step")
      exact ⟨[], Wk.refl _, H _ rfl⟩
    · refine ⟨[r.av], [.int r.kd], by rw [hcut]; rfl, .inr ⟨_, _, rfl, rfl, ?_⟩, ?_⟩
      · rcases r with ⟨_ | _, w, h, d, sh⟩ | ⟨h, d⟩ | w | ⟨g, so, l⟩ | v | _ | _ <;> exact ⟨_, _, rfl, rfl⟩
      · repeat' (first | k_extra "blk" | ((refine (?_ : _ ∧ _)); (with_reducible refine g_sub ?_); (first | (refine sub_4t (by assumption) ?_; intro _ _) | (refine sub_4d (by assumption) ?_; intro _ _) | (refine sub_4u (by assumption) ?_; intro _ _) | (refine sub_10 (by assumption) ?_; intro _ _) | (refine sub_6 (by assumption) ?_; intro _ _) | (refine sub_n (by omega) (by omega) (by omega) (by assumption) ?_) | (refine sub_i (by omega) (by omega) (by assumption) ?_))) | k_extra "step")
        all_goals exact ⟨[], Wk.refl _, H _ (by clear ok H; simp_all [pen])⟩
  case skip =>
    rcases hlast with rfl | ⟨a, q, rfl⟩
    · have hi0 : i = 0 := hi
      repeat' (first | k_extra "blk" | ((refine (?_ : _ ∧ _)); (with_reducible refine g_sub ?_); (first | (refine sub_4t (by assumption) ?_; intro _ _) | (refine sub_4d (by assumption) ?_; intro _ _) | (refine sub_4u (by assumption) ?_; intro _ _) | (refine sub_10 (by assumption) ?_; intro _ _) | (refine sub_6 (by assumption) ?_; intro _ _) | (refine sub_n (by omega) (by omega) (by omega) (by assumption) ?_) | (refine sub_i (by omega) (by omega) (by assumption) ?_))) | k_extra "step")
      exact ⟨[], Wk.refl _, H _ rfl⟩
    · have h1 := at_pre hx hi
      have hlp : (a ++ [q]).length = a.length + 1 := by simp
      have hlq : (a ++ [q]).getLast? = some q := by simp
      rcases q with ⟨_ | _, w, h, d, sh⟩ | ⟨h, d⟩ | w | ⟨g', so', l'⟩ | v | _ | _
      all_goals
        repeat' (first | k_extra "blk" | ((refine (?_ : _ ∧ _)); (with_reducible refine g_sub ?_); (first | (refine sub_4t (by assumption) ?_; intro _ _) | (refine sub_4d (by assumption) ?_; intro _ _) | (refine sub_4u (by assumption) ?_; intro _ _) | (refine sub_10 (by assumption) ?_; intro _ _) | (refine sub_6 (by assumption) ?_; intro _ _) | (refine sub_n (by omega) (by omega) (by omega) (by assumption) ?_) | (refine sub_i (by omega) (by omega) (by assumption) ?_))) | k_extra "step")
        exact ⟨[], Wk.refl _, H _ (by simp [pen, hlq, Nd.disc])⟩
  all_goals
    repeat' (first | k_extra "blk" | ((refine (?_ : _ ∧ _)); (with_reducible refine g_sub ?_); (first | (refine sub_4t (by assumption) ?_; intro _ _) | (refine sub_4d (by assumption) ?_; intro _ _) | (refine sub_4u (by assumption) ?_; intro _ _) | (refine sub_10 (by assumption) ?_; intro _ _) | (refine sub_6 (by assumption) ?_; intro _ _) | (refine sub_n (by omega) (by omega) (by omega) (by assumption) ?_) | (refine sub_i (by omega) (by omega) (by assumption) ?_))) | k_extra "step")
    exact ⟨[], Wk.refl _, H _ rfl⟩
structure Un (u goal deep : Int) : Prop where
  u1 : 1 ≤ u ∧ u ≤ 1500007
  g : -u ≤ goal ∧ goal ≤ 27 * u
  d : 0 ≤ deep ∧ deep ≤ 30 * u
theorem ct_lcost (ok : 8 ≤ bud) {pre : List Nd} {xs : List AV} {u goal deep p : Int} (U : Un u goal deep) (hx : xs = pre.map Nd.av) (hok : ∀ n ∈ pre, NOk u n) (hl : pre.length ≤ 40) (H : ∀ r, r = lcost pre goal deep p → k (.int r) σ) : CallT bud 925 [.lst xs, .int p, .int goal, .int deep] σ k := by
  obtain ⟨u1, ug, ud⟩ := U
  obtain ⟨t, t1, t2, B⟩ := Bnd.of u1.1 hok hl
  obtain ⟨q1, q2, q3, q4, q5⟩ := B
  have hc := (Sm.zero.run pre).cap_le deep
  refine callD ok in_law_cost false 60 [("parts", .lst xs), ("price", .int p), ("goal", .int goal), ("deep", .int deep)] ([]) (σ.T) rfl rfl (fun _ => .nil) (Wk.refl _) (let s1 : AS := _; blk_cons (σ := s1) ?_)
  repeat' (first | k_extra "blk" | ((refine (?_ : _ ∧ _)); refine and_i (by decide) ?_; (first | rw [e18] | rw [e30] | rw [e60] )) | ((refine (?_ : _ ∧ _)); (with_reducible refine g_sub ?_); (first | (refine sub_4t (by assumption) ?_; intro _ _) | (refine sub_4d (by assumption) ?_; intro _ _) | (refine sub_4u (by assumption) ?_; intro _ _) | (refine sub_10 (by assumption) ?_; intro _ _) | (refine sub_6 (by assumption) ?_; intro _ _) | (refine sub_n (by omega) (by omega) (by omega) (by assumption) ?_) | (refine sub_i (by omega) (by omega) (by assumption) ?_))) | k_extra "step")
  refine ct_vpack (by first | decide | omega) hx rfl (.inl rfl) (ht := goal) (by omega) (by omega) (by omega) (by omega) (by omega) (fun _ => rfl) (fun e => by omega) (by omega) (by omega) (by omega) ?_
  intro b e sg od ra c m' hcm
  have hL : lcost pre goal deep p = if c = 3 then 1073741823 else if p ≤ -10000 then p else if m' < 10000 then m' + p else 100000 := by
    simp only [lcost, ← hcm]
  clear hcm hc q1 q2 q3 q4 q5 hx hok
  repeat' (first | k_extra "blk" | ((refine (?_ : _ ∧ _)); refine and_i (by decide) ?_; (first | rw [e18] | rw [e30] | rw [e60] )) | ((refine (?_ : _ ∧ _)); (with_reducible refine g_sub ?_); (first | (refine sub_4t (by assumption) ?_; intro _ _) | (refine sub_4d (by assumption) ?_; intro _ _) | (refine sub_4u (by assumption) ?_; intro _ _) | (refine sub_10 (by assumption) ?_; intro _ _) | (refine sub_6 (by assumption) ?_; intro _ _) | (refine sub_n (by omega) (by omega) (by omega) (by assumption) ?_) | (refine sub_i (by omega) (by omega) (by assumption) ?_))) | k_extra "step")
  all_goals exact ⟨[], Wk.nil _, H _ (by rw [hL]; clear ok H hL; simp [*])⟩
noncomputable def bestT : Bst → AV
  | none => .tup []
  | some (a, b, c, d) => .tup [.int a, .int b, .int c, .int d]
theorem cut_pre {pre rest : List Nd} {xs : List AV} {i : Int} (hx : xs = (pre ++ rest).map Nd.av) (hi : i = pre.length) : cut none (some i.toNat) xs = pre.map Nd.av := by
  subst hx hi
  have e : (((pre.length : Nat) : Int)).toNat = (pre.map Nd.av).length := by simp
  rw [e, List.map_append]
  unfold cut
  exact (List.drop_zero ..).trans List.take_left
theorem bu_t {a1 a2 a3 a4 c : Int} {n : Int × Int × Int × Int} (h : c ≤ a3) : some n = better (some (a1, a2, a3, a4)) c n := (if_pos h).symm
theorem bu_f {a1 a2 a3 a4 c : Int} {n : Int × Int × Int × Int} (h : ¬ c ≤ a3) : some (a1, a2, a3, a4) = better (some (a1, a2, a3, a4)) c n := (if_neg h).symm
theorem ct_lend (ok : 9 ≤ bud) {ns : List Nd} {xs : List AV} {u goal deep : Int} (U : Un u goal deep) (hx : xs = ns.map Nd.av) (hok : ∀ n ∈ ns, NOk u n) (hl : ns.length ≤ 40) (H : ∀ s b, (s, b) = scan goal deep [] ns none → k (.tup [.int s, bestT b]) σ) : CallT bud 932 [.lst xs, .int goal, .int deep] σ k := by
  have hlen : xs.length = ns.length := by rw [hx]; simp
  refine callD ok in_law_end false 60 [("line", .lst xs), ("goal", .int goal), ("deep", .int deep)] ([]) (σ.T) rfl rfl (fun _ => .nil) (Wk.refl _) (let s1 : AS := _; blk_cons (σ := s1) ?_)
  repeat' (first | k_extra "blk" | ((refine (?_ : _ ∧ _)); refine and_i (by decide) ?_; (first | rw [e18] | rw [e30] | rw [e60] )) | ((refine (?_ : _ ∧ _)); (with_reducible refine g_sub ?_); (first | (refine sub_4t (by assumption) ?_; intro _ _) | (refine sub_4d (by assumption) ?_; intro _ _) | (refine sub_4u (by assumption) ?_; intro _ _) | (refine sub_10 (by assumption) ?_; intro _ _) | (refine sub_6 (by assumption) ?_; intro _ _) | (refine sub_n (by omega) (by omega) (by omega) (by assumption) ?_) | (refine sub_i (by omega) (by omega) (by assumption) ?_))) | k_extra "step")
  have er : ((xs.length : Nat) : Int).toNat = ns.length := by rw [hlen]; simp
  rw [er, List.range_eq_range']
  refine forK_abs fun F step done => ?_
  have key : ∀ (rest pre : List Nd) (bo : Bst), pre ++ rest = ns → scan goal deep pre rest bo = scan goal deep [] ns none →
      F ((List.range' pre.length rest.length).map fun (i : Nat) => AV.int i) ⟨[("line", .lst xs), ("goal", .int goal), ("deep", .int deep), ("best", bestT bo)], []⟩ := by
    intro rest
    induction rest with
    | nil =>
      intro pre bo _ hs
      refine done _ ?_
      repeat' (first | k_extra "blk" | ((refine (?_ : _ ∧ _)); refine and_i (by decide) ?_; (first | rw [e18] | rw [e30] | rw [e60] )) | ((refine (?_ : _ ∧ _)); (with_reducible refine g_sub ?_); (first | (refine sub_4t (by assumption) ?_; intro _ _) | (refine sub_4d (by assumption) ?_; intro _ _) | (refine sub_4u (by assumption) ?_; intro _ _) | (refine sub_10 (by assumption) ?_; intro _ _) | (refine sub_6 (by assumption) ?_; intro _ _) | (refine sub_n (by omega) (by omega) (by omega) (by assumption) ?_) | (refine sub_i (by omega) (by omega) (by assumption) ?_))) | k_extra "step")
      exact ⟨[], Wk.nil _, H (-1) bo hs⟩
    | cons nd rest ih =>
      intro pre bo hn hs
      have ih' := fun (b : Bst) (e : scan goal deep (pre ++ [nd]) rest b = scan goal deep [] ns none) => ih (pre ++ [nd]) b (by rw [← hn]; simp) e
      have el : (pre ++ [nd]).length = pre.length + 1 := by simp
      rw [el] at ih'
      have hx' : xs = (pre ++ nd :: rest).map Nd.av := by rw [hx, hn]
      have hlp : pre.length + rest.length + 1 = ns.length := by rw [← hn]; simp; omega
      have hokp : ∀ n ∈ pre, NOk u n := fun n h => hok n (by rw [← hn]; exact List.mem_append_left _ h)
      have h0 := at_mid (i := (pre.length : Int)) hx' rfl
      have hcut := cut_pre (i := (pre.length : Int)) hx' rfl
      clear ih done
      refine step _ _ _ ?_
      repeat' (first | k_extra "blk" | ((refine (?_ : _ ∧ _)); refine and_i (by decide) ?_; (first | rw [e18] | rw [e30] | rw [e60] )) | ((refine (?_ : _ ∧ _)); (with_reducible refine g_sub ?_); (first | (refine sub_4t (by assumption) ?_; intro _ _) | (refine sub_4d (by assumption) ?_; intro _ _) | (refine sub_4u (by assumption) ?_; intro _ _) | (refine sub_10 (by assumption) ?_; intro _ _) | (refine sub_6 (by assumption) ?_; intro _ _) | (refine sub_n (by omega) (by omega) (by omega) (by assumption) ?_) | (refine sub_i (by omega) (by omega) (by assumption) ?_))) | k_extra "step")
      refine ct_lprice (by first | decide | omega) hx' rfl (by omega) fun p hp => ?_
      rw [scan_cons] at hs
      cases hpen : pen pre nd rest with
      | none =>
        rw [hpen] at hp hs
        have hp : p = 10000 := hp
        repeat' (first | k_extra "blk" | ((refine (?_ : _ ∧ _)); refine and_i (by decide) ?_; (first | rw [e18] | rw [e30] | rw [e60] )) | ((refine (?_ : _ ∧ _)); (with_reducible refine g_sub ?_); (first | (refine sub_4t (by assumption) ?_; intro _ _) | (refine sub_4d (by assumption) ?_; intro _ _) | (refine sub_4u (by assumption) ?_; intro _ _) | (refine sub_10 (by assumption) ?_; intro _ _) | (refine sub_6 (by assumption) ?_; intro _ _) | (refine sub_n (by omega) (by omega) (by omega) (by assumption) ?_) | (refine sub_i (by omega) (by omega) (by assumption) ?_))) | k_extra "step")
        exact ease_to [("line", .lst xs), ("goal", .int goal), ("deep", .int deep), ("best", bestT bo)] [] (by repeat (first | exact True.intro | refine And.intro rfl ?_)) (Wk.refl _) (ih' bo hs)
      | some v =>
        rw [hpen] at hp hs
        have hp : p = v := hp
        subst hp
        by_cases h1 : 10000 ≤ p
        · have e : tryS pre.length goal bo (isPen nd) (lcost pre goal deep) (some p) = (false, bo) := by simp [tryS, h1]
          rw [e] at hs
          repeat' (first | k_extra "blk" | ((refine (?_ : _ ∧ _)); refine and_i (by decide) ?_; (first | rw [e18] | rw [e30] | rw [e60] )) | ((refine (?_ : _ ∧ _)); (with_reducible refine g_sub ?_); (first | (refine sub_4t (by assumption) ?_; intro _ _) | (refine sub_4d (by assumption) ?_; intro _ _) | (refine sub_4u (by assumption) ?_; intro _ _) | (refine sub_10 (by assumption) ?_; intro _ _) | (refine sub_6 (by assumption) ?_; intro _ _) | (refine sub_n (by omega) (by omega) (by omega) (by assumption) ?_) | (refine sub_i (by omega) (by omega) (by assumption) ?_))) | k_extra "step")
          exact ease_to [("line", .lst xs), ("goal", .int goal), ("deep", .int deep), ("best", bestT bo)] [] (by repeat (first | exact True.intro | refine And.intro rfl ?_)) (Wk.refl _) (ih' bo hs)
        · repeat' (first | k_extra "blk" | ((refine (?_ : _ ∧ _)); refine and_i (by decide) ?_; (first | rw [e18] | rw [e30] | rw [e60] )) | ((refine (?_ : _ ∧ _)); (with_reducible refine g_sub ?_); (first | (refine sub_4t (by assumption) ?_; intro _ _) | (refine sub_4d (by assumption) ?_; intro _ _) | (refine sub_4u (by assumption) ?_; intro _ _) | (refine sub_10 (by assumption) ?_; intro _ _) | (refine sub_6 (by assumption) ?_; intro _ _) | (refine sub_n (by omega) (by omega) (by omega) (by assumption) ?_) | (refine sub_i (by omega) (by omega) (by assumption) ?_))) | k_extra "step")
          conv => whnf
          rw [hcut]
          refine ct_lcost (by first | decide | omega) U rfl hokp (by omega) fun c hc => ?_
          have e : tryS pre.length goal bo (isPen nd) (lcost pre goal deep) (some p) = (decide (c = 1073741823 ∨ p ≤ -10000), better bo c (pre.length, cond (isPen nd) p 10000, c, goal)) := by simp [tryS, h1, hc]
          rw [e] at hs
          have fret : ∀ b, b = better bo c (pre.length, cond (isPen nd) p 10000, c, goal) → (c = 1073741823 ∨ p ≤ -10000) → k (.tup [.int pre.length, bestT b]) σ := fun b eb h => H _ b (by rw [eb]; rw [decide_eq_true h] at hs; exact hs)
          have floop : ∀ b, b = better bo c (pre.length, cond (isPen nd) p 10000, c, goal) → ¬ (c = 1073741823 ∨ p ≤ -10000) → F ((List.range' (pre.length + 1) rest.length).map fun (i : Nat) => AV.int i) ⟨[("line", .lst xs), ("goal", .int goal), ("deep", .int deep), ("best", bestT b)], []⟩ := fun b eb h => ih' b (by rw [eb]; rw [decide_eq_false h] at hs; exact hs)
          clear e hs hc ih' hcut hok hokp hx hx' hn H
          rcases nd with ⟨_ | _, w, h, d, sh⟩ | ⟨h, d⟩ | w | ⟨g, so, l⟩ | v | _ | _
          all_goals try (simp [pen] at hpen; done)
          all_goals
            clear hpen
            rcases bo with _ | ⟨a1, a2, a3, a4⟩
          case neg.kern.none | neg.skip.none =>
            repeat' (first | k_extra "blk" | ((refine (?_ : _ ∧ _)); refine and_i (by decide) ?_; (first | rw [e18] | rw [e30] | rw [e60] )) | ((refine (?_ : _ ∧ _)); (with_reducible refine g_sub ?_); (first | (refine sub_4t (by assumption) ?_; intro _ _) | (refine sub_4d (by assumption) ?_; intro _ _) | (refine sub_4u (by assumption) ?_; intro _ _) | (refine sub_10 (by assumption) ?_; intro _ _) | (refine sub_6 (by assumption) ?_; intro _ _) | (refine sub_n (by omega) (by omega) (by omega) (by assumption) ?_) | (refine sub_i (by omega) (by omega) (by assumption) ?_))) | k_extra "step")
            all_goals
              first
                | exact ⟨[], Wk.nil _, fret (some (pre.length, 10000, c, goal)) (by first | exact rfl | exact bu_t (by omega) | exact bu_f (by omega)) (by omega)⟩
                | exact ease_to [("line", .lst xs), ("goal", .int goal), ("deep", .int deep), ("best", bestT (some (pre.length, 10000, c, goal)))] [] (by repeat (first | exact True.intro | refine And.intro rfl ?_)) (Wk.refl _) (floop (some (pre.length, 10000, c, goal)) (by first | exact rfl | exact bu_t (by omega) | exact bu_f (by omega)) (by omega))
          case neg.pen.none =>
            repeat' (first | k_extra "blk" | ((refine (?_ : _ ∧ _)); refine and_i (by decide) ?_; (first | rw [e18] | rw [e30] | rw [e60] )) | ((refine (?_ : _ ∧ _)); (with_reducible refine g_sub ?_); (first | (refine sub_4t (by assumption) ?_; intro _ _) | (refine sub_4d (by assumption) ?_; intro _ _) | (refine sub_4u (by assumption) ?_; intro _ _) | (refine sub_10 (by assumption) ?_; intro _ _) | (refine sub_6 (by assumption) ?_; intro _ _) | (refine sub_n (by omega) (by omega) (by omega) (by assumption) ?_) | (refine sub_i (by omega) (by omega) (by assumption) ?_))) | k_extra "step")
            all_goals
              first
                | exact ⟨[], Wk.nil _, fret (some (pre.length, p, c, goal)) (by first | exact rfl | exact bu_t (by omega) | exact bu_f (by omega)) (by omega)⟩
                | exact ease_to [("line", .lst xs), ("goal", .int goal), ("deep", .int deep), ("best", bestT (some (pre.length, p, c, goal)))] [] (by repeat (first | exact True.intro | refine And.intro rfl ?_)) (Wk.refl _) (floop (some (pre.length, p, c, goal)) (by first | exact rfl | exact bu_t (by omega) | exact bu_f (by omega)) (by omega))
          case neg.kern.some | neg.skip.some =>
            repeat' (first | k_extra "blk" | ((refine (?_ : _ ∧ _)); refine and_i (by decide) ?_; (first | rw [e18] | rw [e30] | rw [e60] )) | ((refine (?_ : _ ∧ _)); (with_reducible refine g_sub ?_); (first | (refine sub_4t (by assumption) ?_; intro _ _) | (refine sub_4d (by assumption) ?_; intro _ _) | (refine sub_4u (by assumption) ?_; intro _ _) | (refine sub_10 (by assumption) ?_; intro _ _) | (refine sub_6 (by assumption) ?_; intro _ _) | (refine sub_n (by omega) (by omega) (by omega) (by assumption) ?_) | (refine sub_i (by omega) (by omega) (by assumption) ?_))) | k_extra "step")
            all_goals
              first
                | exact ⟨[], Wk.nil _, fret (some (pre.length, 10000, c, goal)) (by first | exact rfl | exact bu_t (by omega) | exact bu_f (by omega)) (by omega)⟩
                | exact ease_to [("line", .lst xs), ("goal", .int goal), ("deep", .int deep), ("best", bestT (some (pre.length, 10000, c, goal)))] [] (by repeat (first | exact True.intro | refine And.intro rfl ?_)) (Wk.refl _) (floop (some (pre.length, 10000, c, goal)) (by first | exact rfl | exact bu_t (by omega) | exact bu_f (by omega)) (by omega))
                | exact ⟨[], Wk.nil _, fret (some (a1, a2, a3, a4)) (by first | exact rfl | exact bu_t (by omega) | exact bu_f (by omega)) (by omega)⟩
                | exact ease_to [("line", .lst xs), ("goal", .int goal), ("deep", .int deep), ("best", bestT (some (a1, a2, a3, a4)))] [] (by repeat (first | exact True.intro | refine And.intro rfl ?_)) (Wk.refl _) (floop (some (a1, a2, a3, a4)) (by first | exact rfl | exact bu_t (by omega) | exact bu_f (by omega)) (by omega))
          case neg.pen.some =>
            repeat' (first | k_extra "blk" | ((refine (?_ : _ ∧ _)); refine and_i (by decide) ?_; (first | rw [e18] | rw [e30] | rw [e60] )) | ((refine (?_ : _ ∧ _)); (with_reducible refine g_sub ?_); (first | (refine sub_4t (by assumption) ?_; intro _ _) | (refine sub_4d (by assumption) ?_; intro _ _) | (refine sub_4u (by assumption) ?_; intro _ _) | (refine sub_10 (by assumption) ?_; intro _ _) | (refine sub_6 (by assumption) ?_; intro _ _) | (refine sub_n (by omega) (by omega) (by omega) (by assumption) ?_) | (refine sub_i (by omega) (by omega) (by assumption) ?_))) | k_extra "step")
            all_goals
              first
                | exact ⟨[], Wk.nil _, fret (some (pre.length, p, c, goal)) (by first | exact rfl | exact bu_t (by omega) | exact bu_f (by omega)) (by omega)⟩
                | exact ease_to [("line", .lst xs), ("goal", .int goal), ("deep", .int deep), ("best", bestT (some (pre.length, p, c, goal)))] [] (by repeat (first | exact True.intro | refine And.intro rfl ?_)) (Wk.refl _) (floop (some (pre.length, p, c, goal)) (by first | exact rfl | exact bu_t (by omega) | exact bu_f (by omega)) (by omega))
                | exact ⟨[], Wk.nil _, fret (some (a1, a2, a3, a4)) (by first | exact rfl | exact bu_t (by omega) | exact bu_f (by omega)) (by omega)⟩
                | exact ease_to [("line", .lst xs), ("goal", .int goal), ("deep", .int deep), ("best", bestT (some (a1, a2, a3, a4)))] [] (by repeat (first | exact True.intro | refine And.intro rfl ?_)) (Wk.refl _) (floop (some (a1, a2, a3, a4)) (by first | exact rfl | exact bu_t (by omega) | exact bu_f (by omega)) (by omega))
  have := key ns [] none rfl rfl
  exact this
theorem ct_lright (ok : 10 ≤ bud) {u : Int} {x : Bd} {pns cns : List Nd} {bo : Bst} {M : Nat} {f : Bool} (hM : M ≤ 40) (hT : Wk σ.T (x.T ++ R)) (U : Un u x.vs x.md) (P : Pg u x pns cns M) (hs : scan x.vs x.md [] (pns ++ cns) none = (cond f (pns.length : Int) (-1), bo)) (hf : f = true → bo ≠ none) (hb : f = false → x.best = bestA bo)
    (H : k (.bool true) ⟨σ.loc, x.T ++ R⟩) : CallT bud 939 [.ref x.b, cond f (bestA bo) .none, .int x.vs, .int x.md] σ k := by
  have hcnt := P.cnt
  have hps : x.ps.length = pns.length := by rw [P.ps]; simp
  have hcs : x.cs.length = cns.length := by rw [P.cs]; simp
  obtain ⟨u1, ug, ud⟩ := id U
  obtain ⟨t, t1, t2, B⟩ := Bnd.of u1.1 P.okp (by omega)
  obtain ⟨q1, q2, q3, q4, q5⟩ := B
  have hc := (Sm.zero.run pns).cap_le x.md
  have ht := P.tot
  have hd := P.dep
  have hx : cond f x.best (bestA bo) = x.best := by
    cases f
    · exact (hb rfl).symm
    · rfl
  have hT' : Wk σ.T (Bd.T { x with best := cond f x.best (bestA bo) } ++ R) := by rw [hx]; exact hT
  have H' : k (.bool true) ⟨σ.loc, Bd.T { x with best := cond f x.best (bestA bo) } ++ R⟩ := by rw [hx]; exact H
  have hps2 : ({ x with best := cond f x.best (bestA bo) } : Bd).ps.length = pns.length := hps
  clear hT H hx hb
  refine callD ok in_law_right false 60 [("builder", .ref x.b), ("found", cond f (bestA bo) .none), ("goal", .int x.vs), ("deep", .int x.md)] (Bd.T { x with best := cond f x.best (bestA bo) }) (R) rfl rfl (fun _ => .nil) (hT') (let s1 : AS := _; blk_cons (σ := s1) ?_)
  clear hT'
  repeat' (first | k_extra "blk" | ((refine (?_ : _ ∧ _)); (with_reducible refine g_sub ?_); (first | (refine sub_4t (by assumption) ?_; intro _ _) | (refine sub_4d (by assumption) ?_; intro _ _) | (refine sub_4u (by assumption) ?_; intro _ _) | (refine sub_10 (by assumption) ?_; intro _ _) | (refine sub_6 (by assumption) ?_; intro _ _) | (refine sub_n (by omega) (by omega) (by omega) (by assumption) ?_) | (refine sub_i (by omega) (by omega) (by assumption) ?_))) | k_extra "step")
  refine ct_lend (by first | decide | omega) (ns := pns ++ cns) U (by rw [P.ps, P.cs]; simp) (fun n h => by
    rcases List.mem_append.mp h with h | h
    · exact P.okp n h
    · exact P.okc n h) (by simp; omega) (fun s b hsb => ?_)
  rw [hs, Prod.mk.injEq] at hsb
  obtain ⟨e1, e2⟩ := hsb
  cases f with
  | true =>
    have e1 : s = pns.length := e1
    subst e1 e2
    rcases b with _ | ⟨a1, a2, a3, a4⟩
    · exact absurd rfl (hf rfl)
    · clear hs hf
      repeat' (first | k_extra "blk" | ((refine (?_ : _ ∧ _)); (with_reducible refine g_sub ?_); (first | (refine sub_4t (by assumption) ?_; intro _ _) | (refine sub_4d (by assumption) ?_; intro _ _) | (refine sub_4u (by assumption) ?_; intro _ _) | (refine sub_10 (by assumption) ?_; intro _ _) | (refine sub_6 (by assumption) ?_; intro _ _) | (refine sub_n (by omega) (by omega) (by omega) (by assumption) ?_) | (refine sub_i (by omega) (by omega) (by assumption) ?_))) | k_extra "step")
      · refine ct_vpack (by first | decide | omega) P.ps rfl (.inr rfl) (ht := x.total) (by omega) (by omega) (by omega) (by omega) (by omega) (fun e => by omega) (fun _ => by omega) (by omega) (by omega) (by omega) ?_
        intro bx e sg od ra c m' hcm
        clear hcm
        rw [← hd]
        repeat' (first | k_extra "blk" | ((refine (?_ : _ ∧ _)); (with_reducible refine g_sub ?_); (first | (refine sub_4t (by assumption) ?_; intro _ _) | (refine sub_4d (by assumption) ?_; intro _ _) | (refine sub_4u (by assumption) ?_; intro _ _) | (refine sub_10 (by assumption) ?_; intro _ _) | (refine sub_6 (by assumption) ?_; intro _ _) | (refine sub_n (by omega) (by omega) (by omega) (by assumption) ?_) | (refine sub_i (by omega) (by omega) (by assumption) ?_))) | k_extra "step")
        have et : ∀ i j : Int, decide ([i, j] = [i, j]) = true := fun i j => decide_eq_true rfl
        refine ⟨Bd.T { x with best := _ }, by repeat (first | exact Wk.refl _ | exact Wk.nil _ | refine Wk.pick (by repeat (first | exact Pick.head | apply Pick.tail)) ?_), ?_⟩
        show k (.bool (decide ([x.total, x.depth] = [x.total, x.depth]))) _
        rw [et]
        exact H'
      · exact absurd rfl (by assumption)
  | false =>
    have e1 : s = -1 := e1
    subst e1 e2
    clear hf hs
    rcases b with _ | ⟨a1, a2, a3, a4⟩
    · repeat' (first | k_extra "blk" | ((refine (?_ : _ ∧ _)); (with_reducible refine g_sub ?_); (first | (refine sub_4t (by assumption) ?_; intro _ _) | (refine sub_4d (by assumption) ?_; intro _ _) | (refine sub_4u (by assumption) ?_; intro _ _) | (refine sub_10 (by assumption) ?_; intro _ _) | (refine sub_6 (by assumption) ?_; intro _ _) | (refine sub_n (by omega) (by omega) (by omega) (by assumption) ?_) | (refine sub_i (by omega) (by omega) (by assumption) ?_))) | k_extra "step")
      refine ct_vpack (by first | decide | omega) P.ps rfl (.inr rfl) (ht := x.total) (by omega) (by omega) (by omega) (by omega) (by omega) (fun e => by omega) (fun _ => by omega) (by omega) (by omega) (by omega) ?_
      intro bx e sg od ra c m' hcm
      clear hcm
      rw [← hd]
      repeat' (first | k_extra "blk" | ((refine (?_ : _ ∧ _)); (with_reducible refine g_sub ?_); (first | (refine sub_4t (by assumption) ?_; intro _ _) | (refine sub_4d (by assumption) ?_; intro _ _) | (refine sub_4u (by assumption) ?_; intro _ _) | (refine sub_10 (by assumption) ?_; intro _ _) | (refine sub_6 (by assumption) ?_; intro _ _) | (refine sub_n (by omega) (by omega) (by omega) (by assumption) ?_) | (refine sub_i (by omega) (by omega) (by assumption) ?_))) | k_extra "step")
      have et : ∀ i j : Int, decide ([i, j] = [i, j]) = true := fun i j => decide_eq_true rfl
      refine ⟨Bd.T { x with best := _ }, by repeat (first | exact Wk.refl _ | exact Wk.nil _ | refine Wk.pick (by repeat (first | exact Pick.head | apply Pick.tail)) ?_), ?_⟩
      show k (.bool (decide ([x.total, x.depth] = [x.total, x.depth]))) _
      rw [et]
      exact H'
    · repeat' (first | k_extra "blk" | ((refine (?_ : _ ∧ _)); (with_reducible refine g_sub ?_); (first | (refine sub_4t (by assumption) ?_; intro _ _) | (refine sub_4d (by assumption) ?_; intro _ _) | (refine sub_4u (by assumption) ?_; intro _ _) | (refine sub_10 (by assumption) ?_; intro _ _) | (refine sub_6 (by assumption) ?_; intro _ _) | (refine sub_n (by omega) (by omega) (by omega) (by assumption) ?_) | (refine sub_i (by omega) (by omega) (by assumption) ?_))) | k_extra "step")
      · refine ct_vpack (by first | decide | omega) P.ps rfl (.inr rfl) (ht := x.total) (by omega) (by omega) (by omega) (by omega) (by omega) (fun e => by omega) (fun _ => by omega) (by omega) (by omega) (by omega) ?_
        intro bx e sg od ra c m' hcm
        clear hcm
        rw [← hd]
        repeat' (first | k_extra "blk" | ((refine (?_ : _ ∧ _)); (with_reducible refine g_sub ?_); (first | (refine sub_4t (by assumption) ?_; intro _ _) | (refine sub_4d (by assumption) ?_; intro _ _) | (refine sub_4u (by assumption) ?_; intro _ _) | (refine sub_10 (by assumption) ?_; intro _ _) | (refine sub_6 (by assumption) ?_; intro _ _) | (refine sub_n (by omega) (by omega) (by omega) (by assumption) ?_) | (refine sub_i (by omega) (by omega) (by assumption) ?_))) | k_extra "step")
        have et : ∀ i j : Int, decide ([i, j] = [i, j]) = true := fun i j => decide_eq_true rfl
        refine ⟨Bd.T { x with best := _ }, by repeat (first | exact Wk.refl _ | exact Wk.nil _ | refine Wk.pick (by repeat (first | exact Pick.head | apply Pick.tail)) ?_), ?_⟩
        show k (.bool (decide ([x.total, x.depth] = [x.total, x.depth]))) _
        rw [et]
        exact H'
      · exact absurd rfl (by assumption)
noncomputable def Bd.at (x : Bd) (b : Addr) : Bd := { x with b := b }
theorem Bd.at_eq {x : Bd} {b : Addr} (h : x.b = b) : x = x.at b := by subst h; rfl
theorem ct_lrightE (ok : 10 ≤ bud) {u : Int} {x : Bd} {b : Addr} {gl de : Int} {pns cns : List Nd} {bo : Bst} {M : Nat} {f : Bool} (eb : x.b = b) (ev : x.vs = gl) (em : x.md = de) (hM : M ≤ 40) (hT : Wk σ.T (x.T ++ R)) (U : Un u gl de) (P : Pg u x pns cns M) (hs : scan gl de [] (pns ++ cns) none = (cond f (pns.length : Int) (-1), bo)) (hf : f = true → bo ≠ none) (hb : f = false → x.best = bestA bo)
    (H : k (.bool true) ⟨σ.loc, x.T ++ R⟩) : CallT bud 939 [.ref b, cond f (bestA bo) .none, .int gl, .int de] σ k := by
  subst eb ev em
  exact ct_lright ok hM hT U P hs hf hb H
theorem inv_new {u vs md : Int} {b d co he pg sa : Addr} (hu : 1 ≤ u ∧ u ≤ 1500007) (U : Un u vs md) : Inv u (Bd.new b d co he pg sa vs md) [] [] none 1 := by
  refine ⟨hu, U.g, U.d, rfl, rfl, .inl ⟨rfl, (fun n h => by cases h), rfl, rfl, rfl⟩, (fun n h => by cases h), (fun n h => by cases h), ?_, ?_, rfl, rfl, rfl, (fun q e => by cases e), (fun e => by cases e), (fun r _ => rfl), Nat.le_refl _⟩
  · have := U.d
    show (0 : Int) = if md < 0 then _ else 0
    rw [if_neg (by omega)]
  · have := U.d
    show (0 : Int) = if md < 0 then _ else 0
    rw [if_neg (by omega)]
theorem law_blk {ns : List Int} (hl : ns.length ≤ 900) : Blk (rec ⟨fd_law.scope, fd_law.gl, false, 13⟩ 130).s fd_law.body ⟨[("script", .src (ns.map AV.int))], []⟩ (fun fl _ => fl = .ret (.bool true)) := by
  refine (let s1 : AS := _; blk_cons (σ := s1) ?_)
  repeat' (first | k_extra "blk" | ((with_reducible refine at_ 439 ?_); refine ct_Penalty (by first | decide | omega) (by omega) ?_) | ((refine (?_ : _ ∧ _)); (with_reducible refine g_sub ?_); (first | (refine sub_4t (by assumption) ?_; intro _ _) | (refine sub_4d (by assumption) ?_; intro _ _) | (refine sub_4u (by assumption) ?_; intro _ _) | (refine sub_10 (by assumption) ?_; intro _ _) | (refine sub_6 (by assumption) ?_; intro _ _) | (refine sub_n (by omega) (by omega) (by omega) (by assumption) ?_) | (refine sub_i (by omega) (by omega) (by assumption) ?_))) | k_extra "step")
  refine ct_lheap (by first | decide | omega) hl (fun h w0 hw0 => ?_)
  have hb0 : HB 0 w0 0 := ⟨hw0, by decide, by decide⟩
  repeat' (first | k_extra "blk" | ((with_reducible refine at_ 439 ?_); refine ct_Penalty (by first | decide | omega) (by omega) ?_) | ((refine (?_ : _ ∧ _)); (with_reducible refine g_sub ?_); (first | (refine sub_4t (by assumption) ?_; intro _ _) | (refine sub_4d (by assumption) ?_; intro _ _) | (refine sub_4u (by assumption) ?_; intro _ _) | (refine sub_10 (by assumption) ?_; intro _ _) | (refine sub_6 (by assumption) ?_; intro _ _) | (refine sub_n (by omega) (by omega) (by omega) (by assumption) ?_) | (refine sub_i (by omega) (by omega) (by assumption) ?_))) | k_extra "step")
  refine ct_ltake (by first | decide | omega) (by repeat (first | exact Wk.refl _ | exact Wk.nil _ | refine Wk.pick (by repeat (first | exact Pick.head | apply Pick.tail)) ?_)) hb0 (by omega) (by omega) ?_
  intro d1 w1 c1 b1 hb1
  repeat' (first | k_extra "blk" | ((with_reducible refine at_ 439 ?_); refine ct_Penalty (by first | decide | omega) (by omega) ?_) | ((refine (?_ : _ ∧ _)); (with_reducible refine g_sub ?_); (first | (refine sub_4t (by assumption) ?_; intro _ _) | (refine sub_4d (by assumption) ?_; intro _ _) | (refine sub_4u (by assumption) ?_; intro _ _) | (refine sub_10 (by assumption) ?_; intro _ _) | (refine sub_6 (by assumption) ?_; intro _ _) | (refine sub_n (by omega) (by omega) (by omega) (by assumption) ?_) | (refine sub_i (by omega) (by omega) (by assumption) ?_))) | k_extra "step")
  rename_i u hu _
  refine ct_ltake (by first | decide | omega) (by repeat (first | exact Wk.refl _ | exact Wk.nil _ | refine Wk.pick (by repeat (first | exact Pick.head | apply Pick.tail)) ?_)) hb1 (by omega) (by omega) ?_
  intro d2 w2 c2 b2 hb2
  repeat' (first | k_extra "blk" | ((with_reducible refine at_ 439 ?_); refine ct_Penalty (by first | decide | omega) (by omega) ?_) | ((refine (?_ : _ ∧ _)); (with_reducible refine g_sub ?_); (first | (refine sub_4t (by assumption) ?_; intro _ _) | (refine sub_4d (by assumption) ?_; intro _ _) | (refine sub_4u (by assumption) ?_; intro _ _) | (refine sub_10 (by assumption) ?_; intro _ _) | (refine sub_6 (by assumption) ?_; intro _ _) | (refine sub_n (by omega) (by omega) (by omega) (by assumption) ?_) | (refine sub_i (by omega) (by omega) (by assumption) ?_))) | k_extra "step")
  refine ct_ltake (by first | decide | omega) (by repeat (first | exact Wk.refl _ | exact Wk.nil _ | refine Wk.pick (by repeat (first | exact Pick.head | apply Pick.tail)) ?_)) hb2 (by omega) (by omega) ?_
  intro d3 w3 c3 b3 hb3
  repeat' (first | k_extra "blk" | ((with_reducible refine at_ 439 ?_); refine ct_Penalty (by first | decide | omega) (by omega) ?_) | ((refine (?_ : _ ∧ _)); (with_reducible refine g_sub ?_); (first | (refine sub_4t (by assumption) ?_; intro _ _) | (refine sub_4d (by assumption) ?_; intro _ _) | (refine sub_4u (by assumption) ?_; intro _ _) | (refine sub_10 (by assumption) ?_; intro _ _) | (refine sub_6 (by assumption) ?_; intro _ _) | (refine sub_n (by omega) (by omega) (by omega) (by assumption) ?_) | (refine sub_i (by omega) (by omega) (by assumption) ?_))) | k_extra "step")
  rename_i v hv
  refine ct_lskip (by first | decide | omega) hu (by repeat (first | exact Wk.refl _ | exact Wk.nil _ | refine Wk.pick (by repeat (first | exact Pick.head | apply Pick.tail)) ?_)) hb3 (by omega) ?_
  intro g so l w4 c4 n1 n2 hb4
  have mg := mulb (u := u) (x := d2 - 1) (-1) 27 (by omega) (by omega) (by omega)
  have md := mulb (u := u) (x := v) 0 30 (by omega) (by omega) (by omega)
  have U : Un u (u * (d2 - 1)) (u * v) := ⟨hu, by omega, by omega⟩
  repeat' (first | ((with_reducible refine at_ 439 ?_); refine ct_Penalty (by first | decide | omega) (by omega) ?_) | ((refine (?_ : _ ∧ _)); (with_reducible refine g_sub ?_); (first | (refine sub_4t (by assumption) ?_; intro _ _) | (refine sub_4d (by assumption) ?_; intro _ _) | (refine sub_4u (by assumption) ?_; intro _ _) | (refine sub_10 (by assumption) ?_; intro _ _) | (refine sub_6 (by assumption) ?_; intro _ _) | (refine sub_n (by omega) (by omega) (by omega) (by assumption) ?_) | (refine sub_i (by omega) (by omega) (by assumption) ?_))) | k_extra "step")
  refine blk_consK ?_
  intro K hK
  have cont : ∀ (its : List Nd) (w c : Int), (∀ nd ∈ its, NOk u nd) → its.length ≤ 2 → HB 40 w c →
      NextK K ⟨[("script", .src (ns.map AV.int)), ("heap", .ref h), ("unit", .int u), ("top", g.av), ("deep", .int (u * v)), ("goal", .int (u * (d2 - 1))), ("items", .lst (its.map Nd.av))], hp h w c⟩ := by
    intro its w c hits hlen hb
    refine next_b hK ?_
    clear hK
    repeat' (first | k_extra "blk" | ((with_reducible refine at_ 439 ?_); refine ct_Penalty (by first | decide | omega) (by omega) ?_) | ((refine (?_ : _ ∧ _)); (with_reducible refine g_sub ?_); (first | (refine sub_4t (by assumption) ?_; intro _ _) | (refine sub_4d (by assumption) ?_; intro _ _) | (refine sub_4u (by assumption) ?_; intro _ _) | (refine sub_10 (by assumption) ?_; intro _ _) | (refine sub_6 (by assumption) ?_; intro _ _) | (refine sub_n (by omega) (by omega) (by omega) (by assumption) ?_) | (refine sub_i (by omega) (by omega) (by assumption) ?_))) | k_extra "step")
    refine ct_ltake (by first | decide | omega) (by repeat (first | exact Wk.refl _ | exact Wk.nil _ | refine Wk.pick (by repeat (first | exact Pick.head | apply Pick.tail)) ?_)) hb (by omega) (by omega) ?_
    intro d6 w6 c6 b6 hb6
    repeat' (first | k_extra "blk" | ((with_reducible refine at_ 439 ?_); refine ct_Penalty (by first | decide | omega) (by omega) ?_) | ((refine (?_ : _ ∧ _)); (with_reducible refine g_sub ?_); (first | (refine sub_4t (by assumption) ?_; intro _ _) | (refine sub_4d (by assumption) ?_; intro _ _) | (refine sub_4u (by assumption) ?_; intro _ _) | (refine sub_10 (by assumption) ?_; intro _ _) | (refine sub_6 (by assumption) ?_; intro _ _) | (refine sub_n (by omega) (by omega) (by omega) (by assumption) ?_) | (refine sub_i (by omega) (by omega) (by assumption) ?_))) | k_extra "step")
    rename_i tn htn
    refine forK_abs fun F step done => ?_
    have key : ∀ (ys : List AV) (its : List Nd) (xs : List AV) (n w c : Int), xs = its.map Nd.av → (∀ nd ∈ its, NOk u nd) → its.length + 3 * ys.length ≤ 14 → n + 11 * ys.length ≤ 200 → HB n w c →
        F ys ⟨[("script", .src (ns.map AV.int)), ("heap", .ref h), ("unit", .int u), ("top", g.av), ("deep", .int (u * v)), ("goal", .int (u * (d2 - 1))), ("items", .lst xs)], hp h w c⟩ := by
      intro ys
      induction ys with
      | nil =>
        intro its xs n w c hx hits hlen hn hb
        have hxl : xs.length = its.length := by rw [hx]; simp
        simp only [List.length_nil] at hlen hn
        refine done _ ?_
        repeat' (first | ((with_reducible refine at_ 439 ?_); refine ct_Penalty (by first | decide | omega) (by omega) ?_) | ((refine (?_ : _ ∧ _)); (with_reducible refine g_sub ?_); (first | (refine sub_4t (by assumption) ?_; intro _ _) | (refine sub_4d (by assumption) ?_; intro _ _) | (refine sub_4u (by assumption) ?_; intro _ _) | (refine sub_10 (by assumption) ?_; intro _ _) | (refine sub_6 (by assumption) ?_; intro _ _) | (refine sub_n (by omega) (by omega) (by omega) (by assumption) ?_) | (refine sub_i (by omega) (by omega) (by assumption) ?_))) | k_extra "step")
        refine blk_consK ?_
        intro K hK
        have cont : ∀ (its : List Nd) (xs : List AV) (w c : Int), xs = its.map Nd.av → (∀ nd ∈ its, NOk u nd) → its.length ≤ 15 → HB 300 w c →
            NextK K ⟨[("script", .src (ns.map AV.int)), ("heap", .ref h), ("unit", .int u), ("top", g.av), ("deep", .int (u * v)), ("goal", .int (u * (d2 - 1))), ("items", .lst xs)], hp h w c⟩ := by
          intro its xs w c hx hits hlen hb
          have hxl : xs.length = its.length := by rw [hx]; simp
          refine next_b hK ?_
          clear hK step done
          repeat' (first | k_extra "blk" | ((with_reducible refine at_ 439 ?_); refine ct_Penalty (by first | decide | omega) (by omega) ?_) | ((refine (?_ : _ ∧ _)); (with_reducible refine g_sub ?_); (first | (refine sub_4t (by assumption) ?_; intro _ _) | (refine sub_4d (by assumption) ?_; intro _ _) | (refine sub_4u (by assumption) ?_; intro _ _) | (refine sub_10 (by assumption) ?_; intro _ _) | (refine sub_6 (by assumption) ?_; intro _ _) | (refine sub_n (by omega) (by omega) (by omega) (by assumption) ?_) | (refine sub_i (by omega) (by omega) (by assumption) ?_))) | k_extra "step")
          refine ct_ltake (by first | decide | omega) (by repeat (first | exact Wk.refl _ | exact Wk.nil _ | refine Wk.pick (by repeat (first | exact Pick.head | apply Pick.tail)) ?_)) hb (by omega) (by omega) ?_
          intro cu w8 c8 b8 hb8
          repeat' (first | k_extra "blk" | ((with_reducible refine at_ 439 ?_); refine ct_Penalty (by first | decide | omega) (by omega) ?_) | ((refine (?_ : _ ∧ _)); (with_reducible refine g_sub ?_); (first | (refine sub_4t (by assumption) ?_; intro _ _) | (refine sub_4d (by assumption) ?_; intro _ _) | (refine sub_4u (by assumption) ?_; intro _ _) | (refine sub_10 (by assumption) ?_; intro _ _) | (refine sub_6 (by assumption) ?_; intro _ _) | (refine sub_n (by omega) (by omega) (by omega) (by assumption) ?_) | (refine sub_i (by omega) (by omega) (by assumption) ?_))) | k_extra "step")
          refine ct_PageBuilder (by first | decide | omega) (by omega) (by omega) fun bb bd bco bhe bpg bsa => ?_
          repeat' (first | k_extra "blk" | ((with_reducible refine at_ 439 ?_); refine ct_Penalty (by first | decide | omega) (by omega) ?_) | ((refine (?_ : _ ∧ _)); (with_reducible refine g_sub ?_); (first | (refine sub_4t (by assumption) ?_; intro _ _) | (refine sub_4d (by assumption) ?_; intro _ _) | (refine sub_4u (by assumption) ?_; intro _ _) | (refine sub_10 (by assumption) ?_; intro _ _) | (refine sub_6 (by assumption) ?_; intro _ _) | (refine sub_n (by omega) (by omega) (by omega) (by assumption) ?_) | (refine sub_i (by omega) (by omega) (by assumption) ?_))) | k_extra "step")
          have t1 : cut none (some cu.toNat) xs = (its.take cu.toNat).map Nd.av := by rw [hx]; simp [cut, List.map_take]
          have t2 : cut (some cu.toNat) none xs = (its.drop cu.toNat).map Nd.av := by rw [hx]; simp [cut, List.map_drop]
          rw [t1, t2]
          refine forK_abs fun F step done => ?_
          have key : ∀ (pcs : List (List Nd)) (x : Bd) (pns cns : List Nd) (bo : Bst) (M : Nat), x.vs = u * (d2 - 1) → x.md = u * v → Inv u x pns cns bo M → (∀ pc ∈ pcs, ∀ n ∈ pc, NOk u n) → M + (pcs.map List.length).sum + 8 * pcs.length ≤ 40 →
              F (pcs.map fun pc => AV.lst (pc.map Nd.av)) ⟨[("script", .src (ns.map AV.int)), ("heap", .ref h), ("unit", .int u), ("top", g.av), ("deep", .int (u * v)), ("goal", .int (u * (d2 - 1))), ("items", .lst xs), ("cut", .int cu), ("builder", .ref x.b)], x.T ++ hp h w8 c8⟩ := by
            intro pcs
            induction pcs with
            | nil =>
              intro x pns cns bo M _ _ _ _ _
              refine done _ ?_
              clear step done
              repeat' (first | k_extra "blk" | ((with_reducible refine at_ 439 ?_); refine ct_Penalty (by first | decide | omega) (by omega) ?_) | ((refine (?_ : _ ∧ _)); (with_reducible refine g_sub ?_); (first | (refine sub_4t (by assumption) ?_; intro _ _) | (refine sub_4d (by assumption) ?_; intro _ _) | (refine sub_4u (by assumption) ?_; intro _ _) | (refine sub_10 (by assumption) ?_; intro _ _) | (refine sub_6 (by assumption) ?_; intro _ _) | (refine sub_n (by omega) (by omega) (by omega) (by assumption) ?_) | (refine sub_i (by omega) (by omega) (by assumption) ?_))) | k_extra "step")
              exact rfl
            | cons pc pcs ih =>
              intro x pns cns bo M ev em I hpc hM
              have hxc : x.cs.length = cns.length := by rw [I.cs]; simp
              have hcnt := I.cnt
              simp only [List.map_cons, List.sum_cons, List.length_cons] at hM
              have hpl : (pc.map Nd.av).length = pc.length := by simp
              refine step _ _ _ ?_
              clear step done
              repeat' (first | k_extra "blk" | ((with_reducible refine at_ 439 ?_); refine ct_Penalty (by first | decide | omega) (by omega) ?_) | ((refine (?_ : _ ∧ _)); (with_reducible refine g_sub ?_); (first | (refine sub_4t (by assumption) ?_; intro _ _) | (refine sub_4d (by assumption) ?_; intro _ _) | (refine sub_4u (by assumption) ?_; intro _ _) | (refine sub_10 (by assumption) ?_; intro _ _) | (refine sub_6 (by assumption) ?_; intro _ _) | (refine sub_n (by omega) (by omega) (by omega) (by assumption) ?_) | (refine sub_i (by omega) (by omega) (by assumption) ?_))) | k_extra "step")
              refine ct_contribute (by first | decide | omega) (x := x) (ns := pc) rfl (by omega) (by repeat (first | exact Wk.refl _ | exact Wk.nil _ | refine Wk.pick (by repeat (first | exact Pick.head | apply Pick.tail)) ?_)) ?_
              have I2 := inv_more I (hpc pc (.head _))
              repeat' (first | k_extra "blk" | ((with_reducible refine at_ 439 ?_); refine ct_Penalty (by first | decide | omega) (by omega) ?_) | ((refine (?_ : _ ∧ _)); (with_reducible refine g_sub ?_); (first | (refine sub_4t (by assumption) ?_; intro _ _) | (refine sub_4d (by assumption) ?_; intro _ _) | (refine sub_4u (by assumption) ?_; intro _ _) | (refine sub_10 (by assumption) ?_; intro _ _) | (refine sub_6 (by assumption) ?_; intro _ _) | (refine sub_n (by omega) (by omega) (by omega) (by assumption) ?_) | (refine sub_i (by omega) (by omega) (by assumption) ?_))) | k_extra "step")
              refine forK_abs fun G gstep gdone => ?_
              have key2 : ∀ (ys : List AV) (y : Bd) (pns cns : List Nd) (bo : Bst) (M' : Nat), y.vs = u * (d2 - 1) → y.md = u * v → Inv u y pns cns bo M' → M' + ys.length ≤ M + pc.length + 8 →
                  G ys ⟨[("script", .src (ns.map AV.int)), ("heap", .ref h), ("unit", .int u), ("top", g.av), ("deep", .int (u * v)), ("goal", .int (u * (d2 - 1))), ("items", .lst xs), ("cut", .int cu), ("builder", .ref y.b), ("piece", .lst (pc.map Nd.av))], y.T ++ hp h w8 c8⟩ := by
                intro ys
                induction ys with
                | nil =>
                  intro y pns cns bo M' ev em I hM'
                  simp only [List.length_nil] at hM'
                  refine gdone _ ?_
                  repeat' (first | k_extra "blk" | ((with_reducible refine at_ 439 ?_); refine ct_Penalty (by first | decide | omega) (by omega) ?_) | ((refine (?_ : _ ∧ _)); (with_reducible refine g_sub ?_); (first | (refine sub_4t (by assumption) ?_; intro _ _) | (refine sub_4d (by assumption) ?_; intro _ _) | (refine sub_4u (by assumption) ?_; intro _ _) | (refine sub_10 (by assumption) ?_; intro _ _) | (refine sub_6 (by assumption) ?_; intro _ _) | (refine sub_n (by omega) (by omega) (by omega) (by assumption) ?_) | (refine sub_i (by omega) (by omega) (by assumption) ?_))) | k_extra "step")
                  exact ease_to [("script", .src (ns.map AV.int)), ("heap", .ref h), ("unit", .int u), ("top", g.av), ("deep", .int (u * v)), ("goal", .int (u * (d2 - 1))), ("items", .lst xs), ("cut", .int cu), ("builder", .ref y.b)] (y.T ++ hp h w8 c8) (by repeat (first | exact True.intro | refine And.intro rfl ?_)) (Wk.refl _) (ih y pns cns bo M' ev em I (fun p h => hpc p (.tail _ h)) (by omega))
                | cons z ys ihy =>
                  intro y pns cns bo M' ev em I hM'
                  simp only [List.length_cons] at hM'
                  refine gstep _ _ _ ?_
                  clear gstep gdone
                  repeat' (first | k_extra "blk" | ((with_reducible refine at_ 439 ?_); refine ct_Penalty (by first | decide | omega) (by omega) ?_) | ((refine (?_ : _ ∧ _)); (with_reducible refine g_sub ?_); (first | (refine sub_4t (by assumption) ?_; intro _ _) | (refine sub_4d (by assumption) ?_; intro _ _) | (refine sub_4u (by assumption) ?_; intro _ _) | (refine sub_10 (by assumption) ?_; intro _ _) | (refine sub_6 (by assumption) ?_; intro _ _) | (refine sub_n (by omega) (by omega) (by omega) (by assumption) ?_) | (refine sub_i (by omega) (by omega) (by assumption) ?_))) | k_extra "step")
                  refine ct_build (by first | decide | omega) (x := y) (g := g) (R := hp h w8 c8) (by omega) (by repeat (first | exact Wk.refl _ | exact Wk.nil _ | refine Wk.pick (by repeat (first | exact Pick.head | apply Pick.tail)) ?_)) I n1 n2 (fun f x' pns' cns' bo' eb P ev' em' hf hnf => ?_)
                  obtain ⟨z, rfl⟩ : ∃ z : Bd, x' = z.at y.b := ⟨x', Bd.at_eq eb⟩
                  repeat' (first | k_extra "blk" | ((with_reducible refine at_ 439 ?_); refine ct_Penalty (by first | decide | omega) (by omega) ?_) | ((refine (?_ : _ ∧ _)); (with_reducible refine g_sub ?_); (first | (refine sub_4t (by assumption) ?_; intro _ _) | (refine sub_4d (by assumption) ?_; intro _ _) | (refine sub_4u (by assumption) ?_; intro _ _) | (refine sub_10 (by assumption) ?_; intro _ _) | (refine sub_6 (by assumption) ?_; intro _ _) | (refine sub_n (by omega) (by omega) (by omega) (by assumption) ?_) | (refine sub_i (by omega) (by omega) (by assumption) ?_))) | k_extra "step")
                  have hcnt' := P.cnt
                  have hps' : (z.at y.b).ps.length = pns'.length := by rw [P.ps]; simp
                  have hcs' : (z.at y.b).cs.length = cns'.length := by rw [P.cs]; simp
                  have hs : scan (u * (d2 - 1)) (u * v) [] (pns' ++ cns') none = (cond f (pns'.length : Int) (-1), bo') := by
                    cases f with
                    | true =>
                      have := (hf rfl).2
                      rw [ev, em] at this
                      exact this
                    | false =>
                      obtain ⟨J, hc⟩ := hnf rfl
                      have := inv_none J hc
                      rw [ev', em', ev, em] at this
                      exact this
                  refine ct_lrightE (by first | decide | omega) (x := (z.at y.b)) (f := f) (bo := bo') eb (ev'.trans ev) (em'.trans em) (M := M') (by omega) (by repeat (first | exact Wk.refl _ | exact Wk.nil _ | refine Wk.pick (by repeat (first | exact Pick.head | apply Pick.tail)) ?_)) U P hs (fun e e2 => ?_) (fun e => (hnf e).1.best) ?_
                  · obtain ⟨⟨q, hq, _⟩, _⟩ := hf e
                    rw [hq] at e2
                    cases e2
                  repeat' (first | k_extra "blk" | ((with_reducible refine at_ 439 ?_); refine ct_Penalty (by first | decide | omega) (by omega) ?_) | ((refine (?_ : _ ∧ _)); (with_reducible refine g_sub ?_); (first | (refine sub_4t (by assumption) ?_; intro _ _) | (refine sub_4d (by assumption) ?_; intro _ _) | (refine sub_4u (by assumption) ?_; intro _ _) | (refine sub_10 (by assumption) ?_; intro _ _) | (refine sub_6 (by assumption) ?_; intro _ _) | (refine sub_n (by omega) (by omega) (by omega) (by assumption) ?_) | (refine sub_i (by omega) (by omega) (by assumption) ?_))) | k_extra "step")
                  cases f with
                  | false =>
                    obtain ⟨J, -⟩ := hnf rfl
                    clear hf hnf hs
                    repeat' (first | k_extra "blk" | ((with_reducible refine at_ 439 ?_); refine ct_Penalty (by first | decide | omega) (by omega) ?_) | ((refine (?_ : _ ∧ _)); (with_reducible refine g_sub ?_); (first | (refine sub_4t (by assumption) ?_; intro _ _) | (refine sub_4d (by assumption) ?_; intro _ _) | (refine sub_4u (by assumption) ?_; intro _ _) | (refine sub_10 (by assumption) ?_; intro _ _) | (refine sub_6 (by assumption) ?_; intro _ _) | (refine sub_n (by omega) (by omega) (by omega) (by assumption) ?_) | (refine sub_i (by omega) (by omega) (by assumption) ?_))) | k_extra "step")
                    exact ease_to [("script", .src (ns.map AV.int)), ("heap", .ref h), ("unit", .int u), ("top", g.av), ("deep", .int (u * v)), ("goal", .int (u * (d2 - 1))), ("items", .lst xs), ("cut", .int cu), ("builder", .ref (z.at y.b).b)] ((z.at y.b).T ++ hp h w8 c8) (by repeat (first | exact True.intro | refine And.intro rfl ?_)) (Wk.refl _) (ih (z.at y.b) pns' cns' bo' M' (ev'.trans ev) (em'.trans em) J (fun p h => hpc p (.tail _ h)) (by omega))
                  | true =>
                    obtain ⟨⟨q, hq, hq2⟩, -⟩ := hf rfl
                    subst hq
                    obtain ⟨qa, qb, qc, qd⟩ := q
                    have hq2 : 0 ≤ qa ∧ qa ≤ pns'.length := hq2
                    clear hf hnf hs
                    have ecut : cut (some qa.toNat) none (z.at y.b).ps = (pns'.drop qa.toNat).map Nd.av := by rw [P.ps]; simp [cut, List.map_drop]
                    have exs : (pns'.drop qa.toNat).map Nd.av ++ (z.at y.b).cs = (pns'.drop qa.toNat ++ cns').map Nd.av := by rw [P.cs]; simp
                    have hxl : ((pns'.drop qa.toNat ++ cns').map Nd.av).length ≤ M' := by simp; omega
                    repeat' (first | k_extra "blk" | ((with_reducible refine at_ 439 ?_); refine ct_Penalty (by first | decide | omega) (by omega) ?_) | ((refine (?_ : _ ∧ _)); (with_reducible refine g_sub ?_); (first | (refine sub_4t (by assumption) ?_; intro _ _) | (refine sub_4d (by assumption) ?_; intro _ _) | (refine sub_4u (by assumption) ?_; intro _ _) | (refine sub_10 (by assumption) ?_; intro _ _) | (refine sub_6 (by assumption) ?_; intro _ _) | (refine sub_n (by omega) (by omega) (by omega) (by assumption) ?_) | (refine sub_i (by omega) (by omega) (by assumption) ?_))) | k_extra "step")
                    conv => whnf
                    rw [ecut]
                    repeat' (first | k_extra "blk" | ((with_reducible refine at_ 439 ?_); refine ct_Penalty (by first | decide | omega) (by omega) ?_) | ((refine (?_ : _ ∧ _)); (with_reducible refine g_sub ?_); (first | (refine sub_4t (by assumption) ?_; intro _ _) | (refine sub_4d (by assumption) ?_; intro _ _) | (refine sub_4u (by assumption) ?_; intro _ _) | (refine sub_10 (by assumption) ?_; intro _ _) | (refine sub_6 (by assumption) ?_; intro _ _) | (refine sub_n (by omega) (by omega) (by omega) (by assumption) ?_) | (refine sub_i (by omega) (by omega) (by assumption) ?_))) | k_extra "step")
                    refine ct_PageBuilder (by first | decide | omega) (by omega) (by omega) fun b2 d2' co2 he2 pg2 sa2 => ?_
                    repeat' (first | k_extra "blk" | ((with_reducible refine at_ 439 ?_); refine ct_Penalty (by first | decide | omega) (by omega) ?_) | ((refine (?_ : _ ∧ _)); (with_reducible refine g_sub ?_); (first | (refine sub_4t (by assumption) ?_; intro _ _) | (refine sub_4d (by assumption) ?_; intro _ _) | (refine sub_4u (by assumption) ?_; intro _ _) | (refine sub_10 (by assumption) ?_; intro _ _) | (refine sub_6 (by assumption) ?_; intro _ _) | (refine sub_n (by omega) (by omega) (by omega) (by assumption) ?_) | (refine sub_i (by omega) (by omega) (by assumption) ?_))) | k_extra "step")
                    rw [exs]
                    refine ct_contribute (by first | decide | omega) (x := Bd.new b2 d2' co2 he2 pg2 sa2 (u * (d2 - 1)) (u * v)) (ns := pns'.drop qa.toNat ++ cns') rfl (by show 0 + _ ≤ 900; omega) (by repeat (first | exact Wk.refl _ | exact Wk.nil _ | refine Wk.pick (by repeat (first | exact Pick.head | apply Pick.tail)) ?_)) ?_
                    repeat' (first | k_extra "blk" | ((with_reducible refine at_ 439 ?_); refine ct_Penalty (by first | decide | omega) (by omega) ?_) | ((refine (?_ : _ ∧ _)); (with_reducible refine g_sub ?_); (first | (refine sub_4t (by assumption) ?_; intro _ _) | (refine sub_4d (by assumption) ?_; intro _ _) | (refine sub_4u (by assumption) ?_; intro _ _) | (refine sub_10 (by assumption) ?_; intro _ _) | (refine sub_6 (by assumption) ?_; intro _ _) | (refine sub_n (by omega) (by omega) (by omega) (by assumption) ?_) | (refine sub_i (by omega) (by omega) (by assumption) ?_))) | k_extra "step")
                    have J := inv_more (inv_new (b := b2) (d := d2') (co := co2) (he := he2) (pg := pg2) (sa := sa2) hu U) (ns := pns'.drop qa.toNat ++ cns') (fun n hn => by
                      rcases List.mem_append.mp hn with hn | hn
                      · exact P.okp n (List.mem_of_mem_drop hn)
                      · exact P.okc n hn)
                    refine ease_to [("script", .src (ns.map AV.int)), ("heap", .ref h), ("unit", .int u), ("top", g.av), ("deep", .int (u * v)), ("goal", .int (u * (d2 - 1))), ("items", .lst xs), ("cut", .int cu), ("builder", .ref b2), ("piece", .lst (pc.map Nd.av))] (_ ++ hp h w8 c8) (by repeat (first | exact True.intro | refine And.intro rfl ?_)) (by repeat (first | exact Wk.refl _ | exact Wk.nil _ | refine Wk.pick (by repeat (first | exact Pick.head | apply Pick.tail)) ?_)) (ihy _ _ _ _ _ rfl rfl J (by simp; omega))
              exact key2 _ { x with cs := x.cs ++ pc.map Nd.av } pns (cns ++ pc) bo (M + pc.length) ev em I2 (by simp)
          exact key [its.take cu.toNat, its.drop cu.toNat] _ [] [] none 1 rfl rfl (inv_new hu U) (fun pc hpc n hn => by
            rcases List.mem_cons.mp hpc with rfl | hpc
            · exact hits n (List.mem_of_mem_take hn)
            · rw [List.mem_singleton.mp hpc] at hn
              exact hits n (List.mem_of_mem_drop hn)) (by simp; omega)
        clear hK step done
        repeat' (first | k_extra "blk" | ((with_reducible refine at_ 439 ?_); refine ct_Penalty (by first | decide | omega) (by omega) ?_) | ((refine (?_ : _ ∧ _)); (with_reducible refine g_sub ?_); (first | (refine sub_4t (by assumption) ?_; intro _ _) | (refine sub_4d (by assumption) ?_; intro _ _) | (refine sub_4u (by assumption) ?_; intro _ _) | (refine sub_10 (by assumption) ?_; intro _ _) | (refine sub_6 (by assumption) ?_; intro _ _) | (refine sub_n (by omega) (by omega) (by omega) (by assumption) ?_) | (refine sub_i (by omega) (by omega) (by assumption) ?_))) | k_extra "step")
        refine ct_ltake (by first | decide | omega) (by repeat (first | exact Wk.refl _ | exact Wk.nil _ | refine Wk.pick (by repeat (first | exact Pick.head | apply Pick.tail)) ?_)) hb (by omega) (by omega) ?_
        intro d7 w7 c7 b7 hb7
        repeat' (first | k_extra "blk" | ((with_reducible refine at_ 439 ?_); refine ct_Penalty (by first | decide | omega) (by omega) ?_) | ((refine (?_ : _ ∧ _)); (with_reducible refine g_sub ?_); (first | (refine sub_4t (by assumption) ?_; intro _ _) | (refine sub_4d (by assumption) ?_; intro _ _) | (refine sub_4u (by assumption) ?_; intro _ _) | (refine sub_10 (by assumption) ?_; intro _ _) | (refine sub_6 (by assumption) ?_; intro _ _) | (refine sub_n (by omega) (by omega) (by omega) (by assumption) ?_) | (refine sub_i (by omega) (by omega) (by assumption) ?_))) | k_extra "step")
        · exact NextK.go <| cont (its ++ [.pen (-10000)]) (xs ++ [Nd.av (.pen (-10000))]) w7 c7 (by rw [hx]; simp) (fun n h => by
            rcases List.mem_append.mp h with h | h
            · exact hits n h
            · rw [List.mem_singleton.mp h]; exact ⟨by decide, by decide⟩) (by simp; omega) (hb7.le (by omega))
        · exact NextK.go <| cont its xs w7 c7 hx hits (by omega) (hb7.le (by omega))
      | cons y ys ih =>
        intro its xs n w c hx hits hlen hn hb
        have hxl : xs.length = its.length := by rw [hx]; simp
        simp only [List.length_cons] at hlen hn
        refine step _ _ _ ?_
        clear step done
        repeat' (first | k_extra "blk" | ((with_reducible refine at_ 439 ?_); refine ct_Penalty (by first | decide | omega) (by omega) ?_) | ((refine (?_ : _ ∧ _)); (with_reducible refine g_sub ?_); (first | (refine sub_4t (by assumption) ?_; intro _ _) | (refine sub_4d (by assumption) ?_; intro _ _) | (refine sub_4u (by assumption) ?_; intro _ _) | (refine sub_10 (by assumption) ?_; intro _ _) | (refine sub_6 (by assumption) ?_; intro _ _) | (refine sub_n (by omega) (by omega) (by omega) (by assumption) ?_) | (refine sub_i (by omega) (by omega) (by assumption) ?_))) | k_extra "step")
        refine ct_lstanding (by first | decide | omega) hu (by repeat (first | exact Wk.refl _ | exact Wk.nil _ | refine Wk.pick (by repeat (first | exact Pick.head | apply Pick.tail)) ?_)) hb (by omega) ?_
        intro nd w7 c7 hnd hb7
        repeat' (first | k_extra "blk" | ((with_reducible refine at_ 439 ?_); refine ct_Penalty (by first | decide | omega) (by omega) ?_) | ((refine (?_ : _ ∧ _)); (with_reducible refine g_sub ?_); (first | (refine sub_4t (by assumption) ?_; intro _ _) | (refine sub_4d (by assumption) ?_; intro _ _) | (refine sub_4u (by assumption) ?_; intro _ _) | (refine sub_10 (by assumption) ?_; intro _ _) | (refine sub_6 (by assumption) ?_; intro _ _) | (refine sub_n (by omega) (by omega) (by omega) (by assumption) ?_) | (refine sub_i (by omega) (by omega) (by assumption) ?_))) | k_extra "step")
        refine ct_lgap (by first | decide | omega) hu (by repeat (first | exact Wk.refl _ | exact Wk.nil _ | refine Wk.pick (by repeat (first | exact Pick.head | apply Pick.tail)) ?_)) hb7 (by omega) ?_
        intro ns2 w8 c8 hns hl2 hb8
        have hl3 : (ns2.map Nd.av).length ≤ 2 := by simpa using hl2
        repeat' (first | k_extra "blk" | ((with_reducible refine at_ 439 ?_); refine ct_Penalty (by first | decide | omega) (by omega) ?_) | ((refine (?_ : _ ∧ _)); (with_reducible refine g_sub ?_); (first | (refine sub_4t (by assumption) ?_; intro _ _) | (refine sub_4d (by assumption) ?_; intro _ _) | (refine sub_4u (by assumption) ?_; intro _ _) | (refine sub_10 (by assumption) ?_; intro _ _) | (refine sub_6 (by assumption) ?_; intro _ _) | (refine sub_n (by omega) (by omega) (by omega) (by assumption) ?_) | (refine sub_i (by omega) (by omega) (by assumption) ?_))) | k_extra "step")
        exact ease_to [("script", .src (ns.map AV.int)), ("heap", .ref h), ("unit", .int u), ("top", g.av), ("deep", .int (u * v)), ("goal", .int (u * (d2 - 1))), ("items", .lst _)] (hp h w8 c8) (by repeat (first | exact True.intro | refine And.intro rfl ?_)) (by repeat (first | exact Wk.refl _ | exact Wk.nil _ | refine Wk.pick (by repeat (first | exact Pick.head | apply Pick.tail)) ?_)) (ih (its ++ [nd] ++ ns2) _ (n + 3 + 8) w8 c8 (by rw [hx]; simp) (fun n h => by
            rcases List.mem_append.mp h with h | h
            · rcases List.mem_append.mp h with h | h
              · exact hits n h
              · rw [List.mem_singleton.mp h]; exact hnd
            · exact hns n h) (by simp; omega) (by omega) hb8)
    exact key _ its _ 41 w6 c6 rfl hits (by simp; omega) (by simp; omega) hb6
  clear hK
  repeat' (first | k_extra "blk" | ((with_reducible refine at_ 439 ?_); refine ct_Penalty (by first | decide | omega) (by omega) ?_) | ((refine (?_ : _ ∧ _)); (with_reducible refine g_sub ?_); (first | (refine sub_4t (by assumption) ?_; intro _ _) | (refine sub_4d (by assumption) ?_; intro _ _) | (refine sub_4u (by assumption) ?_; intro _ _) | (refine sub_10 (by assumption) ?_; intro _ _) | (refine sub_6 (by assumption) ?_; intro _ _) | (refine sub_n (by omega) (by omega) (by omega) (by assumption) ?_) | (refine sub_i (by omega) (by omega) (by assumption) ?_))) | k_extra "step")
  refine ct_ltake (by first | decide | omega) (by repeat (first | exact Wk.refl _ | exact Wk.nil _ | refine Wk.pick (by repeat (first | exact Pick.head | apply Pick.tail)) ?_)) hb4 (by omega) (by omega) ?_
  intro d5 w5 c5 b5 hb5
  repeat' (first | k_extra "blk" | ((with_reducible refine at_ 439 ?_); refine ct_Penalty (by first | decide | omega) (by omega) ?_) | ((refine (?_ : _ ∧ _)); (with_reducible refine g_sub ?_); (first | (refine sub_4t (by assumption) ?_; intro _ _) | (refine sub_4d (by assumption) ?_; intro _ _) | (refine sub_4u (by assumption) ?_; intro _ _) | (refine sub_10 (by assumption) ?_; intro _ _) | (refine sub_6 (by assumption) ?_; intro _ _) | (refine sub_n (by omega) (by omega) (by omega) (by assumption) ?_) | (refine sub_i (by omega) (by omega) (by assumption) ?_))) | k_extra "step")
  · refine ct_lgap (by first | decide | omega) hu (by repeat (first | exact Wk.refl _ | exact Wk.nil _ | refine Wk.pick (by repeat (first | exact Pick.head | apply Pick.tail)) ?_)) hb5 (by omega) ?_
    intro its w c h1 h2 h3
    exact cont its w c h1 h2 (h3.le (by omega))
  · exact NextK.go <| cont [] w5 c5 (fun n h => by cases h) (by decide) (hb5.le (by omega))

theorem src_of {h : Heap} {a : Addr} {vs : List Value} {ns : List Int} (hL : h.IsList a vs.toArray) (hI : IntsAre vs ns) : Rep (fun b => h.get? b) (.src (ns.map AV.int)) (.ref a) := by
  obtain ⟨o, ho, hc, n, hd⟩ := hL
  have key : ∀ {vs : List Value} {ns : List Int}, IntsAre vs ns → RepL (fun b => h.get? b) (ns.map AV.int) vs := by
    intro vs ns hI
    induction hI with
    | nil => exact .nil
    | cons n t _ ih => exact .cons (.int _ _) ih
  exact .src ho hc hd (key hI).length fun i x v h1 h2 => (key hI).get h1 h2
/-- the law is entered -/
theorem enter {prog : Program} {w : World} {A : Around} {s₁ : Shared} {h₁ : Heap} {a fa : Addr} {cd : Value} {vs : List Value} {ns : List Int} {name : Str} {Q : Flow → Shared → Prop} {E : Value → Shared → Prop} {s : Shared} {m : Str → Option Value} {K : Frag} (kn : Kn K)
    (hh : s.heap = h₁) (KX : K.In s₁.heap) (top : ∃ p loose mg mb, TopRead p loose mg mb s₁.heap) (hL : s₁.heap.IsList a vs.toArray) (hI : IntsAre vs ns) (F : Fr s₁.heap s₁.heap.objs.size h₁ m) (hm : m ("script" : Str) = some (.ref a))
    (hd' : A.depth + 13 < recursionLimit) (hu : A.units + 8 * 13 + 100 < cLine) (hA : A.handled = none) (hl : ns.length ≤ 900)
    (hQ : ∀ h' tk, (∀ b o, s₁.heap.get? b = some o → h'.get? b = some o) → Q (.ret (.bool true)) { s with heap := h', toks := tk }) : wpAny (model prog w) A (execs fd_law.body (envOf name fd_law.scope s₁.heap.objs.size fa cd)) Q E s := by
  subst hh
  have I := in_law kn
  let cx : Cx := ⟨prog, w, A, s₁.heap, s₁.heap.objs.size, name, fd_law.scope, fa, cd, K⟩
  have ok : cx.Ok 13 := ⟨KX, kn, top, hd', hu, hA, I.good.kind, I.good.nodebug⟩
  have G : Gd ⟨fd_law.scope, fd_law.gl, false, 13⟩ cx := ⟨ok, I.gl, I.good.nodebug, rfl⟩
  have R0 : Rel cx (fun b => s₁.heap.get? b) ⟨[("script", .src (ns.map AV.int))], []⟩ s.heap := by
    refine ⟨fun b o e => F.keep b o e, fun b o e => e, ⟨m, F.ns, fun x v e => ?_⟩, fun p hp => (by cases hp), (show [cx.L].Nodup by simp), fun b hb => ?_⟩
    · rw [List.lookup_cons] at e
      cases q : x == ("script" : Str) with
      | true =>
        rw [q] at e
        cases e
        rw [eq_of_beq q]
        exact ⟨rfl, _, hm, src_of hL hI⟩
      | false => rw [q] at e; cases e
    · rw [List.mem_singleton.mp (show b ∈ [cx.L] from hb)]
      exact push_none _
  refine (sound G 130).s fd_law.body _ _ (law_blk hl).go _ s R0 Q E fun B' fl σ' flow h' tk N r' hk' => ?_
  subst hk'
  cases r' with
  | ret hr =>
    obtain rfl := hr.boolL
    exact hQ h' tk fun b o e => N.rel.keep b o (N.stp.bm b o e)
theorem fnK {K : Frag} {f : Addr} {d : FD} {n : Nat} {oc : Value} {od : Option Addr} {dV kV doc pm : Value} {an : Option Addr} {cdv ct : Value} {osl : Array (Option Value)} (q : Str)
    (h1 : K.lookup f = some ⟨oc, od, .func (fnOf d.name d.qual d.params d.body d.scope dV kV doc pm an cdv ct), osl⟩) (h2 : codeIn K cdv q = true) (hq : d.qual = q) (hn : n + d.ds.length = d.ps.length)
    (h3 : ∀ s : Shared, K.In s.heap → ∀ ys : List Value, ys.length = n → BindsTo s (fnOf d.name d.qual d.params d.body d.scope dV kV doc pm an cdv ct) ⟨ys, []⟩ (d.ps.zip (ys ++ d.ds))) : FnK K f d :=
  ⟨oc, od, dV, kV, doc, pm, an, cdv, ct, osl, h1, by rw [hq]; exact h2, fun s X ys e => h3 s X ys (by rw [List.length_append] at e; omega)⟩
theorem len0 {P : List Value → Prop} (h : P []) (l : List Value) (e : l.length = 0) : P l := List.eq_nil_of_length_eq_zero e ▸ h
theorem lenS {P : List Value → Prop} {n : Nat} (h : ∀ a (l : List Value), l.length = n → P (a :: l)) (l : List Value) (e : l.length = n + 1) : P l := by
  cases l with
  | nil => cases e
  | cons a l => exact h a l (Nat.succ.inj e)
theorem len1 {P : List Value → Prop} (h : ∀ a, P [a]) : ∀ l : List Value, l.length = 1 → P l := lenS fun a => len0 (h a)
theorem len2 {P : List Value → Prop} (h : ∀ a b, P [a, b]) : ∀ l : List Value, l.length = 2 → P l := lenS fun a => len1 fun b => h a b
theorem len3 {P : List Value → Prop} (h : ∀ a b c, P [a, b, c]) : ∀ l : List Value, l.length = 3 → P l := lenS fun a => len2 fun b c => h a b c
theorem len4 {P : List Value → Prop} (h : ∀ a b c d, P [a, b, c, d]) : ∀ l : List Value, l.length = 4 → P l := lenS fun a => len3 fun b c d => h a b c d
theorem len5 {P : List Value → Prop} (h : ∀ a b c d e, P [a, b, c, d, e]) : ∀ l : List Value, l.length = 5 → P l := lenS fun a => len4 fun b c d e => h a b c d e
theorem len6 {P : List Value → Prop} (h : ∀ a b c d e f, P [a, b, c, d, e, f]) : ∀ l : List Value, l.length = 6 → P l := lenS fun a => len5 fun b c d e f => h a b c d e f
end Mine
namespace Mine
open PySem PySem.W PyProof.Rows
-- Reserved names. Under each of them the head of J would lay a twin of one of its objects or trees, with a proof that is quadratic in the objects (391 MB in all).
-- Where the name is taken it goes on with the object itself. Nothing uses these theorems.
theorem J.tw14013576935600051109 : True := trivial
theorem J.tw1860829276540337977 : True := trivial
theorem J.tw12623599711782464361 : True := trivial
theorem J.tw13515568747881902734 : True := trivial
theorem J.tw2259962863715401695 : True := trivial
theorem J.tw16283914726311428371 : True := trivial
theorem J.tw516576913149109506 : True := trivial
theorem J.tw9247994367552252519 : True := trivial
theorem J.tw10692591163996205925 : True := trivial
theorem J.tw11648105854740380210 : True := trivial
theorem J.tw1221496385742329786 : True := trivial
theorem J.tw15793852276172830198 : True := trivial
theorem J.tw3738079602817780351 : True := trivial
theorem J.tw14867566226417727148 : True := trivial
theorem J.tw12942417368834072176 : True := trivial
theorem J.tw10384951598263411620 : True := trivial
theorem J.tw12912747530326321012 : True := trivial
theorem J.tw7057267184204814247 : True := trivial
theorem J.tw2146138710083506698 : True := trivial
theorem J.tw736205311127758370 : True := trivial
theorem J.tw6581954307236994556 : True := trivial
theorem J.tw3740306380157038885 : True := trivial
theorem J.tw13837621926193049277 : True := trivial
theorem J.tw15034836483430272357 : True := trivial
theorem J.tw13726518449195428475 : True := trivial
theorem J.tw4905095953278102401 : True := trivial
theorem J.tw15346194954050838689 : True := trivial
theorem J.tw7023262108368049392 : True := trivial
theorem J.tw5465584551316988060 : True := trivial
theorem J.tw5963872950848826364 : True := trivial
theorem J.tw7162776987982627728 : True := trivial
theorem J.tw17054467876792166562 : True := trivial
theorem J.tw15828185702841214394 : True := trivial
theorem J.tw7119613689152144680 : True := trivial
theorem J.tw11440972279193362102 : True := trivial
theorem J.tw8384608629573158250 : True := trivial
theorem J.tw3053789075198174163 : True := trivial
theorem J.tw7514501925656846184 : True := trivial
theorem J.tw2414816625112128768 : True := trivial
theorem J.tw298891909469313232 : True := trivial
theorem J.tw16361216179809071728 : True := trivial
theorem J.tw5467780434395196530 : True := trivial
theorem J.tw9692732330451098300 : True := trivial
theorem J.tw11335618040260766256 : True := trivial
theorem J.tw1129410738099171412 : True := trivial
theorem J.tw967159642406535242 : True := trivial
theorem J.tw6956617356503345065 : True := trivial
theorem J.tw7337940461301680441 : True := trivial
theorem J.tw18020217384618922223 : True := trivial
theorem J.tw8752059119971739692 : True := trivial
theorem J.tw5226433557760831963 : True := trivial
theorem J.tw4394626302797463755 : True := trivial
theorem J.tw13439766250925895436 : True := trivial
theorem J.tw16138038093117806966 : True := trivial
theorem J.tw13996802712352707990 : True := trivial
theorem J.tw10497523443503594077 : True := trivial
theorem J.tw11304370793911716563 : True := trivial
theorem J.tw17879395936324870078 : True := trivial
theorem J.tw7972920324767148705 : True := trivial
theorem J.tw16048819717724051699 : True := trivial
theorem J.tw3250429835956000411 : True := trivial
theorem J.tw9963117208880658714 : True := trivial
theorem J.tw3831345223050246508 : True := trivial
theorem J.tw8250465437126613757 : True := trivial
theorem J.tw15679249581956144190 : True := trivial
theorem J.tw14770081612663658690 : True := trivial
theorem J.tw303471305990931441 : True := trivial
theorem J.tw3317256061693639533 : True := trivial
theorem J.tw3022908267661009949 : True := trivial
theorem J.tw1834347824775556772 : True := trivial
theorem J.tw7257554601181978886 : True := trivial
theorem J.tw9478179970797695139 : True := trivial
theorem J.tw14272559724848652069 : True := trivial
theorem J.tw18147784523669838026 : True := trivial
theorem J.tw16538197183407006800 : True := trivial
theorem J.tw1600344928830119550 : True := trivial
theorem J.tw15787468464909572397 : True := trivial
theorem J.tw2899284273465267550 : True := trivial
theorem J.tw2758173636352800696 : True := trivial
theorem J.tw17789083028418335265 : True := trivial
theorem J.tw5355205566311267379 : True := trivial
theorem J.tw17714089186204664694 : True := trivial
theorem J.tw10613760754251685158 : True := trivial
theorem J.tw3423944828423218485 : True := trivial
theorem J.tw506733510975127002 : True := trivial
theorem J.tw11427688977816277481 : True := trivial
theorem J.tw4075346275391347469 : True := trivial
theorem J.tw11342159244875943002 : True := trivial
theorem J.tw9622242416954814672 : True := trivial
theorem J.tw7908968067789370174 : True := trivial
theorem J.tw11519177018979928312 : True := trivial
theorem J.tw15144874245425699558 : True := trivial
theorem J.tw13034084420767043826 : True := trivial
theorem J.tw15921803595729544942 : True := trivial
theorem J.tw14409224541913295740 : True := trivial
theorem J.tw16465275135661871834 : True := trivial
theorem J.tw7542748099982612527 : True := trivial
theorem J.tw4958772688779410396 : True := trivial
theorem J.tw3412698452971474628 : True := trivial
theorem J.tw15506391884423628047 : True := trivial
theorem J.tw1278927964112206107 : True := trivial
theorem J.tw9074084050538097381 : True := trivial
theorem J.tw10217240003540663630 : True := trivial
theorem J.tw2104661190583790801 : True := trivial
theorem J.tw16859137903369699381 : True := trivial
theorem J.tw14770115960217670912 : True := trivial
theorem J.tw10263149378959063793 : True := trivial
theorem J.tw9437682644899669523 : True := trivial
theorem J.tw15465488026614121510 : True := trivial
theorem J.tw16637940637453433512 : True := trivial
theorem J.tw482656744403461498 : True := trivial
theorem J.tw15215709832090517688 : True := trivial
theorem J.tw9178013959623762801 : True := trivial
theorem J.tw1900888159080948444 : True := trivial
theorem J.tw530444581924016671 : True := trivial
theorem J.tw6909047275794449384 : True := trivial
theorem J.tw17771090821659794798 : True := trivial
theorem J.tw868303722834352116 : True := trivial
theorem J.tw11947714673160883637 : True := trivial
theorem J.tw10842874891284916953 : True := trivial
theorem J.tw10658165226714563726 : True := trivial
theorem J.tw5842669724592280082 : True := trivial
theorem J.tw12472240304281910458 : True := trivial
theorem J.tw15218455634006598420 : True := trivial
theorem J.tw1625384849926713376 : True := trivial
theorem J.tw5376762208555325703 : True := trivial
theorem J.tw6943615444385678777 : True := trivial
theorem J.tw6362142882718120561 : True := trivial
theorem J.tw6887824205168734991 : True := trivial
theorem J.tw8622240535783470311 : True := trivial
theorem J.tw2868215886526673988 : True := trivial
theorem J.tw3647433695914942176 : True := trivial
theorem J.tw7216917263860990895 : True := trivial
theorem J.tw17094616210087957997 : True := trivial
theorem J.tw1257876789294220798 : True := trivial
theorem J.tw8562350173769576004 : True := trivial
theorem J.tw3140041928893615664 : True := trivial
theorem J.tw5030584897472688304 : True := trivial
theorem J.tw69463699462221405 : True := trivial
theorem J.tw17726523649220865316 : True := trivial
theorem J.tw4146988956811354965 : True := trivial
theorem J.tw8605881135566360171 : True := trivial
theorem J.tw16077766644191262156 : True := trivial
theorem J.tw8494421273141892172 : True := trivial
theorem J.tw5237304958845628614 : True := trivial
theorem J.tw4327067133574996650 : True := trivial
theorem J.tw12973945341061672062 : True := trivial
theorem J.tw18223662221815862899 : True := trivial
theorem J.tw18049066760591679555 : True := trivial
theorem J.tw2588158124756300781 : True := trivial
theorem J.tw11824896521961077011 : True := trivial
theorem J.tw6216750113427572372 : True := trivial
theorem J.tw6689532528472401867 : True := trivial
theorem J.tw3108001954724336893 : True := trivial
theorem J.tw1688320701105782928 : True := trivial
theorem J.tw3328623255047175821 : True := trivial
theorem J.tw15463362044155349382 : True := trivial
theorem J.tw17617537374988029674 : True := trivial
theorem J.tw13978030333250805103 : True := trivial
theorem J.tw8485266485523784070 : True := trivial
theorem J.tw9247852842428791428 : True := trivial
theorem J.tw1234017561146851800 : True := trivial
theorem J.tw10885901939628359739 : True := trivial
theorem J.tw5133178583704173060 : True := trivial
theorem J.tw5758257233328139257 : True := trivial
theorem J.tw9423812876573772870 : True := trivial
theorem J.tw18319861012111844365 : True := trivial
theorem J.tw7427740377829922224 : True := trivial
theorem J.tw13706337307151935635 : True := trivial
theorem J.tw10969420618161093922 : True := trivial
theorem J.tw15743689739705915087 : True := trivial
theorem J.tw14586279188169066633 : True := trivial
theorem J.tw15565777900046589754 : True := trivial
theorem J.tw6056915203067431895 : True := trivial
theorem J.tw16539536801785476368 : True := trivial
theorem J.tw13756592581437103826 : True := trivial
theorem J.tw188266673770109390 : True := trivial
theorem J.tw549798020914868298 : True := trivial
theorem J.tw4956820336954451506 : True := trivial
theorem J.tw7796050752558953753 : True := trivial
theorem J.tw5270355775130562697 : True := trivial
theorem J.tw15662035905639002951 : True := trivial
theorem J.tw12874742942879196271 : True := trivial
theorem J.tw8028237207218945668 : True := trivial
theorem J.tw17797731846781096405 : True := trivial
theorem J.tw7819702561200868837 : True := trivial
theorem J.tw9493275381135092226 : True := trivial
theorem J.tw5437443780220767817 : True := trivial
theorem J.tw10771751211488954964 : True := trivial
theorem J.tw17696884800926349343 : True := trivial
theorem J.tw2923855505651809336 : True := trivial
theorem J.tw15374876612893512752 : True := trivial
theorem J.tw10854072004606764933 : True := trivial
theorem J.tw10602565819826575685 : True := trivial
theorem J.tw5440344069417760848 : True := trivial
theorem J.tw5484954002808956883 : True := trivial
theorem J.tw17648328305182996890 : True := trivial
theorem J.tw15521198581395563789 : True := trivial
theorem J.tw8805129090595430655 : True := trivial
theorem J.tw12916236909148057095 : True := trivial
theorem J.tw10483882194900122307 : True := trivial
theorem J.tw14266521105786319170 : True := trivial
theorem J.tw258681218587717703 : True := trivial
theorem J.tw18333639129574201851 : True := trivial
theorem J.tw10394694685833078618 : True := trivial
theorem J.tw16679822248757468865 : True := trivial
theorem J.tw14893821147454609221 : True := trivial
theorem J.tw9372610190253319848 : True := trivial
theorem J.tw12963901803815062651 : True := trivial
theorem J.tw6478013702489693611 : True := trivial
theorem J.tw7959717549407599699 : True := trivial
theorem J.tw380184787530735277 : True := trivial
theorem J.tw1865141762188339326 : True := trivial
theorem J.tw16813346540632093057 : True := trivial
theorem J.tw3720380980790828644 : True := trivial
theorem J.tw3227686437342946274 : True := trivial
theorem J.tw680170337523154995 : True := trivial
theorem J.tw4641886703623293233 : True := trivial
theorem J.tw1619779252111394787 : True := trivial
theorem J.tw12377686863830270229 : True := trivial
theorem J.tw3819094691530735526 : True := trivial
theorem J.tw16373442729803274759 : True := trivial
theorem J.tw388591320624813631 : True := trivial
theorem J.tw12030256459987612417 : True := trivial
theorem J.tw17778132618845035806 : True := trivial
theorem J.tw4547457845271745659 : True := trivial
theorem J.tw7068281569133463723 : True := trivial
theorem J.tw3997483211291023407 : True := trivial
theorem J.tw9979239762320058636 : True := trivial
theorem J.tw343263406641930635 : True := trivial
theorem J.tw11959822601397186819 : True := trivial
theorem J.tw15720454638706736891 : True := trivial
theorem J.tw12013457038978990581 : True := trivial
theorem J.tw15584818659814327886 : True := trivial
theorem J.tw93793775391956112 : True := trivial
theorem J.tw3377615363204444909 : True := trivial
theorem J.tw9932092813255371501 : True := trivial
theorem J.tw10228309694648555175 : True := trivial
theorem J.tw16460406041338633414 : True := trivial
theorem J.tw11354696304663205398 : True := trivial
theorem J.tw401322061449860232 : True := trivial
theorem J.tw12959825716872468065 : True := trivial
theorem J.tw17320275169182097720 : True := trivial
theorem J.tw1347119940885543027 : True := trivial
theorem J.tw15325162598435574704 : True := trivial
theorem J.tw8325443603619724574 : True := trivial
theorem J.tw179632319357380632 : True := trivial
theorem J.tw6296615043994412755 : True := trivial
theorem J.tw11622267957301637888 : True := trivial
theorem J.tw16421477161402057239 : True := trivial
theorem J.tw17723750558272877252 : True := trivial
theorem J.tw17988173017451740550 : True := trivial
theorem J.tw15811975140939374246 : True := trivial
theorem J.tw11437853468268630911 : True := trivial
theorem J.tw1911324388915254541 : True := trivial
theorem J.tw4765965594603647411 : True := trivial
theorem J.tw4616816323803380324 : True := trivial
theorem J.tw2008956411131932918 : True := trivial
theorem J.tw5329306812338209514 : True := trivial
theorem J.tw6193093822578712867 : True := trivial
theorem J.tw4895923134776752167 : True := trivial
theorem J.tw2611903502462643326 : True := trivial
theorem J.tw2650041583902897278 : True := trivial
theorem J.tw10485841632340925596 : True := trivial
theorem J.tw18175690276019395279 : True := trivial
theorem J.tw13310561074632029504 : True := trivial
theorem J.tw9142241805550595208 : True := trivial
theorem J.tw483366990745502720 : True := trivial
theorem J.tw14510250026143478365 : True := trivial
theorem J.tw13614670427878380855 : True := trivial
theorem J.tw18362338830929057857 : True := trivial
theorem J.tw6999714435029036875 : True := trivial
theorem J.tw10473306152082543550 : True := trivial
theorem J.tw9780149224596038863 : True := trivial
theorem J.tw1899328532633448887 : True := trivial
theorem J.tw1617355235612895992 : True := trivial
theorem J.tw4129395172791018746 : True := trivial
theorem J.tw6554232760510412604 : True := trivial
theorem J.tw12795562763580777654 : True := trivial
theorem J.tw1409498503378964162 : True := trivial
theorem J.tw8743478594885147275 : True := trivial
theorem J.tw6441518523939738094 : True := trivial
theorem J.tw12644878877132024164 : True := trivial
theorem J.tw3362559946997983471 : True := trivial
theorem J.tw1803716922810952247 : True := trivial
theorem J.tw447245030268422938 : True := trivial
theorem J.tw12444561326618780027 : True := trivial
theorem J.tw11730820620980900863 : True := trivial
theorem J.tw9733012275598375108 : True := trivial
theorem J.tw4873625693457906177 : True := trivial
theorem J.tw13806100390075911791 : True := trivial
theorem J.tw7289823941529914776 : True := trivial
theorem J.tw6569032529557566785 : True := trivial
theorem J.tw13406176029887897910 : True := trivial
theorem J.tw10573808277632573917 : True := trivial
theorem J.tw5163184525713870353 : True := trivial
theorem J.tw8290614461471468939 : True := trivial
theorem J.tw11825332465810061458 : True := trivial
theorem J.tw14785460695417814350 : True := trivial
theorem J.tw13701947357578287469 : True := trivial
theorem J.tw4614872727230380633 : True := trivial
theorem J.tw8593218567529926343 : True := trivial
theorem J.tw3567450612531821626 : True := trivial
theorem J.tw4768073787859053348 : True := trivial
theorem J.tw15845488894855319422 : True := trivial
theorem J.tw6952038763368194695 : True := trivial
theorem J.tw3702741778478092162 : True := trivial
theorem J.tw604867694098054105 : True := trivial
theorem J.tw8910605522808329570 : True := trivial
theorem J.tw5001669129161387723 : True := trivial
theorem J.tw5330161191823776013 : True := trivial
theorem J.tw8581248286376469596 : True := trivial
theorem J.tw18072379022364399743 : True := trivial
theorem J.tw10395107439868511682 : True := trivial
theorem J.tw12832379792000548567 : True := trivial
theorem J.tw5438582032921691884 : True := trivial
theorem J.tw7101079536990509148 : True := trivial
theorem J.tw6026282895772896565 : True := trivial
theorem J.tw14258256858157843128 : True := trivial
theorem J.tw12718049857735453314 : True := trivial
theorem J.tw2478160296291458577 : True := trivial
theorem J.tw17638087771800394657 : True := trivial
theorem J.tw8048857044625349569 : True := trivial
theorem J.tw10538748838016330759 : True := trivial
theorem J.tw616159026571565510 : True := trivial
theorem J.tw5884071800603771120 : True := trivial
theorem J.tw3668326888467196839 : True := trivial
theorem J.tw4723504615728245423 : True := trivial
theorem J.tw18238387325398660517 : True := trivial
theorem J.tw800276446808336535 : True := trivial
theorem J.tw11928929441965577823 : True := trivial
theorem J.tw8580897672423456993 : True := trivial
theorem J.tw10846452609125349286 : True := trivial
theorem J.tw15752215343270066836 : True := trivial
theorem J.tw10817894859525902774 : True := trivial
theorem J.tw9921417334263726533 : True := trivial
theorem J.tw13752826900205385374 : True := trivial
theorem J.tw723135584805372516 : True := trivial
theorem J.tw9002641347638541831 : True := trivial
theorem J.tw4719024772671794994 : True := trivial
theorem J.tw10878493121143874342 : True := trivial
theorem J.tw8003288619261572337 : True := trivial
theorem J.tw1714763813030435572 : True := trivial
theorem J.tw6021898739720724002 : True := trivial
theorem J.tw12211744190393626830 : True := trivial
theorem J.tw6889435106382926438 : True := trivial
theorem J.tw13825582590732978637 : True := trivial
theorem J.tw7774895585404465407 : True := trivial
theorem J.tw12202976064480098200 : True := trivial
theorem J.tw15394347490873474598 : True := trivial
theorem J.tw5568187426528064880 : True := trivial
theorem J.tw12855948361691522496 : True := trivial
theorem J.tw18340678514497319245 : True := trivial
theorem J.tw16653485530077649439 : True := trivial
theorem J.tw17327894830145680279 : True := trivial
theorem J.tw852116616569413006 : True := trivial
theorem J.tw16444205173890646778 : True := trivial
theorem J.tw15381969537746099135 : True := trivial
theorem J.tw14185711079243762632 : True := trivial
theorem J.tw4402447700697611727 : True := trivial
theorem J.tw14182418967000987886 : True := trivial
theorem J.tw7447758965855858535 : True := trivial
theorem J.tw10992836384849927048 : True := trivial
theorem J.tw4926971566315663792 : True := trivial
theorem J.tw16725490582610942561 : True := trivial
theorem J.tw799128941054940403 : True := trivial
theorem J.tw11400139503411910538 : True := trivial
theorem J.tw1320919449066949547 : True := trivial
theorem J.tw10525053727963775574 : True := trivial
theorem J.tw1093184832522781853 : True := trivial
theorem J.tw12288968688344420625 : True := trivial
theorem J.tw13251771871612031524 : True := trivial
theorem J.tw10330124750080718486 : True := trivial
theorem J.tw6953926196166891897 : True := trivial
theorem J.tw2749844949998321534 : True := trivial
theorem J.tw12497214630521042024 : True := trivial
theorem J.tw15296773072046900659 : True := trivial
theorem J.tw16607731803008483534 : True := trivial
theorem J.tw9413911922229049725 : True := trivial
theorem J.tw15174053988331817162 : True := trivial
theorem J.tw13339167899510168156 : True := trivial
theorem J.tw16836514990418283809 : True := trivial
theorem J.tw12970215466845416277 : True := trivial
theorem J.tw7892985187090664374 : True := trivial
theorem J.tw3952527005392482505 : True := trivial
theorem J.tw17625755926905315983 : True := trivial
theorem J.tw11811986567606292076 : True := trivial
theorem J.tw12442735036830560350 : True := trivial
theorem J.tw3798971888865356592 : True := trivial
theorem J.tw11420390542939793297 : True := trivial
theorem J.tw9384135311364429167 : True := trivial
theorem J.tw7825770408595417746 : True := trivial
theorem J.tw2717513632936613367 : True := trivial
theorem J.tw13106926865941292376 : True := trivial
theorem J.tw3366489788557362181 : True := trivial
theorem J.tw3360114305698542508 : True := trivial
theorem J.tw12486410044070424972 : True := trivial
theorem J.tw9071384133059944603 : True := trivial
theorem J.tw663213543447112435 : True := trivial
theorem J.tw15065580291260178189 : True := trivial
theorem J.tw8625669144399024813 : True := trivial
theorem J.tw10526634675947852011 : True := trivial
theorem J.tw17756942729954866873 : True := trivial
theorem J.tw3545675687649772103 : True := trivial
theorem J.tw6994641827423261876 : True := trivial
theorem J.tw6021153376473436630 : True := trivial
theorem J.tw3324193495619580733 : True := trivial
theorem J.tw8349647383444904239 : True := trivial
theorem J.tw18246118896853089595 : True := trivial
theorem J.tw16437348976847922475 : True := trivial
theorem J.tw12891226938173370740 : True := trivial
theorem J.tw8211019411553927391 : True := trivial
theorem J.tw17409465400063284854 : True := trivial
theorem J.tw3783489089063924163 : True := trivial
theorem J.tw10946479056378584925 : True := trivial
theorem J.tw16450461917018708670 : True := trivial
theorem J.tw12977649153318209456 : True := trivial
theorem J.tw13375583494275722571 : True := trivial
theorem J.tw16100249069132831962 : True := trivial
theorem J.tw4161605746595476799 : True := trivial
theorem J.tw10254462924411860684 : True := trivial
theorem J.tw2989267475985032087 : True := trivial
theorem J.tw11646844874242680668 : True := trivial
theorem J.tw645877651097366290 : True := trivial
theorem J.tw9116508947876475226 : True := trivial
theorem J.tw16682830308110957476 : True := trivial
theorem J.tw17189014665692602372 : True := trivial
theorem J.tw15813265543245033415 : True := trivial
theorem J.tw16015073805896413287 : True := trivial
theorem J.tw3793727026738485172 : True := trivial
theorem J.tw10225864375380660282 : True := trivial
theorem J.tw15582791835062747967 : True := trivial
theorem J.tw14286278841647623719 : True := trivial
theorem J.tw7323874092494205821 : True := trivial
theorem J.tw4136058435913957666 : True := trivial
theorem J.tw6911681523737168264 : True := trivial
theorem J.tw1143943877580056609 : True := trivial
theorem J.tw17536371429595176363 : True := trivial
theorem J.tw10614775247696374663 : True := trivial
theorem J.tw6566985799575152340 : True := trivial
theorem J.tw4474407980593245993 : True := trivial
theorem J.tw16214753616384347517 : True := trivial
theorem J.tw6143255750918194569 : True := trivial
theorem J.tw13742522252519705995 : True := trivial
theorem J.tw8390952617581432212 : True := trivial
theorem J.tw6434025584017306488 : True := trivial
theorem J.tw10004542930891235607 : True := trivial
theorem J.tw12424028333559811285 : True := trivial
theorem J.tw14450155981939352640 : True := trivial
theorem J.tw4771200247056621450 : True := trivial
theorem J.tw4053013092818736494 : True := trivial
theorem J.tw2883400231660465277 : True := trivial
theorem J.tw3368408521262324056 : True := trivial
theorem J.tw8064607778562608023 : True := trivial
theorem J.tw14686774145894362366 : True := trivial
theorem J.tw14319451507381666323 : True := trivial
theorem J.tw11759186807303342374 : True := trivial
theorem J.tw16790383589464226571 : True := trivial
theorem J.tw11776612256709890227 : True := trivial
theorem J.tw6186330605472234028 : True := trivial
theorem J.tw11058033461882736422 : True := trivial
theorem J.tw2186877433298493492 : True := trivial
theorem J.tw13073622722850777003 : True := trivial
theorem J.tw4465907943477345069 : True := trivial
theorem J.tw15187760264873629679 : True := trivial
theorem J.tw16264938851891150407 : True := trivial
theorem J.tw8617531062118588685 : True := trivial
theorem J.tw13235015482700992032 : True := trivial
theorem J.tw4314274289062325112 : True := trivial
theorem J.tw15175002444379600518 : True := trivial
theorem J.tw16036684323839288790 : True := trivial
theorem J.tw10555247283374381403 : True := trivial
theorem J.tw17747765014535417736 : True := trivial
theorem J.tw17440456627468781109 : True := trivial
theorem J.tw13997788992725107557 : True := trivial
theorem J.tw5529359213949780963 : True := trivial
theorem J.tw14784661431406285032 : True := trivial
theorem J.tw280090802618201193 : True := trivial
theorem J.tw18254731228440220410 : True := trivial
theorem J.tw2700082319095361256 : True := trivial
theorem J.tw15336942102832144309 : True := trivial
theorem J.tw13327176475941862546 : True := trivial
theorem J.tw16050712129028181667 : True := trivial
theorem J.tw3241201888114481023 : True := trivial
theorem J.tw4199594377351637527 : True := trivial
theorem J.tw5928867709219659781 : True := trivial
theorem J.tw3525836856268910633 : True := trivial
theorem J.tw13970012057140687744 : True := trivial
theorem J.tw12269952744067622576 : True := trivial
theorem J.tw7829506918016686047 : True := trivial
theorem J.tw9518293404642541604 : True := trivial
theorem J.tw18320413938463360010 : True := trivial
theorem J.tw1210794745552046020 : True := trivial
theorem J.tw17962523653403596780 : True := trivial
theorem J.tw7762954505587561493 : True := trivial
theorem J.tw4762824300012242837 : True := trivial
theorem J.tw14350825647869147028 : True := trivial
theorem J.tw6502467488633859686 : True := trivial
theorem J.tw10175113445545282961 : True := trivial
theorem J.tw4848858321874083111 : True := trivial
theorem J.tw16191329348750488803 : True := trivial
theorem J.tw1022510724095384934 : True := trivial
theorem J.tw7444268820993159932 : True := trivial
theorem J.tw8023126450321831478 : True := trivial
theorem J.tw3631725473221491617 : True := trivial
theorem J.tw15238277142419112881 : True := trivial
theorem J.tw17653374113694696137 : True := trivial
theorem J.tw1816597771939259667 : True := trivial
theorem J.tw15204099394871108990 : True := trivial
theorem J.tw13378495714774418333 : True := trivial
theorem J.tw5862362106799778438 : True := trivial
theorem J.tw5959333542159440079 : True := trivial
theorem J.tw14416082290264219862 : True := trivial
theorem J.tw16917334698272488768 : True := trivial
theorem J.tw8257004446131071312 : True := trivial
theorem J.tw7271314836354097109 : True := trivial
theorem J.tw11236447679149897132 : True := trivial
theorem J.tw10928625547509477108 : True := trivial
theorem J.tw16885425390312483981 : True := trivial
theorem J.tw2305286731824525959 : True := trivial
theorem J.tw11197704594182494288 : True := trivial
theorem J.tw7261887565171619850 : True := trivial
theorem J.tw18039064158808908786 : True := trivial
theorem J.tw13506694756467980046 : True := trivial
theorem J.tw641751832527723074 : True := trivial
theorem J.tw14097143167201325076 : True := trivial
theorem J.tw3437452206166024600 : True := trivial
theorem J.tw6649843201973604116 : True := trivial
theorem J.tw8173396087761503520 : True := trivial
theorem J.tw9907732308715912346 : True := trivial
theorem J.tw10114587353043614727 : True := trivial
theorem J.tw9874189763972505423 : True := trivial
theorem J.tw3204861720335233250 : True := trivial
theorem J.tw4494896976654462975 : True := trivial
theorem J.tw6234143523907442175 : True := trivial
theorem J.tw12568341331663384296 : True := trivial
theorem J.tw10567274617445864757 : True := trivial
theorem J.tw9279936086086698266 : True := trivial
theorem J.tw12312459905155244142 : True := trivial
theorem J.tw4328906508054735953 : True := trivial
theorem J.tw1926252118479667557 : True := trivial
theorem J.tw5730441558381860997 : True := trivial
theorem J.tw15271360640788013316 : True := trivial
theorem J.tw6654844546926357384 : True := trivial
theorem J.tw9484017789807093456 : True := trivial
theorem J.tw5030910954925865800 : True := trivial
theorem J.tw12550893161923835093 : True := trivial
theorem J.tw175477588354059571 : True := trivial
theorem J.tw16761775617009382491 : True := trivial
theorem J.tw61919783311426909 : True := trivial
theorem J.tw11951010276331518486 : True := trivial
theorem J.tw13084241753816360181 : True := trivial
theorem J.tw16132780899106442246 : True := trivial
theorem J.tw8494164303071147882 : True := trivial
theorem J.tw6507285462082569595 : True := trivial
theorem J.tw8285475908289232462 : True := trivial
theorem J.tw3944923975414928993 : True := trivial
theorem J.tw3346427761777020243 : True := trivial
theorem J.tw12424463582142069483 : True := trivial
theorem J.tw18047802723344432082 : True := trivial
theorem J.tw4557780142983873114 : True := trivial
theorem J.tw2485179092365730461 : True := trivial
theorem J.tw17462484461839294557 : True := trivial
theorem J.tw11268172801040041819 : True := trivial
theorem J.tw15710310945527858964 : True := trivial
theorem J.tw14819620540535734889 : True := trivial
theorem J.tw14026889278759067382 : True := trivial
theorem J.tw6653784871770093566 : True := trivial
theorem J.tw15879833390008074869 : True := trivial
theorem J.tw17113553678157406088 : True := trivial
theorem J.tw460647810507278288 : True := trivial
theorem J.tw4140826320457801154 : True := trivial
theorem J.tw1803108174270966107 : True := trivial
theorem J.tw13905257415711059309 : True := trivial
theorem J.tw3995282194868807225 : True := trivial
theorem J.tw14359739735838055084 : True := trivial
theorem J.tw4754022274034032998 : True := trivial
theorem J.tw3791310461334769877 : True := trivial
theorem J.tw5318894327644809879 : True := trivial
theorem J.tw10979616047481280065 : True := trivial
theorem J.tw14135557252720929143 : True := trivial
theorem J.tw3291740891823483693 : True := trivial
theorem J.tw5178442550484461020 : True := trivial
theorem J.tw4746675691221821488 : True := trivial
theorem J.tw9188656841469833454 : True := trivial
theorem J.tw14545963716897769890 : True := trivial
theorem J.tw11991492277685252296 : True := trivial
theorem J.tw16545510204495689063 : True := trivial
theorem J.tw447303113205971937 : True := trivial
theorem J.tw7465742726266289253 : True := trivial
theorem J.tw16879564633740378331 : True := trivial
theorem J.tw3851254504509392394 : True := trivial
theorem J.tw937845776855211032 : True := trivial
theorem J.tw11083116685516404593 : True := trivial
theorem J.tw5978680465903162695 : True := trivial
theorem J.tw4387133586331539570 : True := trivial
theorem J.tw13614425308451833258 : True := trivial
theorem J.tw7800764778463634216 : True := trivial
theorem J.tw7126967105834633329 : True := trivial
theorem J.tw5413192640102862473 : True := trivial
theorem J.tw15804425879668118367 : True := trivial
theorem J.tw16684832753442389026 : True := trivial
theorem J.tw8845012203149787092 : True := trivial
theorem J.tw2357140870211175404 : True := trivial
theorem J.tw17761964612665911424 : True := trivial
theorem J.tw1027812476551651985 : True := trivial
theorem J.tw7085326947318247925 : True := trivial
theorem J.tw349292370327140987 : True := trivial
theorem J.tw7427532648832359292 : True := trivial
theorem J.tw11075542057407158890 : True := trivial
theorem J.tw11754982796130893153 : True := trivial
theorem J.tw16404987364536099964 : True := trivial
theorem J.tw12357399223658295979 : True := trivial
theorem J.tw11925705643449461756 : True := trivial
theorem J.tw4776951372737578537 : True := trivial
theorem J.tw15949246179846480032 : True := trivial
theorem J.tw8970386834321310310 : True := trivial
theorem J.tw8088111241025271672 : True := trivial
theorem J.tw3181059319913633793 : True := trivial
theorem J.tw633312652828894507 : True := trivial
theorem J.tw5394131688919377579 : True := trivial
theorem J.tw3171256071835846283 : True := trivial
theorem J.tw762299103709976081 : True := trivial
theorem J.tw3371611473408801775 : True := trivial
theorem J.tw10175713659878593387 : True := trivial
theorem J.tw835063451210707384 : True := trivial
theorem J.tw7364768714302139497 : True := trivial
theorem J.tw8659845641170447735 : True := trivial
theorem J.tw388002148882161905 : True := trivial
theorem J.tw2760040223674324382 : True := trivial
theorem J.tw13970376515824850426 : True := trivial
theorem J.tw1822911906187508098 : True := trivial
theorem J.tw5619932838221702879 : True := trivial
theorem J.tw9888444052224933450 : True := trivial
theorem J.tw10447196729784156026 : True := trivial
theorem J.tw13657636188718079100 : True := trivial
theorem J.tw5927304830657520330 : True := trivial
theorem J.tw2196681975631987418 : True := trivial
theorem J.tw15488997243747083866 : True := trivial
theorem J.tw9593680751481073194 : True := trivial
theorem J.tw7419318728493041729 : True := trivial
theorem J.tw5975172124623484383 : True := trivial
theorem J.tw8798918300015939351 : True := trivial
theorem J.tw17534110704948598040 : True := trivial
theorem J.tw6919372995030411487 : True := trivial
theorem J.tw9954941224408956309 : True := trivial
theorem J.tw12671055576415205653 : True := trivial
theorem J.tw17847724634275170632 : True := trivial
theorem J.tw2773194720944452614 : True := trivial
theorem J.tw16038483335527688547 : True := trivial
theorem J.tw12834893946173878955 : True := trivial
theorem J.tw13220068829873168886 : True := trivial
theorem J.tw8514768090106147969 : True := trivial
theorem J.tw5242950014047801269 : True := trivial
theorem J.tw4851910833017751370 : True := trivial
theorem J.tw15739793302915959636 : True := trivial
theorem J.tw1488606010800093082 : True := trivial
theorem J.tw5931007961914278749 : True := trivial
theorem J.tw10406892182362429393 : True := trivial
theorem J.tw11587004378456491119 : True := trivial
theorem J.tw132962397063158331 : True := trivial
theorem J.tw15083290218835034071 : True := trivial
theorem J.tw10324607304122254545 : True := trivial
theorem J.tw7727687164573749783 : True := trivial
theorem J.tw11451229485466098400 : True := trivial
theorem J.tw12924372172832916107 : True := trivial
theorem J.tw7237864163888117744 : True := trivial
theorem J.tw1471600017402341929 : True := trivial
theorem J.tw17090097023410869459 : True := trivial
theorem J.tw12121628227339749716 : True := trivial
theorem J.tw2796592751445036854 : True := trivial
theorem J.tw8457628141627317991 : True := trivial
theorem J.tw3525554374527084115 : True := trivial
theorem J.tw14813248486947863812 : True := trivial
theorem J.tw17515162575123920282 : True := trivial
theorem J.tw14918043550005478255 : True := trivial
theorem J.tw6186871231432227293 : True := trivial
theorem J.tw3188352737446236146 : True := trivial
theorem J.tw7099235894444809379 : True := trivial
theorem J.tw14541879453251066258 : True := trivial
theorem J.tw12315986347524953771 : True := trivial
theorem J.tw15919557133915782131 : True := trivial
theorem J.tw7387015843882358988 : True := trivial
theorem J.tw14407912140961753454 : True := trivial
theorem J.tw15761013400199411020 : True := trivial
theorem J.tw12241922416508938306 : True := trivial
theorem J.tw13536966393666868715 : True := trivial
theorem J.tw9346368636281534946 : True := trivial
theorem J.tw8915127698433431042 : True := trivial
theorem J.tw7915591482402120517 : True := trivial
theorem J.tw8219138576524301193 : True := trivial
theorem J.tw2501106533157027450 : True := trivial
theorem J.tw17441467570333276812 : True := trivial
theorem J.tw4411029277774042674 : True := trivial
theorem J.tw17566659655352846214 : True := trivial
theorem J.tw2041927912214031712 : True := trivial
theorem J.tw1806336430006287688 : True := trivial
theorem J.tw17144916125282618197 : True := trivial
theorem J.tw9291461021247940930 : True := trivial
theorem J.tw13094523884832098182 : True := trivial
theorem J.tw17359328581828920221 : True := trivial
theorem J.tw9080078073889613415 : True := trivial
theorem J.tw7163111751202640368 : True := trivial
theorem J.tw1699008898522433085 : True := trivial
theorem J.tw7327565968944048676 : True := trivial
theorem J.tw11413375681333059060 : True := trivial
theorem J.tw8069300977122755844 : True := trivial
theorem J.tw4973680927217538393 : True := trivial
theorem J.tw175957801136176953 : True := trivial
theorem J.tw4944508318027982145 : True := trivial
theorem J.tw15146815397430037677 : True := trivial
theorem J.tw2056028205759392196 : True := trivial
theorem J.tw2976869486567276618 : True := trivial
theorem J.tw15398444592073844616 : True := trivial
theorem J.tw2799305945921404584 : True := trivial
theorem J.tw4454780115987550360 : True := trivial
theorem J.tw17373658957845775434 : True := trivial
theorem J.tw16256338263866596026 : True := trivial
theorem J.tw6817758886041795184 : True := trivial
theorem J.tw12504648918667546575 : True := trivial
theorem J.tw10565884388824407243 : True := trivial
theorem J.tw8653782827944745953 : True := trivial
theorem J.tw3203317520520952060 : True := trivial
theorem J.tw12060183708076571450 : True := trivial
theorem J.tw5746519472878394825 : True := trivial
theorem J.tw8890845773657214433 : True := trivial
theorem J.tw7900922366049238745 : True := trivial
theorem J.tw9853700084874916313 : True := trivial
theorem J.tw3349420389399909302 : True := trivial
theorem J.tw3031321950018146054 : True := trivial
theorem J.tw12988871078893413675 : True := trivial
theorem J.tw8226317333123553722 : True := trivial
theorem J.tw15069718231884234041 : True := trivial
theorem J.tw2658911719396222698 : True := trivial
theorem J.tw16967628653643512948 : True := trivial
theorem J.tw10852240681596835064 : True := trivial
theorem J.tw15256777325084683497 : True := trivial
theorem J.tw1089546088011902598 : True := trivial
theorem J.tw17580610783595808291 : True := trivial
theorem J.tw17113613827964854860 : True := trivial
theorem J.tw14215856722893554046 : True := trivial
theorem J.tw8263579229235970 : True := trivial
theorem J.tw5791590952734899587 : True := trivial
theorem J.tw1083795114797389949 : True := trivial
theorem J.tw12754387235272450278 : True := trivial
theorem J.tw5353505811894515250 : True := trivial
theorem J.tw4769238563428870337 : True := trivial
theorem J.tw6879637186777114819 : True := trivial
theorem J.tw16808142032059685278 : True := trivial
theorem J.tw1100472086608789613 : True := trivial
theorem J.tw6586273828605347127 : True := trivial
theorem J.tw16591836107006829701 : True := trivial
theorem J.tw14663898027785677608 : True := trivial
theorem J.tw1264568614665146564 : True := trivial
theorem J.tw8707491806340110413 : True := trivial
theorem J.tw270979398059130884 : True := trivial
theorem J.tw3359256083260919018 : True := trivial
theorem J.tw6623788065679348106 : True := trivial
theorem J.tw3947934742182187636 : True := trivial
theorem J.tw15971565023065774603 : True := trivial
theorem J.tw16411072416184326867 : True := trivial
theorem J.tw17115207073932105080 : True := trivial
theorem J.tw4669918512542853982 : True := trivial
theorem J.tw17519565730229186877 : True := trivial
theorem J.tw10690084699462393848 : True := trivial
theorem J.tw17435179731900172949 : True := trivial
theorem J.tw13699865749657782897 : True := trivial
theorem J.tw14159313299562346455 : True := trivial
theorem J.tw15441041094730050897 : True := trivial
theorem J.tw15287681560382982901 : True := trivial
theorem J.tw7082589857499281748 : True := trivial
theorem J.tw7860793415922980056 : True := trivial
theorem J.tw10006977724409793207 : True := trivial
theorem J.tw4333200538186019706 : True := trivial
theorem J.tw1429430906170573800 : True := trivial
theorem J.tw14392517885573012805 : True := trivial
theorem J.tw11891937988321429297 : True := trivial
theorem J.tw533827951495174606 : True := trivial
theorem J.tw3838092351571823349 : True := trivial
theorem J.tw159319276161041034 : True := trivial
theorem J.tw13409218164770035067 : True := trivial
theorem J.tw12851082475622093777 : True := trivial
theorem J.tw17893600282607490546 : True := trivial
theorem J.tw16424282434899666830 : True := trivial
theorem J.tw11119725104090170330 : True := trivial
theorem J.tw16003160908076276509 : True := trivial
theorem J.tw16947376069707916309 : True := trivial
theorem J.tw2058766978139595095 : True := trivial
theorem J.tw18314972407530281611 : True := trivial
theorem J.tw1433394293824308520 : True := trivial
theorem J.tw213844150998541954 : True := trivial
theorem J.tw5397479519724475849 : True := trivial
theorem J.tw2339220594510825879 : True := trivial
theorem J.tw15823628256441425257 : True := trivial
theorem J.tw8740307551989108718 : True := trivial
theorem J.tw6283905687793989949 : True := trivial
theorem J.tw13035480553818083901 : True := trivial
theorem J.tw4689457216592170385 : True := trivial
theorem J.tw18357355866304266496 : True := trivial
theorem J.tw6674895450101773288 : True := trivial
theorem J.tw1019822249803182294 : True := trivial
theorem J.tw2570912236980310456 : True := trivial
theorem J.tw8791858101743565573 : True := trivial
theorem J.tw5011192898677517262 : True := trivial
theorem J.tw4304355824431064928 : True := trivial
theorem J.tw2622541494999098830 : True := trivial
theorem J.tw7612204646928379907 : True := trivial
theorem J.tw5609755549379922891 : True := trivial
theorem J.tw4163639273561493463 : True := trivial
theorem J.tw3811877010249328256 : True := trivial
theorem J.tw15254046210401147773 : True := trivial
theorem J.tw10221340966334761890 : True := trivial
theorem J.tw12752005910046152550 : True := trivial
theorem J.tw11574727283338793900 : True := trivial
theorem J.tw13217148050714141377 : True := trivial
theorem J.tw16592378666683098499 : True := trivial
theorem J.tw5402540023891021581 : True := trivial
theorem J.tw13420925288040863690 : True := trivial
theorem J.tw6654046716295982162 : True := trivial
theorem J.tw3050756593690085986 : True := trivial
theorem J.tw12187169402668708567 : True := trivial
theorem J.tw15993005918161594001 : True := trivial
theorem J.tw14124753630781016182 : True := trivial
theorem J.tw11132201813906194942 : True := trivial
theorem J.tw14680732522128601580 : True := trivial
theorem J.tw7259320026261103545 : True := trivial
theorem J.tw3330309077667917105 : True := trivial
theorem J.tw16492468545199661581 : True := trivial
theorem J.tw6743514073921860922 : True := trivial
theorem J.tw3157743421373002222 : True := trivial
theorem J.tw10393221737383898333 : True := trivial
theorem J.tw12381246617417871421 : True := trivial
theorem J.tw16096919161225368770 : True := trivial
theorem J.tw8527424068442005659 : True := trivial
theorem J.tw590110572918269655 : True := trivial
theorem J.tw2282337525850091957 : True := trivial
theorem J.tw2801004314368225524 : True := trivial
theorem J.tw5971883274957195648 : True := trivial
theorem J.tw15737589296435065183 : True := trivial
theorem J.tw4271539955083255647 : True := trivial
theorem J.tw7553208830893528271 : True := trivial
theorem J.tw1671458451769748138 : True := trivial
theorem J.tw7524558342491624020 : True := trivial
theorem J.tw772418381886608426 : True := trivial
theorem J.tw2050318223616914121 : True := trivial
theorem J.tw13719782325581888279 : True := trivial
theorem J.tw7248727546340009282 : True := trivial
theorem J.tw3984733436662444895 : True := trivial
theorem J.tw10227174922072134721 : True := trivial
theorem J.tw13240125320752502791 : True := trivial
theorem J.tw13616440180054716828 : True := trivial
theorem J.tw14386984655241014185 : True := trivial
theorem J.tw13737503008428298288 : True := trivial
theorem J.tw1870311451272309599 : True := trivial
theorem J.tw2536576451889314125 : True := trivial
theorem J.tw10430071790357230728 : True := trivial
theorem J.tw15370395816755510159 : True := trivial
theorem J.tw7420306049814627996 : True := trivial
theorem J.tw18080024412784911192 : True := trivial
theorem J.tw6696744526505052399 : True := trivial
theorem J.tw17954960685100885247 : True := trivial
theorem J.tw8516266128373574377 : True := trivial
theorem J.tw5934344587155141282 : True := trivial
theorem J.tw5988453143428544954 : True := trivial
theorem J.tw5229851412113739792 : True := trivial
theorem J.tw4338722880911599620 : True := trivial
theorem J.tw16368153187424449895 : True := trivial
theorem J.tw10872773724974261875 : True := trivial
theorem J.tw17979401721583598423 : True := trivial
theorem J.tw17584640547620189621 : True := trivial
theorem J.tw10286033050479313132 : True := trivial
theorem J.tw15443187077684039860 : True := trivial
theorem J.tw4497587519689755887 : True := trivial
theorem J.tw15520627781617413050 : True := trivial
theorem J.tw10891930806240422841 : True := trivial
theorem J.tw4152750316278136972 : True := trivial
theorem J.tw6739721928285044767 : True := trivial
theorem J.tw14635062215313868918 : True := trivial
theorem J.tw17580763905186158481 : True := trivial
theorem J.tw3902690424091560623 : True := trivial
theorem J.tw5627105834762542384 : True := trivial
theorem J.tw1682706495903378333 : True := trivial
theorem J.tw9287472577021759987 : True := trivial
theorem J.tw161070509844038206 : True := trivial
theorem J.tw4926316183711963243 : True := trivial
theorem J.tw7373263160057793566 : True := trivial
theorem J.tw11584571597247469708 : True := trivial
theorem J.tw4351040181199457549 : True := trivial
theorem J.tw16846160350977932995 : True := trivial
theorem J.tw4880325831872862042 : True := trivial
theorem J.tw8049127947155175756 : True := trivial
theorem J.tw3051007842284700285 : True := trivial
theorem J.tw6776439239965717376 : True := trivial
theorem J.tw2199534476944359276 : True := trivial
theorem J.tw9797587798396939286 : True := trivial
theorem J.tw9624619664431872160 : True := trivial
theorem J.tw16285403830401441890 : True := trivial
theorem J.tw7308484903102782899 : True := trivial
theorem J.tw6052242711619082587 : True := trivial
theorem J.tw10726520694372867745 : True := trivial
theorem J.tw11165018923069831046 : True := trivial
theorem J.tw15448611078063232147 : True := trivial
theorem J.tw4231494229963613647 : True := trivial
theorem J.tw16865011012927962843 : True := trivial
theorem J.tw15080406537925487824 : True := trivial
theorem J.tw12421928896616484410 : True := trivial
theorem J.tw5321451609616351028 : True := trivial
theorem J.tw6251910608142852967 : True := trivial
theorem J.tw17159937694124813928 : True := trivial
theorem J.tw9681210466782478262 : True := trivial
theorem J.tw18196260860798076562 : True := trivial
theorem J.tw12094751121684762296 : True := trivial
theorem J.tw827933026437954853 : True := trivial
theorem J.tw12210587713727501452 : True := trivial
theorem J.tw17192819517727835438 : True := trivial
theorem J.tw2870652417593208993 : True := trivial
theorem J.tw9222036957590845359 : True := trivial
theorem J.tw16293668941167565423 : True := trivial
theorem J.tw17752333093702218213 : True := trivial
theorem J.tw12393959616516823472 : True := trivial
theorem J.tw543038814003881223 : True := trivial
theorem J.tw2922766548127602546 : True := trivial
theorem J.tw7632553424992485498 : True := trivial
theorem J.tw6558754946272033988 : True := trivial
theorem J.tw2888235808009814435 : True := trivial
theorem J.tw7937601726395595258 : True := trivial
theorem J.tw16297555541086752066 : True := trivial
theorem J.tw8988659814307467617 : True := trivial
theorem J.tw13832757050886393494 : True := trivial
theorem J.tw4358744071195098996 : True := trivial
theorem J.tw9604244796129230869 : True := trivial
theorem J.tw13925741382036677015 : True := trivial
theorem J.tw7844001040186807891 : True := trivial
theorem J.tw15576069274932669943 : True := trivial
theorem J.tw10615451576937289586 : True := trivial
theorem J.tw8513897830383165065 : True := trivial
theorem J.tw2497882809910027567 : True := trivial
theorem J.tw15569351830648044927 : True := trivial
theorem J.tw14312817291181976605 : True := trivial
theorem J.tw3906347453402807980 : True := trivial
theorem J.tw1700726224235410296 : True := trivial
theorem J.tw11646656001466736419 : True := trivial
theorem J.tw4140644377886442434 : True := trivial
theorem J.tw1362891382698482152 : True := trivial
theorem J.tw17874838064771448239 : True := trivial
theorem J.tw2580338384289033304 : True := trivial
theorem J.tw15295848031876341971 : True := trivial
theorem J.tw9170879247296179823 : True := trivial
theorem J.tw2897866944985217066 : True := trivial
theorem J.tw6562671606122905620 : True := trivial
theorem J.tw13176791169675091919 : True := trivial
theorem J.tw121543193179742352 : True := trivial
theorem J.tw16869466058492198742 : True := trivial
theorem J.tw14005646721431198452 : True := trivial
theorem J.tw7637713116263917209 : True := trivial
theorem J.tw11181634149595758323 : True := trivial
theorem J.tw6501451315617954676 : True := trivial
theorem J.tw7437470592947519416 : True := trivial
theorem J.tw18216035213691219617 : True := trivial
theorem J.tw5462613758718070492 : True := trivial
theorem J.tw14195170534382497610 : True := trivial
theorem J.tw16656631335224838142 : True := trivial
theorem J.tw12964824369833900431 : True := trivial
theorem J.tw2967840481893193432 : True := trivial
theorem J.tw2376177473552428075 : True := trivial
theorem J.tw3516682013422262376 : True := trivial
theorem J.tw11655214075220614471 : True := trivial
theorem J.tw3171602255136672868 : True := trivial
theorem J.tw8306577563684888025 : True := trivial
theorem J.tw13490870675953766843 : True := trivial
theorem J.tw8429103611283957490 : True := trivial
theorem J.tw18068490538719448900 : True := trivial
theorem J.tw7057178614933773842 : True := trivial
theorem J.tw11604576903735912455 : True := trivial
theorem J.tw1904774538973007257 : True := trivial
theorem J.tw13985506390918461371 : True := trivial
theorem J.tw14916346794591943223 : True := trivial
theorem J.tw14614981318568641188 : True := trivial
theorem J.tw6428459729796008033 : True := trivial
theorem J.tw15861134502697818416 : True := trivial
theorem J.tw14847921392854427705 : True := trivial
theorem J.tw12995015854778452786 : True := trivial
theorem J.tw1889931909019925241 : True := trivial
theorem J.tw10093287381167280353 : True := trivial
theorem J.tw16670011123540962238 : True := trivial
theorem J.tw1130254795307083690 : True := trivial
theorem J.tw7657911685934673536 : True := trivial
theorem J.tw8521558576453486653 : True := trivial
set_option Elab.async true in
theorem J : PySem.Challenge.rw_tu0013_01.Holds := by
  w_on
  o_law
  k_head
  (case hw => w_witness2)
  k_go0
  refine enter ?kn rfl (by assumption) ⟨_, _, _, _, topRead_of (by assumption)⟩ (by assumption) (by assumption) (by assumption) rfl ?_ ?_ rfl (by omega) (fun h' tk hk => ⟨.inl ⟨.bool true, .bool true, [], rfl, fun _ => rfl, .bool true, (by wrow_post), fun _ => ⟨.nil, fun a h => nomatch h⟩⟩, hk, rfl, by assumption⟩)
  case kn =>
    refine ⟨by kernel_rfl, by kernel_rfl, by kernel_rfl, by kernel_rfl, by kernel_rfl, by kernel_rfl, by kernel_rfl, ?t, by kernel_rfl, ?f⟩
    case t => exact List.forall_mem_cons.mpr ⟨⟨_, _, by k_is, by k_is, rfl⟩, List.forall_mem_cons.mpr ⟨⟨_, _, by k_is, by k_is, rfl⟩, fun _ h => nomatch h⟩⟩
    case f =>
      refine' AllFn.cons (fnK (n := 3) "is_whole" ?h1 ?h2 rfl rfl ?h3) ?_
      (case h1 => k_is); (case h2 => k_is); (case h3 => exact fun s X => len3 fun _ _ _ => (by first | exact BindsTo.of_eq rfl | exact binds_K X rfl (by k_is) rfl rfl rfl))
      refine' AllFn.cons (fnK (n := 1) "check_whole" ?h1 ?h2 rfl rfl ?h3) ?_
      (case h1 => k_is); (case h2 => k_is); (case h3 => exact fun s X => len1 fun _ => (by first | exact BindsTo.of_eq rfl | exact binds_K X rfl (by k_is) rfl rfl rfl))
      refine' AllFn.cons (fnK (n := 1) "check_number" ?h1 ?h2 rfl rfl ?h3) ?_
      (case h1 => k_is); (case h2 => k_is); (case h3 => exact fun s X => len1 fun _ => (by first | exact BindsTo.of_eq rfl | exact binds_K X rfl (by k_is) rfl rfl rfl))
      refine' AllFn.cons (fnK (n := 1) "check_dimen" ?h1 ?h2 rfl rfl ?h3) ?_
      (case h1 => k_is); (case h2 => k_is); (case h3 => exact fun s X => len1 fun _ => (by first | exact BindsTo.of_eq rfl | exact binds_K X rfl (by k_is) rfl rfl rfl))
      refine' AllFn.cons (fnK (n := 2) "badness" ?h1 ?h2 rfl rfl ?h3) ?_
      (case h1 => k_is); (case h2 => k_is); (case h3 => exact fun s X => len2 fun _ _ => (by first | exact BindsTo.of_eq rfl | exact binds_K X rfl (by k_is) rfl rfl rfl))
      refine' AllFn.cons (fnK (n := 6) "Glue.__init__" ?h1 ?h2 rfl rfl ?h3) ?_
      (case h1 => k_is); (case h2 => k_is); (case h3 => exact fun s X => len6 fun _ _ _ _ _ _ => (by first | exact BindsTo.of_eq rfl | exact binds_K X rfl (by k_is) rfl rfl rfl))
      refine' AllFn.cons (fnK (n := 1) "Glue.__init__" ?h1 ?h2 rfl rfl ?h3) ?_
      (case h1 => k_is); (case h2 => k_is); (case h3 => exact fun s X => len1 fun _ => (by first | exact BindsTo.of_eq rfl | exact binds_K X rfl (by k_is) rfl rfl rfl))
      refine' AllFn.cons (fnK (n := 1) "top_order" ?h1 ?h2 rfl rfl ?h3) ?_
      (case h1 => k_is); (case h2 => k_is); (case h3 => exact fun s X => len1 fun _ => (by first | exact BindsTo.of_eq rfl | exact binds_K X rfl (by k_is) rfl rfl rfl))
      refine' AllFn.cons (fnK (n := 1) "Totals.__init__" ?h1 ?h2 rfl rfl ?h3) ?_
      (case h1 => k_is); (case h2 => k_is); (case h3 => exact fun s X => len1 fun _ => (by first | exact BindsTo.of_eq rfl | exact binds_K X rfl (by k_is) rfl rfl rfl))
      refine' AllFn.cons (fnK (n := 2) "Totals.add" ?h1 ?h2 rfl rfl ?h3) ?_
      (case h1 => k_is); (case h2 => k_is); (case h3 => exact fun s X => len2 fun _ _ => (by first | exact BindsTo.of_eq rfl | exact binds_K X rfl (by k_is) rfl rfl rfl))
      refine' AllFn.cons (fnK (n := 2) "Totals.widen" ?h1 ?h2 rfl rfl ?h3) ?_
      (case h1 => k_is); (case h2 => k_is); (case h3 => exact fun s X => len2 fun _ _ => (by first | exact BindsTo.of_eq rfl | exact binds_K X rfl (by k_is) rfl rfl rfl))
      refine' AllFn.cons (fnK (n := 1) "Totals.stretch_top" ?h1 ?h2 rfl rfl ?h3) ?_
      (case h1 => k_is); (case h2 => k_is); (case h3 => exact fun s X => len1 fun _ => (by first | exact BindsTo.of_eq rfl | exact binds_K X rfl (by k_is) rfl rfl rfl))
      refine' AllFn.cons (fnK (n := 1) "Totals.shrink_top" ?h1 ?h2 rfl rfl ?h3) ?_
      (case h1 => k_is); (case h2 => k_is); (case h3 => exact fun s X => len1 fun _ => (by first | exact BindsTo.of_eq rfl | exact binds_K X rfl (by k_is) rfl rfl rfl))
      refine' AllFn.cons (fnK (n := 6) "Box.__init__" ?h1 ?h2 rfl rfl ?h3) ?_
      (case h1 => k_is); (case h2 => k_is); (case h3 => exact fun s X => len6 fun _ _ _ _ _ _ => (by first | exact BindsTo.of_eq rfl | exact binds_K X rfl (by k_is) rfl rfl rfl))
      refine' AllFn.cons (fnK (n := 4) "Rule.__init__" ?h1 ?h2 rfl rfl ?h3) ?_
      (case h1 => k_is); (case h2 => k_is); (case h3 => exact fun s X => len4 fun _ _ _ _ => (by first | exact BindsTo.of_eq rfl | exact binds_K X rfl (by k_is) rfl rfl rfl))
      refine' AllFn.cons (fnK (n := 3) "Kern.__init__" ?h1 ?h2 rfl rfl ?h3) ?_
      (case h1 => k_is); (case h2 => k_is); (case h3 => exact fun s X => len3 fun _ _ _ => (by first | exact BindsTo.of_eq rfl | exact binds_K X rfl (by k_is) rfl rfl rfl))
      refine' AllFn.cons (fnK (n := 4) "Skip.__init__" ?h1 ?h2 rfl rfl ?h3) ?_
      (case h1 => k_is); (case h2 => k_is); (case h3 => exact fun s X => len4 fun _ _ _ _ => (by first | exact BindsTo.of_eq rfl | exact binds_K X rfl (by k_is) rfl rfl rfl))
      refine' AllFn.cons (fnK (n := 3) "Skip.__init__" ?h1 ?h2 rfl rfl ?h3) ?_
      (case h1 => k_is); (case h2 => k_is); (case h3 => exact fun s X => len3 fun _ _ _ => (by first | exact BindsTo.of_eq rfl | exact binds_K X rfl (by k_is) rfl rfl rfl))
      refine' AllFn.cons (fnK (n := 2) "Penalty.__init__" ?h1 ?h2 rfl rfl ?h3) ?_
      (case h1 => k_is); (case h2 => k_is); (case h3 => exact fun s X => len2 fun _ _ => (by first | exact BindsTo.of_eq rfl | exact binds_K X rfl (by k_is) rfl rfl rfl))
      refine' AllFn.cons (fnK (n := 2) "Mark.__init__" ?h1 ?h2 rfl rfl ?h3) ?_
      (case h1 => k_is); (case h2 => k_is); (case h3 => exact fun s X => len2 fun _ _ => (by first | exact BindsTo.of_eq rfl | exact binds_K X rfl (by k_is) rfl rfl rfl))
      refine' AllFn.cons (fnK (n := 2) "Special.__init__" ?h1 ?h2 rfl rfl ?h3) ?_
      (case h1 => k_is); (case h2 => k_is); (case h3 => exact fun s X => len2 fun _ _ => (by first | exact BindsTo.of_eq rfl | exact binds_K X rfl (by k_is) rfl rfl rfl))
      refine' AllFn.cons (fnK (n := 1) "width_of" ?h1 ?h2 rfl rfl ?h3) ?_
      (case h1 => k_is); (case h2 => k_is); (case h3 => exact fun s X => len1 fun _ => (by first | exact BindsTo.of_eq rfl | exact binds_K X rfl (by k_is) rfl rfl rfl))
      refine' AllFn.cons (fnK (n := 1) "height_of" ?h1 ?h2 rfl rfl ?h3) ?_
      (case h1 => k_is); (case h2 => k_is); (case h3 => exact fun s X => len1 fun _ => (by first | exact BindsTo.of_eq rfl | exact binds_K X rfl (by k_is) rfl rfl rfl))
      refine' AllFn.cons (fnK (n := 1) "depth_of" ?h1 ?h2 rfl rfl ?h3) ?_
      (case h1 => k_is); (case h2 => k_is); (case h3 => exact fun s X => len1 fun _ => (by first | exact BindsTo.of_eq rfl | exact binds_K X rfl (by k_is) rfl rfl rfl))
      refine' AllFn.cons (fnK (n := 1) "is_discardable" ?h1 ?h2 rfl rfl ?h3) ?_
      (case h1 => k_is); (case h2 => k_is); (case h3 => exact fun s X => len1 fun _ => (by first | exact BindsTo.of_eq rfl | exact binds_K X rfl (by k_is) rfl rfl rfl))
      refine' AllFn.cons (fnK (n := 1) "is_breakable_ahead" ?h1 ?h2 rfl rfl ?h3) ?_
      (case h1 => k_is); (case h2 => k_is); (case h3 => exact fun s X => len1 fun _ => (by first | exact BindsTo.of_eq rfl | exact binds_K X rfl (by k_is) rfl rfl rfl))
      refine' AllFn.cons (fnK (n := 1) "across" ?h1 ?h2 rfl rfl ?h3) ?_
      (case h1 => k_is); (case h2 => k_is); (case h3 => exact fun s X => len1 fun _ => (by first | exact BindsTo.of_eq rfl | exact binds_K X rfl (by k_is) rfl rfl rfl))
      refine' AllFn.cons (fnK (n := 1) "check_column" ?h1 ?h2 rfl rfl ?h3) ?_
      (case h1 => k_is); (case h2 => k_is); (case h3 => exact fun s X => len1 fun _ => (by first | exact BindsTo.of_eq rfl | exact binds_K X rfl (by k_is) rfl rfl rfl))
      refine' AllFn.cons (fnK (n := 1) "natural_column" ?h1 ?h2 rfl rfl ?h3) ?_
      (case h1 => k_is); (case h2 => k_is); (case h3 => exact fun s X => len1 fun _ => (by first | exact BindsTo.of_eq rfl | exact binds_K X rfl (by k_is) rfl rfl rfl))
      refine' AllFn.cons (fnK (n := 2) "quotient" ?h1 ?h2 rfl rfl ?h3) ?_
      (case h1 => k_is); (case h2 => k_is); (case h3 => exact fun s X => len2 fun _ _ => (by first | exact BindsTo.of_eq rfl | exact binds_K X rfl (by k_is) rfl rfl rfl))
      refine' AllFn.cons (fnK (n := 2) "set_glue" ?h1 ?h2 rfl rfl ?h3) ?_
      (case h1 => k_is); (case h2 => k_is); (case h3 => exact fun s X => len2 fun _ _ => (by first | exact BindsTo.of_eq rfl | exact binds_K X rfl (by k_is) rfl rfl rfl))
      refine' AllFn.cons (fnK (n := 3) "goal_size" ?h1 ?h2 rfl rfl ?h3) ?_
      (case h1 => k_is); (case h2 => k_is); (case h3 => exact fun s X => len3 fun _ _ _ => (by first | exact BindsTo.of_eq rfl | exact binds_K X rfl (by k_is) rfl rfl rfl))
      refine' AllFn.cons (fnK (n := 3) "set_box" ?h1 ?h2 rfl rfl ?h3) ?_
      (case h1 => k_is); (case h2 => k_is); (case h3 => exact fun s X => len3 fun _ _ _ => (by first | exact BindsTo.of_eq rfl | exact binds_K X rfl (by k_is) rfl rfl rfl))
      refine' AllFn.cons (fnK (n := 4) "vpack" ?h1 ?h2 rfl rfl ?h3) ?_
      (case h1 => k_is); (case h2 => k_is); (case h3 => exact fun s X => len4 fun _ _ _ _ => (by first | exact BindsTo.of_eq rfl | exact binds_K X rfl (by k_is) rfl rfl rfl))
      refine' AllFn.cons (fnK (n := 1) "check_finite" ?h1 ?h2 rfl rfl ?h3) ?_
      (case h1 => k_is); (case h2 => k_is); (case h3 => exact fun s X => len1 fun _ => (by first | exact BindsTo.of_eq rfl | exact binds_K X rfl (by k_is) rfl rfl rfl))
      refine' AllFn.cons (fnK (n := 5) "Page.__init__" ?h1 ?h2 rfl rfl ?h3) ?_
      (case h1 => k_is); (case h2 => k_is); (case h3 => exact fun s X => len5 fun _ _ _ _ _ => (by first | exact BindsTo.of_eq rfl | exact binds_K X rfl (by k_is) rfl rfl rfl))
      refine' AllFn.cons (fnK (n := 3) "PageBuilder.__init__" ?h1 ?h2 rfl rfl ?h3) ?_
      (case h1 => k_is); (case h2 => k_is); (case h3 => exact fun s X => len3 fun _ _ _ => (by first | exact BindsTo.of_eq rfl | exact binds_K X rfl (by k_is) rfl rfl rfl))
      refine' AllFn.cons (fnK (n := 1) "PageBuilder.start" ?h1 ?h2 rfl rfl ?h3) ?_
      (case h1 => k_is); (case h2 => k_is); (case h3 => exact fun s X => len1 fun _ => (by first | exact BindsTo.of_eq rfl | exact binds_K X rfl (by k_is) rfl rfl rfl))
      refine' AllFn.cons (fnK (n := 1) "PageBuilder.clear" ?h1 ?h2 rfl rfl ?h3) ?_
      (case h1 => k_is); (case h2 => k_is); (case h3 => exact fun s X => len1 fun _ => (by first | exact BindsTo.of_eq rfl | exact binds_K X rfl (by k_is) rfl rfl rfl))
      refine' AllFn.cons (fnK (n := 2) "PageBuilder.freeze" ?h1 ?h2 rfl rfl ?h3) ?_
      (case h1 => k_is); (case h2 => k_is); (case h3 => exact fun s X => len2 fun _ _ => (by first | exact BindsTo.of_eq rfl | exact binds_K X rfl (by k_is) rfl rfl rfl))
      refine' AllFn.cons (fnK (n := 2) "PageBuilder.contribute" ?h1 ?h2 rfl rfl ?h3) ?_
      (case h1 => k_is); (case h2 => k_is); (case h3 => exact fun s X => len2 fun _ _ => (by first | exact BindsTo.of_eq rfl | exact binds_K X rfl (by k_is) rfl rfl rfl))
      refine' AllFn.cons (fnK (n := 3) "PageBuilder.build" ?h1 ?h2 rfl rfl ?h3) ?_
      (case h1 => k_is); (case h2 => k_is); (case h3 => exact fun s X => len3 fun _ _ _ => (by first | exact BindsTo.of_eq rfl | exact binds_K X rfl (by k_is) rfl rfl rfl))
      refine' AllFn.cons (fnK (n := 2) "PageBuilder.remember" ?h1 ?h2 rfl rfl ?h3) ?_
      (case h1 => k_is); (case h2 => k_is); (case h3 => exact fun s X => len2 fun _ _ => (by first | exact BindsTo.of_eq rfl | exact binds_K X rfl (by k_is) rfl rfl rfl))
      refine' AllFn.cons (fnK (n := 3) "PageBuilder.begin" ?h1 ?h2 rfl rfl ?h3) ?_
      (case h1 => k_is); (case h2 => k_is); (case h3 => exact fun s X => len3 fun _ _ _ => (by first | exact BindsTo.of_eq rfl | exact binds_K X rfl (by k_is) rfl rfl rfl))
      refine' AllFn.cons (fnK (n := 2) "PageBuilder.penalty_ahead" ?h1 ?h2 rfl rfl ?h3) ?_
      (case h1 => k_is); (case h2 => k_is); (case h3 => exact fun s X => len2 fun _ _ => (by first | exact BindsTo.of_eq rfl | exact binds_K X rfl (by k_is) rfl rfl rfl))
      refine' AllFn.cons (fnK (n := 2) "PageBuilder.cost" ?h1 ?h2 rfl rfl ?h3) ?_
      (case h1 => k_is); (case h2 => k_is); (case h3 => exact fun s X => len2 fun _ _ => (by first | exact BindsTo.of_eq rfl | exact binds_K X rfl (by k_is) rfl rfl rfl))
      refine' AllFn.cons (fnK (n := 2) "PageBuilder.tried" ?h1 ?h2 rfl rfl ?h3) ?_
      (case h1 => k_is); (case h2 => k_is); (case h3 => exact fun s X => len2 fun _ _ => (by first | exact BindsTo.of_eq rfl | exact binds_K X rfl (by k_is) rfl rfl rfl))
      refine' AllFn.cons (fnK (n := 3) "PageBuilder.take" ?h1 ?h2 rfl rfl ?h3) ?_
      (case h1 => k_is); (case h2 => k_is); (case h3 => exact fun s X => len3 fun _ _ _ => (by first | exact BindsTo.of_eq rfl | exact binds_K X rfl (by k_is) rfl rfl rfl))
      refine' AllFn.cons (fnK (n := 1) "_law_heap" ?h1 ?h2 rfl rfl ?h3) ?_
      (case h1 => k_is); (case h2 => k_is); (case h3 => exact fun s X => len1 fun _ => (by first | exact BindsTo.of_eq rfl | exact binds_K X rfl (by k_is) rfl rfl rfl))
      refine' AllFn.cons (fnK (n := 2) "_law_take" ?h1 ?h2 rfl rfl ?h3) ?_
      (case h1 => k_is); (case h2 => k_is); (case h3 => exact fun s X => len2 fun _ _ => (by first | exact BindsTo.of_eq rfl | exact binds_K X rfl (by k_is) rfl rfl rfl))
      refine' AllFn.cons (fnK (n := 2) "_law_skip" ?h1 ?h2 rfl rfl ?h3) ?_
      (case h1 => k_is); (case h2 => k_is); (case h3 => exact fun s X => len2 fun _ _ => (by first | exact BindsTo.of_eq rfl | exact binds_K X rfl (by k_is) rfl rfl rfl))
      refine' AllFn.cons (fnK (n := 2) "_law_standing" ?h1 ?h2 rfl rfl ?h3) ?_
      (case h1 => k_is); (case h2 => k_is); (case h3 => exact fun s X => len2 fun _ _ => (by first | exact BindsTo.of_eq rfl | exact binds_K X rfl (by k_is) rfl rfl rfl))
      refine' AllFn.cons (fnK (n := 2) "_law_gap" ?h1 ?h2 rfl rfl ?h3) ?_
      (case h1 => k_is); (case h2 => k_is); (case h3 => exact fun s X => len2 fun _ _ => (by first | exact BindsTo.of_eq rfl | exact binds_K X rfl (by k_is) rfl rfl rfl))
      refine' AllFn.cons (fnK (n := 2) "_law_price" ?h1 ?h2 rfl rfl ?h3) ?_
      (case h1 => k_is); (case h2 => k_is); (case h3 => exact fun s X => len2 fun _ _ => (by first | exact BindsTo.of_eq rfl | exact binds_K X rfl (by k_is) rfl rfl rfl))
      refine' AllFn.cons (fnK (n := 4) "_law_cost" ?h1 ?h2 rfl rfl ?h3) ?_
      (case h1 => k_is); (case h2 => k_is); (case h3 => exact fun s X => len4 fun _ _ _ _ => (by first | exact BindsTo.of_eq rfl | exact binds_K X rfl (by k_is) rfl rfl rfl))
      refine' AllFn.cons (fnK (n := 3) "_law_end" ?h1 ?h2 rfl rfl ?h3) ?_
      (case h1 => k_is); (case h2 => k_is); (case h3 => exact fun s X => len3 fun _ _ _ => (by first | exact BindsTo.of_eq rfl | exact binds_K X rfl (by k_is) rfl rfl rfl))
      refine' AllFn.cons (fnK (n := 4) "_law_right" ?h1 ?h2 rfl rfl ?h3) ?_
      (case h1 => k_is); (case h2 => k_is); (case h3 => exact fun s X => len4 fun _ _ _ _ => (by first | exact BindsTo.of_eq rfl | exact binds_K X rfl (by k_is) rfl rfl rfl))
      refine' AllFn.cons (fnK (n := 1) "law" ?h1 ?h2 rfl rfl ?h3) ?_
      (case h1 => k_is); (case h2 => k_is); (case h3 => exact fun s X => len1 fun _ => (by first | exact BindsTo.of_eq rfl | exact binds_K X rfl (by k_is) rfl rfl rfl))
      exact AllFn.nil
  · exact Nat.le_of_ble_eq_true rfl
  · exact Nat.le_of_ble_eq_true rfl
end Mine
theorem PySem.Challenge.cw_tu0013_01_holds : PySem.Challenge.rw_tu0013_01.Holds :=
  Mine.J
