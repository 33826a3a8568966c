import PyProof.Rows.All
import Wide.All
import OpenK.AllK
import Wide.FinOn
import PySem.Challenge.RW_nu0334_01
set_option Elab.async false
set_option maxRecDepth 100000
set_option linter.unusedVariables false
set_option linter.unusedSimpArgs false
set_option maxHeartbeats 0
set_option genSizeOf false
set_option genSizeOfSpec false
open PySem PySem.W PyProof.Rows PySem.Calls
namespace Mine
abbrev pr : Program := PySem.Challenge.pw_nu0334_01
abbrev FF : Value → Shared → Prop := fun _ _ => False

/-- a value, its token forgotten -/
inductive AV where
  | none | bool (b : Bool) | int (i : Int) | ref (a : Addr) | raw (v : Value)
noncomputable def AV.ok : AV → Value → Prop
  | .none, V => V = .none
  | .bool b, V => V = .bool b
  | .int i, V => ∃ t, V = .int i t
  | .ref a, V => V = .ref a
  | .raw v, V => V = v
inductive Oks : List AV → List Value → Prop
  | nil : Oks [] []
  | cons {v V vs Vs} : AV.ok v V → Oks vs Vs → Oks (v :: vs) (V :: Vs)

/-- an object, its tokens and its counts forgotten -/
inductive AO where
  | inst (C d : Addr)
  | attrs (fs : List (String × AV))
  | list (xs : List AV)
  | tuple (xs : List AV)
  | idict (kvs : List (Int × AV))
  | words (M : Int → Int)
  | cell (v : Option AV)
  | pred (P : Obj → Prop)
inductive Entries (w : World) : List (String × AV) → List DictEntry → Prop
  | nil : Entries w [] []
  | cons {x v V t fs es} : AV.ok v V → Entries w fs es → Entries w ((x, v) :: fs) (⟨PyData.keyHash w.params (Str.ofString x), .str (Str.ofString x) t, V⟩ :: es)
inductive KVs : List (Int × AV) → List (Int × Value) → Prop
  | nil : KVs [] []
  | cons {k v V vs Vs} : AV.ok v V → KVs vs Vs → KVs ((k, v) :: vs) ((k, V) :: Vs)
noncomputable def AO.ok (w : World) : AO → Obj → Prop
  | .inst C d, o => o = instObj C d
  | .attrs fs, o => ∃ es n, o = dictOf es n ∧ Entries w fs es
  | .list xs, o => ∃ Vs n, o = listOf (List.toArray Vs) n ∧ Oks xs Vs
  | .tuple xs, o => ∃ Vs n, o = { cls := .type "tuple", data := .seq (List.toArray Vs) n } ∧ Oks xs Vs
  | .idict kvs, o => ∃ KV, Obj.IsDictOf (intKind pr w) o KV ∧ KVs kvs KV
  | .words M, o => ∃ KV, Obj.IsDictOf (intKind pr w) o KV ∧ (∀ p ∈ KV, 0 ≤ p.1 ∧ p.1 < 1024 ∧ ∃ t, p.2 = .int (M p.1) t) ∧ (∀ k, k ∉ KV.map (·.1) → M k = 0) ∧ ∀ k, 0 ≤ M k ∧ M k < 4294967296
  | .cell v, o => o.data = .cell Option.none ∧ v = Option.none ∨ ∃ a V, v = some a ∧ o.data = .cell (some V) ∧ a.ok V
  | .pred P, o => P o

abbrev AH := Addr → Option AO
noncomputable def AH.set (H : AH) (a : Addr) (o : AO) : AH := fun b => if b = a then some o else H b
abbrev Loc := List (String × AV)
noncomputable def assoc {α : Type} (x : String) : List (String × α) → Option α
  | [] => none
  | (y, v) :: r => if y = x then some v else assoc x r
theorem mem_of_assoc {α : Type} {x : String} {v : α} : ∀ {l : List (String × α)}, assoc x l = some v → (x, v) ∈ l
  | (y, u) :: r, h => by
    have h : (if y = x then some u else assoc x r) = some v := h
    split at h
    · rename_i e; cases h; rw [e]; exact .head _
    · exact .tail _ (mem_of_assoc h)
noncomputable def Loc.sub (a b : Loc) : Prop := a.map (fun p => assoc p.1 b) = a.map fun p => some p.2
theorem Loc.sub.mem {a b : Loc} (h : Loc.sub a b) : ∀ p ∈ a, p ∈ b := fun p hp => by
  obtain ⟨i, hi⟩ := List.getElem?_of_mem hp
  have := congrArg (·[i]?) h
  simp only [List.getElem?_map, hi, Option.map_some] at this
  exact mem_of_assoc (Option.some.inj this)
noncomputable def Loc.del (x : String) : Loc → Loc
  | [] => []
  | p :: r => if p.1 = x then Loc.del x r else p :: Loc.del x r

set_option genInjectivity false in
structure Cx where
  A₀ : Around
  A : Around
  base : Heap
  outer : List Env
  fenv : Env
  env : Env
  h₀ : Heap
  s₀ : Shared
  mg : Str → Option Value
  mb : Str → Option Value
  comp : Option (Addr × (Str → Option Value))
  ro : List (Addr × Obj)
abbrev Cx.L (c : Cx) : Addr := c.fenv.locals

structure GB (mg mb : Str → Option Value) (h : Heap) : Prop where
  g : h.Ns mainGlobals mg
  b : h.Ns builtinsNs mb
  nolimit : h.NoLimit
  builtins : ∀ x : Str, x ≠ "__name__" → mb x = bootBuiltins x
  mods : ∃ o, h.get? sysModules = some o
  bm : ∃ bm ob, mg "__builtins__" = some (.ref bm) ∧ bm ≠ builtinsNs ∧ h.get? bm = some ob ∧ ob.cls = .type "module" ∧ ob.dict = some builtinsNs ∧ ob.data = .plain
theorem GB.keeps {mg mb : Str → Option Value} {h h' : Heap} (x : GB mg mb h) (k : ∀ b o, h.get? b = some o → h'.get? b = some o) : GB mg mb h' := ⟨x.g.keeps k, x.b.keeps k, x.nolimit.keeps k, x.builtins, x.mods.elim fun o e => ⟨o, k _ o e⟩, let ⟨bm, ob, a, b, d, r⟩ := x.bm; ⟨bm, ob, a, b, k _ _ d, r⟩⟩

@[reducible] def Cx.withRo (c : Cx) (ro : List (Addr × Obj)) : Cx := { c with ro := ro }
structure Cx.Ok (K : Frag) (c : Cx) (lvl : Nat) : Prop where
  hh : c.A.handled = none
  frames : c.A.frames = some (c.fenv :: c.outer)
  ff : c.fenv.frame = some c.fenv.locals
  fk : c.fenv.scope.kind = .function
  below : Below c.A₀ c.base c.outer c.h₀
  kin : K.In c.h₀
  gb : GB c.mg c.mb c.h₀
  room : c.A.depth + 2 * lvl ≤ 400
  units : c.A.units + 20 * lvl ≤ 4000
  ek : c.env.scope.kind = .function
  eg : c.env.globals = mainGlobals
  eb : c.env.builtins = builtinsNs
  el : match c.comp with | none => c.env = c.fenv | some (D, _) => c.env.locals = D

noncomputable def LocOk (l : Loc) (m : Str → Option Value) : Prop := ∀ p ∈ l, ∃ V, m (Str.ofString p.1) = some V ∧ p.2.ok V
noncomputable def HOk (w : World) (H : AH) (news : List (Addr × Obj)) : Prop := ∀ a o, H a = some o → ∃ x, (a, x) ∈ news ∧ o.ok w x
noncomputable def CompOk (c : Cx) (l : Loc) (H : AH) (m : Str → Option Value) (news : List (Addr × Obj)) : Prop := match c.comp with
  | none => LocOk l m
  | some (D, mF) => m = mF ∧ H D = none ∧ ∃ od es ep, (D, od) ∈ news ∧ od.data = .dict es ep ∧ StrKeys es ∧ LocOk l (nsFind es)
structure StBy (w : World) (c : Cx) (l : Loc) (H : AH) (s : Shared) (m : Str → Option Value) (news : List (Addr × Obj)) : Prop where
  same : s = { c.s₀ with heap := s.heap, toks := s.toks }
  fr : Fr c.h₀ c.L s.heap m
  nw : News c.h₀ c.L s.heap news
  hk : HOk w H news
  lc : CompOk c l H m news
  ro : ∀ p ∈ c.ro, p ∈ news ∧ H p.1 = none
noncomputable def St (w : World) (c : Cx) (l : Loc) (H : AH) (s : Shared) : Prop := ∃ m news, StBy w c l H s m news

noncomputable def Ev (w : World) (c : Cx) (e : PySem.Expr) (l : Loc) (H : AH) (Q : AV → AH → Prop) : Prop :=
  ∀ s, St w c l H s → wpAny (model pr w) c.A (eval e c.env) (fun V s' => ∃ v H', v.ok V ∧ St w c l H' s' ∧ Q v H') FF s
/-- a test's truth -/
noncomputable def Tr (w : World) (c : Cx) (e : PySem.Expr) (l : Loc) (H : AH) (Q : Bool → AH → Prop) : Prop :=
  ∀ s, St w c l H s → wpAny (model pr w) c.A (PySem.isTrue e c.env (eval e c.env)) (fun b s' => ∃ H', St w c l H' s' ∧ Q b H') FF s
/-- what a flow hands on -/
noncomputable def Fl (w : World) (c : Cx) (N : Loc → AH → Prop) (R : AV → AH → Prop) (f : Flow) (s' : Shared) : Prop := match f with
  | .next => ∃ l' H', St w c l' H' s' ∧ N l' H'
  | .ret V => ∃ v l' H', v.ok V ∧ St w c l' H' s' ∧ R v H'
  | _ => False
noncomputable def Ex (w : World) (c : Cx) (st : Stmt) (l : Loc) (H : AH) (N : Loc → AH → Prop) (R : AV → AH → Prop) : Prop :=
  ∀ s, St w c l H s → wpAny (model pr w) c.A (exec st c.env) (Fl w c N R) FF s
noncomputable def Exs (w : World) (c : Cx) (sts : List Stmt) (l : Loc) (H : AH) (N : Loc → AH → Prop) (R : AV → AH → Prop) : Prop :=
  ∀ s, St w c l H s → wpAny (model pr w) c.A (execs sts c.env) (Fl w c N R) FF s
/-- a call of a value upon values, from any frame -/
noncomputable def Call (w : World) (K : Frag) (lvl : Nat) (f : Value) (args : List AV) (H : AH) (Q : AV → AH → Prop) : Prop :=
  ∀ (c : Cx) (l : Loc) (s : Shared) (Vs : List Value), c.Ok K lvl → St w c l H s → Oks args Vs →
    wpAny (model pr w) c.A (call f Vs []) (fun V s' => ∃ v H', v.ok V ∧ St w c l H' s' ∧ Q v H') FF s

section
variable {w : World} {K : Frag} {c : Cx} {l l' : Loc} {H H' : AH} {s s' : Shared} {lvl : Nat}

theorem AH.set_self (a : Addr) (o : AO) : H.set a o a = some o := by simp [AH.set]
theorem AH.set_ne {a b : Addr} (h : b ≠ a) (o : AO) : H.set a o b = H b := by simp [AH.set, h]

theorem CompOk.mono {m : Str → Option Value} {news news' : List (Addr × Obj)} (x : CompOk c l H m news) (hH : ∀ D mF, c.comp = some (D, mF) → H' D = none) (hn : ∀ D mF od, c.comp = some (D, mF) → (D, od) ∈ news → (D, od) ∈ news') : CompOk c l H' m news' := by
  unfold CompOk at x ⊢
  cases hc : c.comp with
  | none => rw [hc] at x; exact x
  | some q =>
    obtain ⟨D, mF⟩ := q
    rw [hc] at x
    obtain ⟨e, _, od, es, ep, hm, r⟩ := x
    exact ⟨e, hH D mF hc, od, es, ep, hn D mF od hc hm, r⟩

/-- the heap may grow by what nobody names; tokens go on -/
theorem St.grow {h' : Heap} {tk : Nat} (x : St w c l H s) (hF : ∀ m, Fr c.h₀ c.L s.heap m → Fr c.h₀ c.L h' m) (hN : ∀ n, News c.h₀ c.L s.heap n → News c.h₀ c.L h' n) : St w c l H { s with heap := h', toks := tk } := by
  obtain ⟨m, news, e, F, N, hk, lc, ro⟩ := x
  exact ⟨m, news, by rw [e], hF m F, hN news N, hk, lc, ro⟩
theorem St.toks (x : St w c l H s) (tk : Nat) : St w c l H { s with toks := tk } := x.grow (h' := s.heap) (fun _ F => F) fun _ N => N
theorem St.weaken (x : St w c l H s) (hl : ∀ p ∈ l', p ∈ l) (hH : ∀ a o, H' a = some o → H a = some o) : St w c l' H' s := by
  obtain ⟨m, news, e, F, N, hk, lc, ro⟩ := x
  refine ⟨m, news, e, F, N, fun a o h => hk a o (hH a o h), ?_, fun p hp => ⟨(ro p hp).1, by
    cases q' : H' p.1 with
    | none => rfl
    | some o => exact absurd (hH _ _ q') (by rw [(ro p hp).2]; simp)⟩⟩
  unfold CompOk at lc ⊢
  cases hc : c.comp with
  | none => rw [hc] at lc; exact fun p hp => lc p (hl p hp)
  | some q =>
    rw [hc] at lc
    obtain ⟨a, b, od, es, ep, g, d, k, r⟩ := lc
    refine ⟨a, ?_, od, es, ep, g, d, k, fun p hp => r p (hl p hp)⟩
    cases q' : H' q.1 with
    | none => rfl
    | some o => exact absurd (hH _ _ q') (by rw [b]; simp)
/-- a fresh object comes to the ledger -/
theorem St.alloc (x : St w c l H s) {o : Obj} {ao : AO} (ho : ao.ok w o) (hf : o.isFreed = false) (tk : Nat) : H s.heap.objs.size = none ∧ St w c l (H.set s.heap.objs.size ao) { s with heap := s.heap.push o, toks := tk } := by
  obtain ⟨m, news, e, F, N, hk, lc, ro⟩ := x
  have hn : ∀ p ∈ news, p.1 ≠ s.heap.objs.size := fun p hp => Nat.ne_of_lt (Heap.lt_size (N p hp).1)
  refine ⟨?_, m, (s.heap.objs.size, o) :: news, by rw [e], F.push o, N.push F o hf, ?_, ?_, fun p hp => ⟨List.Mem.tail _ (ro p hp).1, by rw [AH.set_ne (hn _ (ro p hp).1)]; exact (ro p hp).2⟩⟩
  · cases q : H s.heap.objs.size with
    | none => rfl
    | some o' => obtain ⟨x, hx, _⟩ := hk _ _ q; exact absurd rfl (hn _ hx)
  · intro a o' h
    unfold AH.set at h
    split at h
    · rename_i q; cases h; exact ⟨o, by rw [q]; exact List.Mem.head _, ho⟩
    · obtain ⟨x, hx, r⟩ := hk a o' h; exact ⟨x, List.Mem.tail _ hx, r⟩
  · refine lc.mono (fun D mF hc => ?_) fun _ _ _ _ h => List.Mem.tail _ h
    have lc' := lc
    unfold CompOk at lc'
    rw [hc] at lc'
    obtain ⟨_, b, od, _, _, g, _⟩ := lc'
    rw [AH.set_ne (hn _ g), b]
/-- an object of the ledger is turned -/
theorem St.update {a : Addr} {o : Obj} {ao ao' : AO} {h' : Heap} (x : St w c l H s) (ha : H a = some ao) (hs : Heap.SameBut a s.heap h') (hg : h'.get? a = some o) (ho : ao'.ok w o) (tk : Nat) : St w c l (H.set a ao') { s with heap := h', toks := tk } := by
  obtain ⟨m, news, e, F, N, hk, lc, ro⟩ := x
  obtain ⟨xo, hx, _⟩ := hk a ao ha
  have hr : ∀ p ∈ c.ro, p.1 ≠ a := fun p hp q => by have := (ro p hp).2; rw [q, ha] at this; cases this
  have hb := N _ hx
  have N' : News c.h₀ c.L h' ((a, o) :: news.filter (fun p => p.1 ≠ a)) := by
    intro p hp
    rcases List.mem_cons.mp hp with rfl | hp
    · exact ⟨hg, hb.2⟩
    · obtain ⟨hp, hne⟩ := List.mem_filter.mp hp
      have hne : p.1 ≠ a := by simpa using hne
      exact ⟨(hs.2 _ hne).trans (N p hp).1, (N p hp).2⟩
  refine ⟨m, _, by rw [e], F.change hs hb.2.1 hb.2.2, N', ?_, ?_, fun p hp => ⟨List.Mem.tail _ (List.mem_filter.mpr ⟨(ro p hp).1, by simpa using hr p hp⟩), by rw [AH.set_ne (hr p hp)]; exact (ro p hp).2⟩⟩
  · intro b o' h
    unfold AH.set at h
    split at h
    · rename_i q; cases h; exact ⟨o, by rw [q]; exact List.Mem.head _, ho⟩
    · rename_i q
      obtain ⟨y, hy, r⟩ := hk b o' h
      exact ⟨y, List.Mem.tail _ (List.mem_filter.mpr ⟨hy, by simpa using q⟩), r⟩
  · have key : ∀ D mF, c.comp = some (D, mF) → H D = none ∧ D ≠ a := fun D mF hc => by
      have lc' := lc
      unfold CompOk at lc'
      rw [hc] at lc'
      exact ⟨lc'.2.1, fun q => by rw [← q, lc'.2.1] at ha; cases ha⟩
    refine lc.mono (fun D mF hc => ?_) fun D mF od hc h => ?_
    · obtain ⟨b, ne⟩ := key D mF hc
      rw [AH.set_ne ne, b]
    · obtain ⟨_, ne⟩ := key D mF hc
      exact List.Mem.tail _ (List.mem_filter.mpr ⟨h, by simpa using ne⟩)
theorem St.get {a : Addr} {ao : AO} (x : St w c l H s) (ha : H a = some ao) : ∃ o, s.heap.get? a = some o ∧ ao.ok w o := by
  obtain ⟨m, news, e, F, N, hk, lc, ro⟩ := x
  obtain ⟨o, hm, r⟩ := hk a ao ha
  exact ⟨o, (N _ hm).1, r⟩
end

/-- the i-th statement of the text; the j-th of a class's body -/
noncomputable def stAt (i : Nat) : Stmt := (pr.main.body[i]?).getD default
noncomputable def meAt (i j : Nat) : Stmt := match stAt i with
  | .ClassDef _ _ _ body _ _ _ _ _ _ _ => (body[j]?).getD default
  | _ => default
noncomputable def fnO (qual : Str) (st : Stmt) (mod : Value) (code : Addr) : Obj := match st with
  | .FunctionDef name args body _ _ _ scope _ _ _ => { cls := .type "function", data := .func (fnX name qual args body scope [] .none .none .none mod none (.ref code) .none) }
  | _ => default
noncomputable def en (P : Params) (x : Str) (t : Tok) (v : Value) : DictEntry := ⟨PyData.keyHash P x, .str x t, v⟩
noncomputable def KK (P : Params) : Frag := [
  (3, { cls := .type "dict", data := .dict (List.toArray [en P "__name__" 165 (.str "law_nu0334_01" 605),
      en P "__doc__" 166 (.none),
      en P "__package__" 167 (.none),
      en P "__loader__" 168 (.builtin "__main__.__loader__#opaque"),
      en P "__spec__" 169 (.none),
      en P "__annotations__" 170 (.ref 6),
      en P "__builtins__" 171 (.ref 4),
      en P "__file__" 173 (.str "/claim/cut.py" 172),
      en P "__cached__" 174 (.none),
      en P "_wall" 193 (.ref 21),
      en P "GRAIN" 197 (.int (16) 196),
      en P "HEADER" 199 (.int (8) 198),
      en P "LISTS" 201 (.int (4) 200),
      en P "block_size" 208 (.ref 28),
      en P "list_number" 215 (.ref 35),
      en P "Heap" 328 (.ref 108),
      en P "OFFSETS_marker" 332 (.int (20) 331),
      en P "END_marker" 334 (.int (4294967295) 333),
      en P "MARK_marker" 337 (.int (-4) 336),
      en P "TAG" 340 (.int (-8) 339),
      en P "first_offset" 348 (.ref 119),
      en P "is_fresh" 356 (.ref 126),
      en P "mark_from" 372 (.ref 133),
      en P "mark" 383 (.ref 140),
      en P "OFFSETS_records" 387 (.int (20) 386),
      en P "END_records" 389 (.int (4294967295) 388),
      en P "pointer_places" 401 (.ref 147),
      en P "is_record" 409 (.ref 154),
      en P "MARK_compact" 414 (.int (-4) 413),
      en P "kept_blocks" 425 (.ref 161),
      en P "set_targets" 436 (.ref 168),
      en P "moved_word" 445 (.ref 175),
      en P "alter_pointers" 458 (.ref 182),
      en P "slide" 471 (.ref 189),
      en P "compact" 477 (.ref 194),
      en P "YardError" 499 (.ref 204),
      en P "TrapError" 528 (.ref 224),
      en P "WORD" 532 (.int (4294967296) 531),
      en P "Memory" 604 (.ref 278),
      en P "_law_row" 617 (.ref 289),
      en P "_law_next" 624 (.ref 296),
      en P "_law_kinds" 630 (.ref 301),
      en P "_law_wide" 637 (.ref 308),
      en P "_law_closure" 650 (.ref 315),
      en P "_law_filled" 665 (.ref 322),
      en P "law" 671 (.ref 327)]) 46 }),
  (27, { cls := .type "code", data := .fields (List.toArray [.str "block_size" 202, .str "block_size" 203, .str "/claim/cut.py" 204, .int (8) 0, .int (1) 0, .int (0) 0, .int (0) 0, .int (3) 0, .ref 22, .bool true, .int (181) 0, .ref 23, .none, .ref 24, .ref 25, .ref 26, .int (206) 0, .int (8) 0, .str "/claim/cut.py" 207]) }),
  (28, fnO "block_size" (stAt 5) (.str "moduleyard.heap" 194) 27),
  (34, { cls := .type "code", data := .fields (List.toArray [.str "list_number" 209, .str "list_number" 210, .str "/claim/cut.py" 211, .int (10) 0, .int (1) 0, .int (0) 0, .int (0) 0, .int (3) 0, .ref 29, .bool true, .int (181) 0, .ref 30, .none, .ref 31, .ref 32, .ref 33, .int (213) 0, .int (10) 0, .str "/claim/cut.py" 214]) }),
  (35, fnO "list_number" (stAt 6) (.str "moduleyard.heap" 194) 34),
  (48, { cls := .type "code", data := .fields (List.toArray [.str "__init__" 228, .str "Heap.__init__" 229, .str "/claim/cut.py" 230, .int (20) 0, .int (4) 0, .int (0) 0, .int (0) 0, .int (3) 0, .ref 43, .bool true, .int (181) 0, .ref 44, .none, .ref 45, .ref 46, .ref 47, .int (235) 0, .int (20) 0, .str "/claim/cut.py" 236]) }),
  (49, fnO "Heap.__init__" (meAt 7 0) (.str "moduleyard.heap" 194) 48),
  (55, { cls := .type "code", data := .fields (List.toArray [.str "put_free" 238, .str "Heap.put_free" 239, .str "/claim/cut.py" 240, .int (28) 0, .int (3) 0, .int (0) 0, .int (0) 0, .int (3) 0, .ref 50, .bool true, .int (181) 0, .ref 51, .none, .ref 52, .ref 53, .ref 54, .int (245) 0, .int (28) 0, .str "/claim/cut.py" 246]) }),
  (56, fnO "Heap.put_free" (meAt 7 1) (.str "moduleyard.heap" 194) 55),
  (62, { cls := .type "code", data := .fields (List.toArray [.str "is_free" 248, .str "Heap.is_free" 249, .str "/claim/cut.py" 250, .int (34) 0, .int (2) 0, .int (0) 0, .int (0) 0, .int (3) 0, .ref 57, .bool true, .int (181) 0, .ref 58, .none, .ref 59, .ref 60, .ref 61, .int (253) 0, .int (34) 0, .str "/claim/cut.py" 254]) }),
  (63, fnO "Heap.is_free" (meAt 7 2) (.str "moduleyard.heap" 194) 62),
  (69, { cls := .type "code", data := .fields (List.toArray [.str "descriptor" 256, .str "Heap.descriptor" 257, .str "/claim/cut.py" 258, .int (37) 0, .int (2) 0, .int (0) 0, .int (0) 0, .int (3) 0, .ref 64, .bool true, .int (181) 0, .ref 65, .none, .ref 66, .ref 67, .ref 68, .int (261) 0, .int (37) 0, .str "/claim/cut.py" 262]) }),
  (70, fnO "Heap.descriptor" (meAt 7 3) (.str "moduleyard.heap" 194) 69),
  (76, { cls := .type "code", data := .fields (List.toArray [.str "size_of" 264, .str "Heap.size_of" 265, .str "/claim/cut.py" 266, .int (40) 0, .int (2) 0, .int (0) 0, .int (0) 0, .int (3) 0, .ref 71, .bool true, .int (181) 0, .ref 72, .none, .ref 73, .ref 74, .ref 75, .int (270) 0, .int (40) 0, .str "/claim/cut.py" 271]) }),
  (77, fnO "Heap.size_of" (meAt 7 4) (.str "moduleyard.heap" 194) 76),
  (83, { cls := .type "code", data := .fields (List.toArray [.str "take_free" 273, .str "Heap.take_free" 274, .str "/claim/cut.py" 275, .int (46) 0, .int (2) 0, .int (0) 0, .int (0) 0, .int (3) 0, .ref 78, .bool true, .int (181) 0, .ref 79, .none, .ref 80, .ref 81, .ref 82, .int (282) 0, .int (46) 0, .str "/claim/cut.py" 283]) }),
  (84, fnO "Heap.take_free" (meAt 7 5) (.str "moduleyard.heap" 194) 83),
  (90, { cls := .type "code", data := .fields (List.toArray [.str "alloc" 285, .str "Heap.alloc" 286, .str "/claim/cut.py" 287, .int (62) 0, .int (2) 0, .int (0) 0, .int (0) 0, .int (3) 0, .ref 85, .bool true, .int (181) 0, .ref 86, .none, .ref 87, .ref 88, .ref 89, .int (294) 0, .int (62) 0, .str "/claim/cut.py" 295]) }),
  (91, fnO "Heap.alloc" (meAt 7 6) (.str "moduleyard.heap" 194) 90),
  (97, { cls := .type "code", data := .fields (List.toArray [.str "blocks" 297, .str "Heap.blocks" 298, .str "/claim/cut.py" 299, .int (75) 0, .int (1) 0, .int (0) 0, .int (0) 0, .int (3) 0, .ref 92, .bool true, .int (181) 0, .ref 93, .none, .ref 94, .ref 95, .ref 96, .int (304) 0, .int (75) 0, .str "/claim/cut.py" 305]) }),
  (98, fnO "Heap.blocks" (meAt 7 7) (.str "moduleyard.heap" 194) 97),
  (104, { cls := .type "code", data := .fields (List.toArray [.str "block_of" 307, .str "Heap.block_of" 308, .str "/claim/cut.py" 309, .int (87) 0, .int (2) 0, .int (0) 0, .int (0) 0, .int (3) 0, .ref 99, .bool true, .int (181) 0, .ref 100, .none, .ref 101, .ref 102, .ref 103, .int (314) 0, .int (87) 0, .str "/claim/cut.py" 315]) }),
  (105, fnO "Heap.block_of" (meAt 7 8) (.str "moduleyard.heap" 194) 104),
  (107, { cls := .type "dict", data := .dict (List.toArray [en P "__module__" 223 (.str "moduleyard.heap" 194),
      en P "__firstlineno__" 227 (.int (18) 226),
      en P "__init__" 237 (.ref 49),
      en P "put_free" 247 (.ref 56),
      en P "is_free" 255 (.ref 63),
      en P "descriptor" 263 (.ref 70),
      en P "size_of" 272 (.ref 77),
      en P "take_free" 284 (.ref 84),
      en P "alloc" 296 (.ref 91),
      en P "blocks" 306 (.ref 98),
      en P "block_of" 316 (.ref 105),
      en P "__static_attributes__" 321 (.ref 106),
      en P "__dict__" 323 (.ref 109),
      en P "__weakref__" 325 (.ref 110),
      en P "__doc__" 326 (.none)]) 4 }),
  (108, { cls := .type "type", data := .cls { name := "Heap", bases := [.type "object"], mro := [.ref 108, .type "object"], ns := 107, qualname := "Heap", hasDict := true }, slots := List.toArray [none, none, some (.str "Heap" 216), some (.str "Heap" 224), some (.builtin "object.__new__"), some (.bool true)] }),
  (118, { cls := .type "code", data := .fields (List.toArray [.str "first_offset" 341, .str "first_offset" 342, .str "/claim/cut.py" 343, .int (104) 0, .int (2) 0, .int (0) 0, .int (0) 0, .int (3) 0, .ref 113, .bool true, .int (181) 0, .ref 114, .none, .ref 115, .ref 116, .ref 117, .int (346) 0, .int (104) 0, .str "/claim/cut.py" 347]) }),
  (119, fnO "first_offset" (stAt 13) (.str "moduleyard.marker" 329) 118),
  (125, { cls := .type "code", data := .fields (List.toArray [.str "is_fresh" 349, .str "is_fresh" 350, .str "/claim/cut.py" 351, .int (106) 0, .int (2) 0, .int (0) 0, .int (0) 0, .int (3) 0, .ref 120, .bool true, .int (181) 0, .ref 121, .none, .ref 122, .ref 123, .ref 124, .int (354) 0, .int (106) 0, .str "/claim/cut.py" 355]) }),
  (126, fnO "is_fresh" (stAt 14) (.str "moduleyard.marker" 329) 125),
  (132, { cls := .type "code", data := .fields (List.toArray [.str "mark_from" 357, .str "mark_from" 358, .str "/claim/cut.py" 359, .int (110) 0, .int (2) 0, .int (0) 0, .int (0) 0, .int (3) 0, .ref 127, .bool true, .int (181) 0, .ref 128, .none, .ref 129, .ref 130, .ref 131, .int (370) 0, .int (110) 0, .str "/claim/cut.py" 371]) }),
  (133, fnO "mark_from" (stAt 15) (.str "moduleyard.marker" 329) 132),
  (139, { cls := .type "code", data := .fields (List.toArray [.str "mark" 373, .str "mark" 374, .str "/claim/cut.py" 375, .int (141) 0, .int (2) 0, .int (0) 0, .int (0) 0, .int (3) 0, .ref 134, .bool true, .int (181) 0, .ref 135, .none, .ref 136, .ref 137, .ref 138, .int (381) 0, .int (141) 0, .str "/claim/cut.py" 382]) }),
  (140, fnO "mark" (stAt 16) (.str "moduleyard.marker" 329) 139),
  (146, { cls := .type "code", data := .fields (List.toArray [.str "pointer_places" 390, .str "pointer_places" 391, .str "/claim/cut.py" 392, .int (151) 0, .int (2) 0, .int (0) 0, .int (0) 0, .int (3) 0, .ref 141, .bool true, .int (181) 0, .ref 142, .none, .ref 143, .ref 144, .ref 145, .int (399) 0, .int (151) 0, .str "/claim/cut.py" 400]) }),
  (147, fnO "pointer_places" (stAt 20) (.str "moduleyard.records" 384) 146),
  (153, { cls := .type "code", data := .fields (List.toArray [.str "is_record" 402, .str "is_record" 403, .str "/claim/cut.py" 404, .int (161) 0, .int (2) 0, .int (0) 0, .int (0) 0, .int (3) 0, .ref 148, .bool true, .int (181) 0, .ref 149, .none, .ref 150, .ref 151, .ref 152, .int (407) 0, .int (161) 0, .str "/claim/cut.py" 408]) }),
  (154, fnO "is_record" (stAt 21) (.str "moduleyard.records" 384) 153),
  (160, { cls := .type "code", data := .fields (List.toArray [.str "kept_blocks" 415, .str "kept_blocks" 416, .str "/claim/cut.py" 417, .int (165) 0, .int (1) 0, .int (0) 0, .int (0) 0, .int (3) 0, .ref 155, .bool true, .int (181) 0, .ref 156, .none, .ref 157, .ref 158, .ref 159, .int (423) 0, .int (165) 0, .str "/claim/cut.py" 424]) }),
  (161, fnO "kept_blocks" (stAt 24) (.str "moduleyard.compact" 410) 160),
  (167, { cls := .type "code", data := .fields (List.toArray [.str "set_targets" 426, .str "set_targets" 427, .str "/claim/cut.py" 428, .int (171) 0, .int (2) 0, .int (0) 0, .int (0) 0, .int (3) 0, .ref 162, .bool true, .int (181) 0, .ref 163, .none, .ref 164, .ref 165, .ref 166, .int (434) 0, .int (171) 0, .str "/claim/cut.py" 435]) }),
  (168, fnO "set_targets" (stAt 25) (.str "moduleyard.compact" 410) 167),
  (174, { cls := .type "code", data := .fields (List.toArray [.str "moved_word" 437, .str "moved_word" 438, .str "/claim/cut.py" 439, .int (177) 0, .int (2) 0, .int (0) 0, .int (0) 0, .int (3) 0, .ref 169, .bool true, .int (181) 0, .ref 170, .none, .ref 171, .ref 172, .ref 173, .int (443) 0, .int (177) 0, .str "/claim/cut.py" 444]) }),
  (175, fnO "moved_word" (stAt 26) (.str "moduleyard.compact" 410) 174),
  (181, { cls := .type "code", data := .fields (List.toArray [.str "alter_pointers" 446, .str "alter_pointers" 447, .str "/claim/cut.py" 448, .int (182) 0, .int (2) 0, .int (0) 0, .int (0) 0, .int (3) 0, .ref 176, .bool true, .int (181) 0, .ref 177, .none, .ref 178, .ref 179, .ref 180, .int (456) 0, .int (182) 0, .str "/claim/cut.py" 457]) }),
  (182, fnO "alter_pointers" (stAt 27) (.str "moduleyard.compact" 410) 181),
  (188, { cls := .type "code", data := .fields (List.toArray [.str "slide" 459, .str "slide" 460, .str "/claim/cut.py" 461, .int (189) 0, .int (2) 0, .int (0) 0, .int (0) 0, .int (3) 0, .ref 183, .bool true, .int (181) 0, .ref 184, .none, .ref 185, .ref 186, .ref 187, .int (469) 0, .int (189) 0, .str "/claim/cut.py" 470]) }),
  (189, fnO "slide" (stAt 28) (.str "moduleyard.compact" 410) 188),
  (193, { cls := .type "code", data := .fields (List.toArray [.str "compact" 472, .str "compact" 473, .str "/claim/cut.py" 474, .int (196) 0, .int (2) 0, .int (0) 0, .int (0) 0, .int (3) 0, .ref 190, .bool true, .int (181) 0, .ref 191, .none, .none, .none, .ref 192, .int (475) 0, .int (196) 0, .str "/claim/cut.py" 476]) }),
  (194, fnO "compact" (stAt 29) (.str "moduleyard.compact" 410) 193),
  (239, { cls := .type "code", data := .fields (List.toArray [.str "__init__" 545, .str "Memory.__init__" 546, .str "/claim/cut.py" 547, .int (220) 0, .int (2) 0, .int (0) 0, .int (0) 0, .int (3) 0, .ref 234, .bool true, .int (181) 0, .ref 235, .none, .ref 236, .ref 237, .ref 238, .int (550) 0, .int (220) 0, .str "/claim/cut.py" 551]) }),
  (240, fnO "Memory.__init__" (meAt 35 0) (.str "moduleyard.memory" 529) 239),
  (246, { cls := .type "code", data := .fields (List.toArray [.str "place" 553, .str "Memory.place" 554, .str "/claim/cut.py" 555, .int (224) 0, .int (2) 0, .int (0) 0, .int (0) 0, .int (3) 0, .ref 241, .bool true, .int (181) 0, .ref 242, .none, .ref 243, .ref 244, .ref 245, .int (558) 0, .int (224) 0, .str "/claim/cut.py" 559]) }),
  (247, fnO "Memory.place" (meAt 35 1) (.str "moduleyard.memory" 529) 246),
  (253, { cls := .type "code", data := .fields (List.toArray [.str "word" 561, .str "Memory.word" 562, .str "/claim/cut.py" 563, .int (229) 0, .int (2) 0, .int (0) 0, .int (0) 0, .int (3) 0, .ref 248, .bool true, .int (181) 0, .ref 249, .none, .ref 250, .ref 251, .ref 252, .int (566) 0, .int (229) 0, .str "/claim/cut.py" 567]) }),
  (254, fnO "Memory.word" (meAt 35 2) (.str "moduleyard.memory" 529) 253),
  (260, { cls := .type "code", data := .fields (List.toArray [.str "put_word" 569, .str "Memory.put_word" 570, .str "/claim/cut.py" 571, .int (232) 0, .int (3) 0, .int (0) 0, .int (0) 0, .int (3) 0, .ref 255, .bool true, .int (181) 0, .ref 256, .none, .ref 257, .ref 258, .ref 259, .int (575) 0, .int (232) 0, .str "/claim/cut.py" 576]) }),
  (261, fnO "Memory.put_word" (meAt 35 3) (.str "moduleyard.memory" 529) 260),
  (277, { cls := .type "dict", data := .dict (List.toArray [en P "__module__" 540 (.str "moduleyard.memory" 529),
      en P "__firstlineno__" 544 (.int (218) 543),
      en P "__init__" 552 (.ref 240),
      en P "place" 560 (.ref 247),
      en P "word" 568 (.ref 254),
      en P "put_word" 577 (.ref 261),
      en P "byte" 585 (.ref 268),
      en P "put_byte" 594 (.ref 275),
      en P "__static_attributes__" 597 (.ref 276),
      en P "__dict__" 599 (.ref 279),
      en P "__weakref__" 601 (.ref 280),
      en P "__doc__" 602 (.none)]) 4 }),
  (278, { cls := .type "type", data := .cls { name := "Memory", bases := [.type "object"], mro := [.ref 278, .type "object"], ns := 277, qualname := "Memory", hasDict := true }, slots := List.toArray [none, none, some (.str "Memory" 533), some (.str "Memory" 541), some (.builtin "object.__new__"), some (.bool true)] }),
  (288, { cls := .type "code", data := .fields (List.toArray [.str "_law_row" 607, .str "_law_row" 608, .str "/claim/cut.py" 609, .int (241) 0, .int (1) 0, .int (0) 0, .int (0) 0, .int (3) 0, .ref 283, .bool true, .int (181) 0, .ref 284, .none, .ref 285, .ref 286, .ref 287, .int (615) 0, .int (241) 0, .str "/claim/cut.py" 616]) }),
  (289, fnO "_law_row" (stAt 37) (.str "law_nu0334_01" 605) 288),
  (295, { cls := .type "code", data := .fields (List.toArray [.str "_law_next" 618, .str "_law_next" 619, .str "/claim/cut.py" 620, .int (254) 0, .int (1) 0, .int (0) 0, .int (0) 0, .int (3) 0, .ref 290, .bool true, .int (181) 0, .ref 291, .none, .ref 292, .ref 293, .ref 294, .int (622) 0, .int (254) 0, .str "/claim/cut.py" 623]) }),
  (296, fnO "_law_next" (stAt 38) (.str "law_nu0334_01" 605) 295),
  (300, { cls := .type "code", data := .fields (List.toArray [.str "_law_kinds" 625, .str "_law_kinds" 626, .str "/claim/cut.py" 627, .int (256) 0, .int (2) 0, .int (0) 0, .int (0) 0, .int (3) 0, .ref 297, .bool true, .int (181) 0, .ref 298, .none, .none, .none, .ref 299, .int (628) 0, .int (256) 0, .str "/claim/cut.py" 629]) }),
  (301, fnO "_law_kinds" (stAt 39) (.str "law_nu0334_01" 605) 300),
  (307, { cls := .type "code", data := .fields (List.toArray [.str "_law_wide" 631, .str "_law_wide" 632, .str "/claim/cut.py" 633, .int (268) 0, .int (1) 0, .int (0) 0, .int (0) 0, .int (3) 0, .ref 302, .bool true, .int (181) 0, .ref 303, .none, .ref 304, .ref 305, .ref 306, .int (635) 0, .int (268) 0, .str "/claim/cut.py" 636]) }),
  (308, fnO "_law_wide" (stAt 40) (.str "law_nu0334_01" 605) 307),
  (314, { cls := .type "code", data := .fields (List.toArray [.str "_law_closure" 638, .str "_law_closure" 639, .str "/claim/cut.py" 640, .int (270) 0, .int (2) 0, .int (0) 0, .int (0) 0, .int (3) 0, .ref 309, .bool true, .int (181) 0, .ref 310, .none, .ref 311, .ref 312, .ref 313, .int (648) 0, .int (270) 0, .str "/claim/cut.py" 649]) }),
  (315, fnO "_law_closure" (stAt 41) (.str "law_nu0334_01" 605) 314),
  (321, { cls := .type "code", data := .fields (List.toArray [.str "_law_filled" 651, .str "_law_filled" 652, .str "/claim/cut.py" 653, .int (283) 0, .int (3) 0, .int (0) 0, .int (0) 0, .int (3) 0, .ref 316, .bool true, .int (181) 0, .ref 317, .none, .ref 318, .ref 319, .ref 320, .int (663) 0, .int (283) 0, .str "/claim/cut.py" 664]) }),
  (322, fnO "_law_filled" (stAt 42) (.str "law_nu0334_01" 605) 321),
  (326, { cls := .type "code", data := .fields (List.toArray [.str "law" 666, .str "law" 667, .str "/claim/cut.py" 668, .int (298) 0, .int (1) 0, .int (0) 0, .int (0) 0, .int (3) 0, .ref 323, .bool true, .int (181) 0, .ref 324, .none, .none, .none, .ref 325, .int (669) 0, .int (298) 0, .str "/claim/cut.py" 670]) }),
  (327, fnO "law" (stAt 43) (.str "law_nu0334_01" 605) 326)]

/-! the head: the text's top run in stages; between two stages only the objects that are read later are named -/
/-- the shape of a tree, its objects by number -/
noncomputable def mkT : BT → (Nat → Obj) → BT
  | .nil, _ => .nil
  | .node _ l r, g => .node (g 0) (mkT l fun i => g (2 * i + 1)) (mkT r fun i => g (2 * i + 2))
noncomputable def blank : BT → BT
  | .nil => .nil
  | .node _ l r => .node default (blank l) (blank r)
noncomputable def sk : Nat → Nat → Nat → Nat → BT
  | 0, _, _, _ => .nil
  | k + 1, n, a, b => bif Nat.blt b n then .node default (sk k n (2 * a) (a + b)) (sk k n (2 * a) (2 * a + b)) else .nil
theorem mkT_blank (t : BT) : ∀ g, mkT (blank t) g = mkT t g := by
  induction t with
  | nil => intro g; rfl
  | node v l r hl hr => intro g; show BT.node _ _ _ = BT.node _ _ _; rw [hl, hr]
theorem get_l (v : Obj) (l r : BT) (i : Nat) : (BT.node v l r).get (2 * i + 1) = l.get i := by
  rw [BT.get_node, if_neg (Nat.succ_ne_zero _), if_pos (Nat.mul_add_mod 2 i 1), Nat.mul_add_div (by decide)]; rfl
theorem get_r (v : Obj) (l r : BT) (i : Nat) : (BT.node v l r).get (2 * i + 2) = r.get i := by
  rw [BT.get_node, if_neg (Nat.succ_ne_zero _), if_neg (by rw [Nat.mul_add_mod]; decide), Nat.mul_add_div (by decide)]; rfl
theorem mkT_self (t : BT) : ∀ g, (∀ i o, t.get i = some o → g i = o) → mkT t g = t := by
  induction t with
  | nil => intro g _; rfl
  | node v l r hl hr =>
    intro g h
    show BT.node _ _ _ = _
    rw [h 0 v rfl, hl _ fun i o e => h _ o ((get_l ..).trans e), hr _ fun i o e => h _ o ((get_r ..).trans e)]
noncomputable def sT (K : Frag) (n toks : Nat) (os : OsState) (J : Nat → Obj) : SharedT := ⟨mkT (sk 10 n 1 0) fun a => (K.lookup a).getD (J a), n, {}, #[], {}, toks, os⟩
noncomputable def obs (K : Frag) (x : Flow × SharedT × Code × Pos) := ((x.1, { x.2.1 with tree := blank x.2.1.tree }, x.2.2), K.map fun p => x.2.1.tree.get p.1)
theorem stage {r : Option (Flow × SharedT × Code × Pos)} {K : Frag} {n toks : Nat} {os : OsState} {c : Code} {q : Pos}
    (h : r.map (obs K) = some ((.next, ⟨sk 10 n 1 0, n, {}, #[], {}, toks, os⟩, c, q), K.map fun p => some p.2)) : ∃ J, r = some (.next, sT K n toks os J, c, q) := by
  obtain ⟨x, rfl, e⟩ := Option.map_eq_some_iff.mp h
  have e1 := congrArg Prod.fst e
  refine ⟨fun a => (x.2.1.tree.get a).getD default, (congrArg (fun y : Flow × SharedT × Code × Pos => some (y.1, { y.2.1 with tree := x.2.1.tree }, y.2.2)) e1).trans (congrArg (fun t => some (Flow.next, (⟨t, n, {}, #[], {}, toks, os⟩ : SharedT), c, q)) ?_)⟩
  rw [show sk 10 n 1 0 = blank x.2.1.tree from (congrArg (fun y : Flow × SharedT × Code × Pos => y.2.1.tree) e1).symm]
  refine ((mkT_blank _ _).trans (mkT_self _ _ fun i o y => ?_)).symm
  cases k : K.lookup i with
  | none => show (x.2.1.tree.get i).getD default = o; rw [y]; rfl
  | some o' => exact Option.some.inj ((List.map_inj_left.mp (congrArg Prod.snd e) _ (mem_of_lookupK k)).symm.trans y)
theorem topFrom_of {p : Program} {w : World} {N : Nat} {s₀ s : Shared} (h : (s₀.heap.isNs mainGlobals && s₀.gens.size == 0) = true)
    (r : topRun treeTable p w s₀.heap.objs.size (s₀.heap.nsMap mainGlobals "__annotations__") N s₀ (topStub p) = some s)
    (l : (staticsOk (importedModules p.main.body) s₀.heap s.heap && namesBound p s.heap && gensDone s && laidKept s₀.heap s.heap) = true) : topFrom treeTable p w N s₀ = some s := by
  unfold topFrom
  rw [h, r]
  dsimp only [Option.bind]
  rw [l]
theorem LeftO.of_run {p q : Program} {loose : List Str} {Xt : Shared → Bool} {α : Type} {Yf : Shared → α} {Ya : World → α} {N : Nat} {g0 : Bool} {n₀ : Nat} {ann : Option Value} {M : Nat}
    (e : opening p = plainProg p.main.scope.names) (hN : Nat.ble 600 N = true) (f : ∀ s, fenceModules? p s = some s)
    (size : ∀ w : World, ((boot_heap w.params).isNs mainGlobals && (Array.mk ([] : List GenState)).size == 0, (boot_heap w.params).objs.size, (boot_heap w.params).nsMap mainGlobals "__annotations__") = (true, n₀, ann)) (le : N - M + M = N)
    (run : ∀ (w : World) (os : OsState), ∃ s, topRun treeTable p w n₀ ann M ⟨boot_heap w.params, .mk [], boot_drawn, boot_toks, os⟩ (topStub p) = some s ∧
      ((staticsOk (importedModules p.main.body) (boot_heap w.params) s.heap && namesBound p s.heap && gensDone s && laidKept (boot_heap w.params) s.heap),
        openSeen q loose (importedModules p.main.body) Xt g0 s, Yf s) = (true, openGood q loose, Ya w)) : LeftO p q loose Xt Yf Ya N g0 := fun w => by
  obtain ⟨s, e1, e2⟩ := Option.map_eq_some_iff.mp (boot_open e hN f w)
  have e3 : s = ⟨boot_heap w.params, .mk [], boot_drawn, boot_toks, s.os⟩ := congrArg (fun y : Heap × Array GenState × Drawn × Nat => (⟨y.1, y.2.1, y.2.2.1, y.2.2.2, s.os⟩ : Shared)) e2
  obtain ⟨s₁, r, l⟩ := run w s.os
  have z := size w
  rw [← show (boot_heap w.params).objs.size = n₀ from congrArg (fun y : Bool × Nat × Option Value => y.2.1) z, ← show (boot_heap w.params).nsMap mainGlobals "__annotations__" = ann from congrArg (fun y : Bool × Nat × Option Value => y.2.2) z] at r
  have r := topRun_mono (N - M) _ _ _ _ r
  rw [Nat.add_comm, le] at r
  unfold openEnds
  rw [e1, e3, Option.bind_some, topFrom_of (congrArg Prod.fst z) r (congrArg Prod.fst l)]
  exact congrArg some (congrArg Prod.snd l)
/-- the text's statements from the i-th on -/
noncomputable def tops (i : Nat) : List Stmt := (behindTheImports pr).drop i
noncomputable def envH : Env := { scope := pr.main.scope, locals := mainNs, globals := mainNs, cells := [], code := .ref 13, frame := some 14 }
noncomputable def codeH : Code := .body (behindTheImports pr) envH
theorem tops_step {w : World} {i k n N : Nat} {s s' : SharedT} {r : Shared} {c : Code} {pos p' q : Pos} (h : segRunT treeTable pr w 11 (some (.ref 6)) 1 n s (piecesOf ((tops i).take k) envH c pos [topFrame q]) = some (.next, s', c, p'))
    (x : topRun treeTable pr w 11 (some (.ref 6)) N s'.abs (restOf (tops (i + k)) envH c p' [topFrame q]) = some r) : topRun treeTable pr w 11 (some (.ref 6)) (n + N) s.abs (restOf (tops i) envH c pos [topFrame q]) = some r := by
  have e : tops i = (tops i).take k ++ tops (i + k) := by unfold tops; rw [← List.drop_drop]; exact (List.take_append_drop ..).symm
  rw [e]
  exact piece_app (segRun_of h) x
noncomputable def o3 (P : Params) (m : Nat) (nm : Value) : Obj := match (KK P).lookup 3 with
  | some ⟨_, _, .dict a _, _⟩ => { cls := .type "dict", data := .dict (List.toArray (en P "__name__" 165 nm :: (a.toList.take m).drop 1)) m }
  | _ => default
noncomputable def o2 (P : Params) : Obj := { cls := .none, data := .dict (List.toArray [en P "type.__subclasses__.Exception.0" 496 (.int 204 0), en P "type.__subclasses__.Exception.n" 497 (.int 1 0)]) 2 }
noncomputable def o12 (m : Nat) : Obj := { cls := .none, data := .fields (List.toArray ((List.take m [((1 : Int), 20), (8, 27), (10, 34), (18, 41), (104, 118), (106, 125), (110, 132), (141, 139), (151, 146), (161, 153), (165, 160), (171, 167), (177, 174), (182, 181), (189, 188), (196, 193), (208, 200), (210, 213), (218, 232), (241, 288), (254, 295), (256, 300), (268, 307), (270, 314), (283, 321), (298, 326)]).flatMap fun p => [.int p.1 0, .int 0 0, .ref p.2])) }
noncomputable def o13 : Obj := { cls := .type "code", data := .fields (List.toArray [.str "<module>" 182, .str "<module>" 183, .str "/claim/cut.py" 184, .int 1 0, .int 0 0, .int 0 0, .int 0 0, .int 0 0, .ref 11, .bool false, .int 181 0, .ref 12, .none, .none, .none, .none, .int 185 0, .int 1 0, .str "/claim/cut.py" 186]) }
noncomputable def o14 : Obj := { cls := .type "frame", slots := List.toArray [some (.ref 13), some (.ref 3), some (.ref 3), none, some (.str "__main__" 164), none, some (.ref 0)] }
noncomputable def boots (P : Params) : Frag := [(0, boot_o_0 P), (1, boot_o_1 P), (4, boot_o_4 P), (5, boot_o_5 P), (6, boot_o_6 P), (7, boot_o_7 P), (8, boot_o_8 P), (9, boot_o_9 P), (10, boot_o_10 P)]
/-- what the looks read beside KK: the empty tables, the function _wall, the two errors -/
noncomputable def more (P : Params) : Frag := [
  (20, { cls := .type "code", data := .fields (List.toArray [.str "_wall" 187, .str "_wall" 188, .str "/claim/cut.py" 189, .int 1 0, .int 1 0, .int 0 0, .int 0 0, .int 3 0, .ref 15, .bool true, .int 181 0, .ref 16, .none, .ref 17, .ref 18, .ref 19, .int 191 0, .int 1 0, .str "/claim/cut.py" 192]) }),
  (21, fnO "_wall" (stAt 0) (.str "__main__" 164) 20),
  (203, { cls := .type "dict", data := .dict (List.toArray [en P "__module__" 487 (.str "moduleyard.errors" 478), en P "__firstlineno__" 491 (.int 208 490), en P "__static_attributes__" 492 (.ref 202), en P "__weakref__" 494 (.ref 205), en P "__doc__" 495 .none]) 3 }),
  (204, { cls := .type "type", data := .cls { name := "YardError", bases := [.type "Exception"], mro := [.ref 204, .type "Exception", .type "BaseException", .type "object"], ns := 203, qualname := "YardError", subclasses := [.ref 224] }, slots := List.toArray [some (.ref 195), none, some (.str "YardError" 480), some (.str "YardError" 488), some (.builtin "Exception.__new__"), some (.bool true)] }),
  (220, { cls := .type "code", data := .fields (List.toArray [.str "__init__" 512, .str "TrapError.__init__" 513, .str "/claim/cut.py" 514, .int 212 0, .int 4 0, .int 0 0, .int 0 0, .int 3 0, .ref 215, .bool true, .int 181 0, .ref 216, .none, .ref 217, .ref 218, .ref 219, .int 519 0, .int 212 0, .str "/claim/cut.py" 520]) }),
  (221, fnO "TrapError.__init__" (meAt 32 0) (.str "moduleyard.errors" 478) 220),
  (223, { cls := .type "dict", data := .dict (List.toArray [en P "__module__" 507 (.str "moduleyard.errors" 478), en P "__firstlineno__" 511 (.int 210 510), en P "__init__" 521 (.ref 221), en P "__static_attributes__" 525 (.ref 222), en P "__doc__" 526 .none]) 2 }),
  (224, { cls := .type "type", data := .cls { name := "TrapError", bases := [.ref 204], mro := [.ref 224, .ref 204, .type "Exception", .type "BaseException", .type "object"], ns := 223, qualname := "TrapError" }, slots := List.toArray [some (.ref 208), none, some (.str "TrapError" 500), some (.str "TrapError" 508), some (.builtin "Exception.__new__"), some (.bool true)] }),
  (267, { cls := .type "code", data := .fields (List.toArray [.str "byte" 578, .str "Memory.byte" 579, .str "/claim/cut.py" 580, .int 235 0, .int 2 0, .int 0 0, .int 0 0, .int 3 0, .ref 262, .bool true, .int 181 0, .ref 263, .none, .ref 264, .ref 265, .ref 266, .int 583 0, .int 235 0, .str "/claim/cut.py" 584]) }),
  (268, fnO "Memory.byte" (meAt 35 4) (.str "moduleyard.memory" 529) 267),
  (274, { cls := .type "code", data := .fields (List.toArray [.str "put_byte" 586, .str "Memory.put_byte" 587, .str "/claim/cut.py" 588, .int 238 0, .int 3 0, .int 0 0, .int 0 0, .int 3 0, .ref 269, .bool true, .int 181 0, .ref 270, .none, .ref 271, .ref 272, .ref 273, .int 592 0, .int 238 0, .str "/claim/cut.py" 593]) }),
  (275, fnO "Memory.put_byte" (meAt 35 5) (.str "moduleyard.memory" 529) 274)] ++
  [16, 23, 30, 44, 51, 58, 65, 72, 79, 86, 93, 100, 114, 121, 128, 135, 142, 149, 156, 163, 170, 177, 184, 191, 216, 235, 242, 249, 256, 263, 270, 284, 291, 298, 303, 310, 317, 324].map fun a => (a, tabObj #[])
noncomputable def known (P : Params) (n m : Nat) (nm : Value) (x2 x12 : Obj) : Frag := (2, x2) :: (3, o3 P m nm) :: (12, x12) :: (13, o13) :: (boots P ++ (more P ++ KK P).filter fun p => Nat.blt 3 p.1 && Nat.blt p.1 n)
noncomputable def K0 (P : Params) : Frag := (11, { cls := .type "tuple", data := .seq #[] }) :: (14, o14) :: known P 15 9 (.str "__main__" 164) (boot_o_2 P) (o12 0)
noncomputable def K1 (P : Params) : Frag := known P 113 16 (.str "moduleyard.heap" 194) (boot_o_2 P) (o12 4)
noncomputable def K2 (P : Params) : Frag := known P 195 35 (.str "moduleyard.errors" 478) (boot_o_2 P) (o12 16)
noncomputable def K4 (P : Params) : Frag := known P 283 39 (.str "law_nu0334_01" 605) (o2 P) (o12 19)
noncomputable def K5 (P : Params) : Frag := known P 328 46 (.str "law_nu0334_01" 605) (o2 P) (o12 26)
theorem pre_run (w : World) (os : OsState) : topGo treeTable pr w 11 (some (.ref 6)) 12 ⟨boot_heap w.params, #[], boot_drawn, boot_toks, os⟩ (topStub pr) = some ((sT (K0 w.params) 15 187 os fun _ => default).abs, ⟨denote treeTable codeH, codeH, ⟨0, 0, 0, 0⟩, [topFrame ⟨0, 0, 0, 0⟩]⟩) := by kernel_rfl
theorem run1 (w : World) (os : OsState) (J : Nat → Obj) : (segRunT treeTable pr w 11 (some (.ref 6)) 1 622 (sT (K0 w.params) 15 187 os J) (piecesOf ((tops 0).take 8) envH codeH ⟨0, 0, 0, 0⟩ [topFrame ⟨0, 0, 0, 0⟩])).map (obs (K1 w.params)) = some ((.next, ⟨sk 10 113 1 0, 113, {}, #[], {}, 329, os⟩, codeH, ⟨18, 0, 98, 16⟩), (K1 w.params).map fun p => some p.2) := by kernel_rfl
theorem run2 (w : World) (os : OsState) (J : Nat → Obj) : (segRunT treeTable pr w 11 (some (.ref 6)) 1 503 (sT (K1 w.params) 113 329 os J) (piecesOf ((tops 8).take 23) envH codeH ⟨18, 0, 98, 16⟩ [topFrame ⟨0, 0, 0, 0⟩])).map (obs (K2 w.params)) = some ((.next, ⟨sk 10 195 1 0, 195, {}, #[], {}, 480, os⟩, codeH, ⟨207, 0, 207, 8⟩), (K2 w.params).map fun p => some p.2) := by kernel_rfl
theorem run3 (w : World) (os : OsState) (J : Nat → Obj) : (segRunT treeTable pr w 11 (some (.ref 6)) 1 858 (sT (K2 w.params) 195 480 os J) (piecesOf ((tops 31).take 6) envH codeH ⟨207, 0, 207, 8⟩ [topFrame ⟨0, 0, 0, 0⟩])).map (obs (K4 w.params)) = some ((.next, ⟨sk 10 283 1 0, 283, {}, #[], {}, 607, os⟩, codeH, ⟨240, 0, 240, 8⟩), (K4 w.params).map fun p => some p.2) := by kernel_rfl
theorem run4 (w : World) (os : OsState) (J : Nat → Obj) : (segRunT treeTable pr w 11 (some (.ref 6)) 1 216 (sT (K4 w.params) 283 607 os J) (piecesOf ((tops 37).take 7) envH codeH ⟨240, 0, 240, 8⟩ [topFrame ⟨0, 0, 0, 0⟩])).map (obs (K5 w.params)) = some ((.next, ⟨sk 10 328 1 0, 328, {}, #[], {}, 672, os⟩, codeH, ⟨298, 0, 357, 65⟩), (K5 w.params).map fun p => some p.2) := by kernel_rfl
noncomputable def qv : Program := { pr with main := { pr.main with body := [0, 2, 3, 4, 5, 6, 7, 9, 10, 11, 12, 13, 14, 15, 16, 18, 19, 20, 21, 23, 24, 25, 26, 27, 28, 29, 31, 32, 34, 35, 37, 38, 39, 40, 41, 42, 43].filterMap fun i => pr.main.body[i]? } }
noncomputable def kAs : List Addr := [3, 27, 28, 34, 35, 48, 49, 55, 56, 62, 63, 69, 70, 76, 77, 83, 84, 90, 91, 97, 98, 104, 105, 107, 108, 118, 119, 125, 126, 132, 133, 139, 140, 146, 147, 153, 154, 160, 161, 167, 168, 174, 175, 181, 182, 188, 189, 193, 194, 239, 240, 246, 247, 253, 254, 260, 261, 277, 278, 288, 289, 295, 296, 300, 301, 307, 308, 314, 315, 321, 322, 326, 327]
theorem kAs_eq (P : Params) : kAs = (KK P).map (·.1) := by kernel_rfl
noncomputable def hookH : Hook where
  α := List (Option Obj) × Option Obj × Option Value
  obs := fun s => (kAs.map s.heap.get?, s.heap.get? 324, (s.heap.get? sysModules).map (·.cls))
  val := fun w => ((KK w.params).map fun p => some p.2, some (tabObj #[]), some (.type "dict"))
  says := fun w h => (KK w.params).In h ∧ h.get? 324 = some (tabObj #[]) ∧ ∃ o, h.get? sysModules = some o ∧ o.cls = .type "dict"
  of := fun w s x => ⟨InK.of kAs_eq w s (Prod.mk.inj x).1, (Prod.mk.inj (Prod.mk.inj x).2).1, Option.map_eq_some_iff.mp (Prod.mk.inj (Prod.mk.inj x).2).2⟩
  keeps := fun w h h' x k => ⟨InK.keeps w h h' x.1 k, k _ _ x.2.1, x.2.2.elim fun o e => ⟨o, k _ _ e.1, e.2⟩⟩
theorem looks (w : World) (os : OsState) (J : Nat → Obj) : ((staticsOk (importedModules pr.main.body) (boot_heap w.params) (sT (K5 w.params) 328 672 os J).abs.heap && namesBound pr (sT (K5 w.params) 328 672 os J).abs.heap && gensDone (sT (K5 w.params) 328 672 os J).abs && laidKept (boot_heap w.params) (sT (K5 w.params) 328 672 os J).abs.heap),
        openSeen qv [] (importedModules pr.main.body) (fun s => xlAt qv [] s && recOk [] s) true (sT (K5 w.params) 328 672 os J).abs, hookH.obs (sT (K5 w.params) 328 672 os J).abs) = (true, openGood qv [], hookH.val w) := by kernel_rfl
theorem block_run (w : World) (s : Shared) : segRun treeTable pr w 11 (some (.ref 6)) 1 1 s (blockOf (behindTheImports pr) envH codeH ⟨0, 0, 0, 0⟩ [topFrame ⟨0, 0, 0, 0⟩]) = some (.next, s, codeH, ⟨0, 0, 0, 0⟩) := by kernel_rfl
theorem head_left : LeftO pr qv [] (fun s => xlAt qv [] s && recOk [] s) hookH.obs hookH.val 4516 :=
  LeftO.of_run (n₀ := 11) (ann := some (.ref 6)) (M := 2214) (by kernel_rfl) (by kernel_rfl) (fun s => by kernel_rfl) (fun w => by kernel_rfl) (by kernel_rfl) fun w os => by
    obtain ⟨J1, e1⟩ := stage (run1 w os fun _ => default)
    obtain ⟨J2, e2⟩ := stage (run2 w os J1)
    obtain ⟨J3, e3⟩ := stage (run3 w os J2)
    obtain ⟨J4, e4⟩ := stage (run4 w os J3)
    refine ⟨_, go_top (N := 2202) (pre_run w os) (piece_block (N := 2201) (block_run w _) ?_), looks w os J4⟩
    rw [show behindTheImports pr = tops 0 from List.drop_zero.symm]
    refine tops_step e1 (tops_step e2 (tops_step e3 (tops_step e4 (N := 2) ?_)))
    rw [show tops 44 = [] by kernel_rfl]
    exact piece_nil (by kernel_rfl)

section
variable {w : World} {K : Frag} {c : Cx} {l l' : Loc} {H H' : AH} {s s' : Shared} {lvl : Nat}

theorem ofString_inj {a b : String} (h : Str.ofString a = Str.ofString b) : a = b := by
  rw [Str.ofString_eq_byList] at h
  unfold Str.ofStringByList at h
  have h1 := congrArg Str.cps h
  have h2 : a.toList.map Char.toNat = b.toList.map Char.toNat := by simpa using h1
  have h3 : a.toList = b.toList := by
    have inj : ∀ (x y : List Char), x.map Char.toNat = y.map Char.toNat → x = y := by
      intro x
      induction x with
      | nil => intro y e; cases y with | nil => rfl | cons _ _ => cases e
      | cons p r ih =>
        intro y e
        cases y with
        | nil => cases e
        | cons q t =>
          simp only [List.map_cons, List.cons.injEq] at e
          obtain ⟨e1, e2⟩ := e
          rw [ih t e2, Char.ext (UInt32.toNat_inj.mp e1)]
    exact inj _ _ h2
  exact String.toList_inj.mp h3

theorem Ev.bind {e : PySem.Expr} {Q : AV → AH → Prop} {P : Value → Shared → Prop} (h : Ev w c e l H Q) (x : St w c l H s)
    (f : ∀ V s' v H', v.ok V → St w c l H' s' → Q v H' → P V s') : wpAny (model pr w) c.A (eval e c.env) P FF s :=
  wpAny_mono (h s x) (fun V s' ⟨v, H', a, b, q⟩ => f V s' v H' a b q) fun _ _ e => e
theorem Tr.bind {e : PySem.Expr} {Q : Bool → AH → Prop} {P : Bool → Shared → Prop} (h : Tr w c e l H Q) (x : St w c l H s)
    (f : ∀ b s' H', St w c l H' s' → Q b H' → P b s') : wpAny (model pr w) c.A (PySem.isTrue e c.env (eval e c.env)) P FF s :=
  wpAny_mono (h s x) (fun b s' ⟨H', a, q⟩ => f b s' H' a q) fun _ _ e => e
theorem Ev.mono {e : PySem.Expr} {Q Q' : AV → AH → Prop} (h : Ev w c e l H Q) (f : ∀ v H', Q v H' → Q' v H') : Ev w c e l H Q' :=
  fun _ x => h.bind x fun _ _ v H' a b q => ⟨v, H', a, b, f v H' q⟩
theorem Tr.mono {e : PySem.Expr} {Q Q' : Bool → AH → Prop} (h : Tr w c e l H Q) (f : ∀ v H', Q v H' → Q' v H') : Tr w c e l H Q' :=
  fun _ x => h.bind x fun b _ H' a q => ⟨H', a, f b H' q⟩
theorem Fl.mono {N N' : Loc → AH → Prop} {R R' : AV → AH → Prop} (hN : ∀ l H, N l H → N' l H) (hR : ∀ v H, R v H → R' v H) {f : Flow} (h : Fl w c N R f s) : Fl w c N' R' f s := by
  cases f with
  | next => obtain ⟨l', H', a, q⟩ := h; exact ⟨l', H', a, hN _ _ q⟩
  | ret V => obtain ⟨v, l', H', o, a, q⟩ := h; exact ⟨v, l', H', o, a, hR _ _ q⟩
  | brk => exact h
  | cont => exact h
theorem Ex.mono {st : Stmt} {N N' : Loc → AH → Prop} {R R' : AV → AH → Prop} (h : Ex w c st l H N R) (hN : ∀ l H, N l H → N' l H) (hR : ∀ v H, R v H → R' v H) : Ex w c st l H N' R' :=
  fun s x => wpAny_mono (h s x) (fun _ _ q => Fl.mono hN hR q) fun _ _ e => e

theorem Exs.nil {N : Loc → AH → Prop} {R : AV → AH → Prop} (h : N l H) : Exs w c [] l H N R := fun _ x => wpAny_execs_nil ⟨l, H, x, h⟩
theorem Exs.cons {st : Stmt} {rest : List Stmt} {N : Loc → AH → Prop} {R : AV → AH → Prop} (h : Ex w c st l H (fun l' H' => Exs w c rest l' H' N R) R) : Exs w c (st :: rest) l H N R := fun s x =>
  wpAny_execs_cons (wpAny_mono (h s x) (fun f s' q => by
    cases f with
    | next => obtain ⟨l', H', a, q⟩ := q; exact q s' a
    | ret V => exact q
    | brk => exact q
    | cont => exact q) fun _ _ e => e)
/-- weaken what is known of names and objects -/
theorem Exs.weaken {sts : List Stmt} {N : Loc → AH → Prop} {R : AV → AH → Prop} (l' : Loc) (H' : AH) (hl : Loc.sub l' l) (hH : ∀ a o, H' a = some o → H a = some o) (h : Exs w c sts l' H' N R) : Exs w c sts l H N R :=
  fun s x => h s (x.weaken hl.mem hH)

structure NamesOk (env : Env) (ls : List (String × NameKind)) : Prop where
  kind : ∀ p ∈ ls, env.kindOf (Str.ofString p.1) = some p.2
  dbg : ∀ p ∈ ls, (Str.ofString p.1 == ("__debug__" : Str)) = false
noncomputable def namesB (sc : Scope) (ls : List (String × NameKind)) : Bool := ls.all fun p => sc.names.lookup (Str.ofString p.1) == some p.2 && !(Str.ofString p.1 == ("__debug__" : Str))
theorem NamesOk.of {env : Env} {sc : Scope} {ls : List (String × NameKind)} (h : namesB sc ls = true) (he : env.scope = sc) : NamesOk env ls := by
  unfold namesB at h
  rw [List.all_eq_true] at h
  refine ⟨fun p hp => ?_, fun p hp => ?_⟩
  · have := (Bool.and_eq_true_iff.mp (h p hp)).1
    unfold Env.kindOf
    rw [he]
    exact beq_iff_eq.mp this
  · have := (Bool.and_eq_true_iff.mp (h p hp)).2
    simpa using this

/-- the namespace at hand -/
theorem St.ns (ok : c.Ok K lvl) (x : St w c l H s) : ∃ m, s.heap.Ns c.env.locals m ∧ LocOk l m := by
  obtain ⟨m, news, e, F, N, hk, lc, ro⟩ := x
  have el := ok.el
  unfold CompOk at lc
  cases hc : c.comp with
  | none => rw [hc] at lc el; exact ⟨m, by rw [el]; exact F.ns, lc⟩
  | some q =>
    obtain ⟨D, mF⟩ := q
    rw [hc] at lc el
    obtain ⟨_, _, od, es, ep, g, d, k, r⟩ := lc
    exact ⟨_, by rw [el]; exact ⟨od, es, ep, (N _ g).1, d, k, fun _ => rfl⟩, r⟩

section names
variable {ls : List (String × NameKind)} {x : String} {v : AV} {p : Pos} {Q : AV → AH → Prop}
theorem Ev.loc (ok : c.Ok K lvl) (hn : NamesOk c.env ls) (h1 : assoc x ls = some NameKind.local) (h2 : assoc x l = some v) (q : Q v H) : Ev w c (.Name (Str.ofString x) p) l H Q := fun s st => by
  obtain ⟨m, ns, lo⟩ := st.ns ok
  obtain ⟨V, hV, hv⟩ := lo _ (mem_of_assoc h2)
  exact wpAny_Name (wpAny_loadName_local ok.ek (hn.kind _ (mem_of_assoc h1)) ns hV ⟨v, H, hv, st, q⟩) (hn.dbg _ (mem_of_assoc h1))
theorem Ev.cellv {a : Addr} (ok : c.Ok K lvl) (hn : NamesOk c.env ls) (h1 : assoc x ls = some NameKind.cell) (hc : c.env.cells.lookup (Str.ofString x) = some a) (h2 : H a = some (.cell (some v))) (q : Q v H) : Ev w c (.Name (Str.ofString x) p) l H Q := fun s st => by
  obtain ⟨o, ho, e⟩ := st.get h2
  rcases e with ⟨_, e⟩ | ⟨b, V, e, d, hv⟩
  · cases e
  · cases e
    exact wpAny_Name (wpAny_loadName_cell ok.ek (hn.kind _ (mem_of_assoc h1)) hc ⟨o, ho, d⟩ ⟨v, H, hv, st, q⟩) (hn.dbg _ (mem_of_assoc h1))
/-- a name of the module's: its value stands in K -/
structure GlobOk (K : Frag) (gt : List (String × Value)) (bt : List (String × Value)) : Prop where
  at_ : ∀ p ∈ gt, nsIn K mainGlobals (Str.ofString p.1) = some (some p.2)
  not_ : ∀ p ∈ bt, nsIn K mainGlobals (Str.ofString p.1) = some none ∧ Str.ofString p.1 ≠ "__name__" ∧ bootBuiltins (Str.ofString p.1) = some p.2
theorem St.keep (x : St w c l H s) : ∀ b o, c.h₀.get? b = some o → s.heap.get? b = some o := let ⟨_, _, b⟩ := x; b.fr.keep
theorem Ev.glob {gt bt : List (String × Value)} {V : Value} (ok : c.Ok K lvl) (g : GlobOk K gt bt) (hn : NamesOk c.env ls) (h1 : assoc x ls = some NameKind.globalImplicit) (h2 : assoc x gt = some V) (hv : v.ok V) (q : Q v H) : Ev w c (.Name (Str.ofString x) p) l H Q := fun s st =>
  Name_function_global ok.ek (hn.kind _ (mem_of_assoc h1)) (loadGlobal_global (by rw [ok.eg]; exact ok.gb.g.keeps st.keep) (mg_of ok.kin ok.gb.g (g.at_ _ (mem_of_assoc h2))) ⟨v, H, hv, st, q⟩) (hn.dbg _ (mem_of_assoc h1))
theorem Ev.bltin {gt bt : List (String × Value)} {V : Value} (ok : c.Ok K lvl) (g : GlobOk K gt bt) (hn : NamesOk c.env ls) (h1 : assoc x ls = some NameKind.globalImplicit) (h2 : assoc x bt = some V) (q : Q (.raw V) H) : Ev w c (.Name (Str.ofString x) p) l H Q := fun s st => by
  obtain ⟨e1, e2, e3⟩ := g.not_ _ (mem_of_assoc h2)
  exact Name_function_global ok.ek (hn.kind _ (mem_of_assoc h1)) (loadGlobal_builtin (by rw [ok.eg]; exact ok.gb.g.keeps st.keep) (mg_none_of ok.kin ok.gb.g e1) (by rw [ok.eb]; exact ok.gb.b.keeps st.keep) ((ok.gb.builtins _ e2).trans e3) ⟨.raw V, H, rfl, st, q⟩) (hn.dbg _ (mem_of_assoc h1))
end names

section consts
variable {k : Nat} {p : Pos} {Q : AV → AH → Prop}
theorem Ev.int {i : Int} (q : Q (.int i) H) : Ev w c (.Constant (.int i) k p) l H Q := fun s st => wpAny_Constant_int ⟨.int i, H, ⟨_, rfl⟩, st.toks _, q⟩
theorem Ev.none (q : Q .none H) : Ev w c (.Constant .none k p) l H Q := fun s st => wpAny_Constant_none ⟨.none, H, rfl, st, q⟩
theorem Ev.bool {b : Bool} (q : Q (.bool b) H) : Ev w c (.Constant (.bool b) k p) l H Q := fun s st => Constant_bool ⟨.bool b, H, rfl, st, q⟩
end consts

noncomputable def int2 (a b : AV) (f : Int → Int → Prop) : Prop := match a with
  | .int i => match b with
    | .int j => f i j
    | _ => False
  | _ => False
/-- a value that is a number, a bool, a reference -/
inductive IntP (v : AV) (q : Int → Prop) : Prop
  | mk (i : Int) (e : v = .int i) (k : q i)
inductive BoolP (v : AV) (q : Bool → Prop) : Prop
  | mk (b : Bool) (e : v = .bool b) (k : q b)
inductive RefP (v : AV) (q : Addr → Prop) : Prop
  | mk (a : Addr) (e : v = .ref a) (k : q a)
theorem int2.inv {a b : AV} {f : Int → Int → Prop} (h : int2 a b f) : ∃ i j, a = .int i ∧ b = .int j ∧ f i j := by
  cases a with
  | int i => cases b with
    | int j => exact ⟨i, j, rfl, rfl, h⟩
    | _ => exact h.elim
  | _ => exact h.elim
/-- what an operation on two values gives -/
noncomputable def Op (op : Operator) (a b : AV) (q : AV → Prop) : Prop := match op with
  | .Add => int2 a b fun a b => q (.int (a + b))
  | .Sub => int2 a b fun a b => q (.int (a - b))
  | .Mult => int2 a b fun a b => (a.natAbs < 2 ^ 60 ∨ b.natAbs < 2 ^ 60) ∧ q (.int (a * b))
  | .FloorDiv => int2 a b fun a b => (0 < b ∧ b < 2 ^ 60) ∧ q (.int (a / b))
  | .Mod => int2 a b fun a b => 0 < b ∧ q (.int (a % b))
  | .Pow => int2 a b fun a b => (a = 2 ∧ b = 32) ∧ q (.int 4294967296)
  | _ => False
theorem noPylong {a b : Int} (h0 : 0 < b) (h : b < 2 ^ 60) : Builtin.divisionGoesByPylong a b = false := by
  unfold Builtin.divisionGoesByPylong
  have hb : b.natAbs.log2 < 61 := by
    have : b.natAbs ≠ 0 := by lia
    rw [Nat.log2_lt this]
    have : b.natAbs < 2 ^ 60 := by omega
    exact Nat.lt_of_lt_of_le this (by decide)
  have hne : (b == 0) = false := by simp; lia
  simp only [hne, Bool.false_eq_true, if_false, Bool.and_eq_false_iff]
  left
  simp only [gt_iff_lt, decide_eq_false_iff_not, Nat.not_lt]
  lia
theorem Op.sound {op : Operator} {a b : AV} {V U : Value} {q : AV → Prop} (ha : a.ok V) (hb : b.ok U) (x : St w c l H s) (h : Op op a b q) :
    wpAny (model pr w) c.A (binaryOp op V U) (fun V s' => ∃ v H', v.ok V ∧ St w c l H' s' ∧ (q v ∧ H' = H)) FF s := by
  cases op with
  | Add =>
    obtain ⟨i, j, rfl, rfl, h⟩ := int2.inv h
    obtain ⟨t, rfl⟩ := ha; obtain ⟨u, rfl⟩ := hb
    exact add_int ⟨.int _, H, ⟨_, rfl⟩, x.toks _, h, rfl⟩
  | Sub =>
    obtain ⟨i, j, rfl, rfl, h⟩ := int2.inv h
    obtain ⟨t, rfl⟩ := ha; obtain ⟨u, rfl⟩ := hb
    exact sub_int ⟨.int _, H, ⟨_, rfl⟩, x.toks _, h, rfl⟩
  | Mult =>
    obtain ⟨i, j, rfl, rfl, hab, h⟩ := int2.inv h
    obtain ⟨t, rfl⟩ := ha; obtain ⟨u, rfl⟩ := hb
    exact PyProof.Rows.mul_int ⟨.int _, H, ⟨_, rfl⟩, x.toks _, h, rfl⟩ (hab.elim (fun ha => .of_left (intBits_le_64 (by omega) (by omega))) fun hb => .of_right (intBits_le_64 (by omega) (by omega)))
  | FloorDiv =>
    obtain ⟨i, j, rfl, rfl, ⟨h0, h1⟩, h⟩ := int2.inv h
    obtain ⟨t, rfl⟩ := ha; obtain ⟨u, rfl⟩ := hb
    refine floordiv_int (by omega) ⟨.int _, H, ⟨_, rfl⟩, x.toks _, ?_, rfl⟩ (.inl (noPylong h0 h1))
    rw [Int.fdiv_eq_ediv_of_nonneg _ (by lia)]; exact h
  | Mod =>
    obtain ⟨i, j, rfl, rfl, h0, h⟩ := int2.inv h
    obtain ⟨t, rfl⟩ := ha; obtain ⟨u, rfl⟩ := hb
    refine mod_int (by lia) ⟨.int _, H, ⟨_, rfl⟩, x.toks _, ?_, rfl⟩
    rw [Int.fmod_eq_emod_of_nonneg _ (by lia)]; exact h
  | Pow =>
    obtain ⟨i, j, rfl, rfl, ⟨e1, e2⟩, h'⟩ := int2.inv h
    subst e1; subst e2
    obtain ⟨t, rfl⟩ := ha; obtain ⟨u, rfl⟩ := hb
    refine pow_int_small (by decide) (by decide) (by decide) ⟨.int _, H, ⟨_, rfl⟩, x.toks _, ?_, rfl⟩
    exact h'
  | _ => exact h.elim
theorem Ev.bin {op : Operator} {e₁ e₂ : PySem.Expr} {p : Pos} {Q : AV → AH → Prop} (h : Ev w c e₁ l H fun a H₁ => Ev w c e₂ l H₁ fun b H₂ => Op op a b fun v => Q v H₂) : Ev w c (.BinOp e₁ op e₂ p) l H Q := fun s x =>
  wpAny_BinOp (h.bind x fun V s₁ v H₁ hv x₁ h₁ => h₁.bind x₁ fun U s₂ u H₂ hu x₂ h₂ => wpAny_mono (Op.sound hv hu x₂ h₂) (fun V s' ⟨v, H', a, b, q, e⟩ => ⟨v, H', a, b, e ▸ q⟩) fun _ _ e => e)
theorem Ev.neg {e : PySem.Expr} {p : Pos} {Q : AV → AH → Prop} (h : Ev w c e l H fun v H₁ => ∃ i, v = .int i ∧ Q (.int (-i)) H₁) : Ev w c (.UnaryOp .USub e p) l H Q := fun s x =>
  UnaryOp_ (h.bind x fun V s₁ v H₁ hv x₁ ⟨i, e, q⟩ => by
    subst e; obtain ⟨t, rfl⟩ := hv
    exact P.neg_int ⟨.int _, H₁, ⟨_, rfl⟩, x₁.toks _, q⟩)

noncomputable def Cmp (op : CmpOp) (a b : AV) (q : Bool → Prop) : Prop := match op with
  | .Eq => int2 a b fun a b => q (decide (a = b))
  | .NotEq => int2 a b fun a b => q (decide (a ≠ b))
  | .Lt => int2 a b fun a b => q (decide (a < b))
  | .LtE => int2 a b fun a b => q (decide (a ≤ b))
  | .Gt => int2 a b fun a b => q (decide (b < a))
  | .GtE => int2 a b fun a b => q (decide (b ≤ a))
  | .IsNot => match b with
    | .none => match a with
      | .none => q false
      | .int _ => q true
      | _ => False
    | _ => False
  | _ => False
theorem Cmp.sound {op : CmpOp} {a b : AV} {V U : Value} {q : Bool → Prop} (ha : a.ok V) (hb : b.ok U) (x : St w c l H s) (h : Cmp op a b q) :
    wpAny (model pr w) c.A (compareOp op V U) (fun V s' => ∃ b, V = .bool b ∧ St w c l H s' ∧ q b) FF s := by
  cases op with
  | Eq =>
    obtain ⟨i, j, rfl, rfl, h⟩ := int2.inv h
    obtain ⟨t, rfl⟩ := ha; obtain ⟨u, rfl⟩ := hb
    refine PyProof.Rows.eq_int ⟨_, rfl, x, ?_⟩
    rw [show (i == j) = decide (i = j) from rfl]; exact h
  | NotEq =>
    obtain ⟨i, j, rfl, rfl, h⟩ := int2.inv h
    obtain ⟨t, rfl⟩ := ha; obtain ⟨u, rfl⟩ := hb
    refine PyProof.Rows.ne_int ⟨_, rfl, x, ?_⟩
    rw [show (i != j) = decide (i ≠ j) by by_cases h : i = j <;> simp [h]]; exact h
  | Lt =>
    obtain ⟨i, j, rfl, rfl, h⟩ := int2.inv h
    obtain ⟨t, rfl⟩ := ha; obtain ⟨u, rfl⟩ := hb
    exact PyProof.Rows.lt_int ⟨_, rfl, x, h⟩
  | LtE =>
    obtain ⟨i, j, rfl, rfl, h⟩ := int2.inv h
    obtain ⟨t, rfl⟩ := ha; obtain ⟨u, rfl⟩ := hb
    exact P.le_int ⟨_, rfl, x, h⟩
  | Gt =>
    obtain ⟨i, j, rfl, rfl, h⟩ := int2.inv h
    obtain ⟨t, rfl⟩ := ha; obtain ⟨u, rfl⟩ := hb
    exact PyProof.Rows.gt_int ⟨_, rfl, x, h⟩
  | GtE =>
    obtain ⟨i, j, rfl, rfl, h⟩ := int2.inv h
    obtain ⟨t, rfl⟩ := ha; obtain ⟨u, rfl⟩ := hb
    exact P.ge_int ⟨_, rfl, x, h⟩
  | IsNot =>
    cases b with
    | none => cases a with
      | none => cases ha; cases hb; exact wpAny_isNot_self rfl ⟨_, rfl, x, h⟩
      | int i => obtain ⟨t, rfl⟩ := ha; cases hb; exact wpAny_isNot_other rfl (by simp) ⟨_, rfl, x, h⟩
      | _ => exact h.elim
    | _ => exact h.elim
  | _ => exact h.elim
theorem Ev.cmp {op : CmpOp} {e₁ e₂ : PySem.Expr} {p : Pos} {Q : AV → AH → Prop} (h : Ev w c e₁ l H fun a H₁ => Ev w c e₂ l H₁ fun b H₂ => Cmp op a b fun v => Q (.bool v) H₂)
    (hm : behindInMarks op e₂ = false := by rfl) : Ev w c (.Compare e₁ [op] [e₂] p) l H Q := fun s x =>
  wpAny_Compare1 (h.bind x fun V s₁ v H₁ hv x₁ h₁ => h₁.bind x₁ fun U s₂ u H₂ hu x₂ h₂ => wpAny_mono (Cmp.sound hv hu x₂ h₂) (fun V s' ⟨b, e, a, q⟩ => ⟨.bool b, H₂, e, a, q⟩) fun _ _ e => e) hm
theorem Tr.cmp {op : CmpOp} {e₁ e₂ : PySem.Expr} {p : Pos} {Q : Bool → AH → Prop} (h : Ev w c e₁ l H fun a H₁ => Ev w c e₂ l H₁ fun b H₂ => Cmp op a b fun v => Q v H₂)
    (hm : behindInMarks op e₂ = false := by rfl) : Tr w c (.Compare e₁ [op] [e₂] p) l H Q := fun s x =>
  wpAny_isTrue_Compare1 (h.bind x fun V s₁ v H₁ hv x₁ h₁ => h₁.bind x₁ fun U s₂ u H₂ hu x₂ h₂ => wpAny_mono (Cmp.sound hv hu x₂ h₂) (fun V s' ⟨b, e, a, q⟩ => by
    subst e; exact wpAny_truthy_bool ⟨H₂, a, q⟩) fun _ _ e => e) hm
theorem Tr.or {e : PySem.Expr} {es : List PySem.Expr} {p : Pos} {Q : Bool → AH → Prop} (h : Tr w c e l H fun b H₁ => (b = true → Q true H₁) ∧ (b = false → Tr w c (.BoolOp .Or es p) l H₁ Q)) : Tr w c (.BoolOp .Or (e :: es) p) l H Q := fun s x =>
  isTrue_or (h.bind x fun b s₁ H₁ x₁ q => by
    cases b with
    | true => exact ⟨H₁, x₁, q.1 rfl⟩
    | false => exact q.2 rfl s₁ x₁)
theorem Tr.or_nil {p : Pos} {Q : Bool → AH → Prop} (h : Q false H) : Tr w c (.BoolOp .Or [] p) l H Q := fun s x => isTrue_or_nil ⟨H, x, h⟩
theorem Tr.and {e : PySem.Expr} {es : List PySem.Expr} {p : Pos} {Q : Bool → AH → Prop} (h : Tr w c e l H fun b H₁ => (b = false → Q false H₁) ∧ (b = true → Tr w c (.BoolOp .And es p) l H₁ Q)) : Tr w c (.BoolOp .And (e :: es) p) l H Q := fun s x =>
  isTrue_and (h.bind x fun b s₁ H₁ x₁ q => by
    cases b with
    | false => exact ⟨H₁, x₁, q.1 rfl⟩
    | true => exact q.2 rfl s₁ x₁)
theorem Tr.and_nil {p : Pos} {Q : Bool → AH → Prop} (h : Q true H) : Tr w c (.BoolOp .And [] p) l H Q := fun s x => isTrue_and_nil ⟨H, x, h⟩
theorem Tr.not {e : PySem.Expr} {p : Pos} {Q : Bool → AH → Prop} (h : Tr w c e l H fun b H₁ => Q (!b) H₁) : Tr w c (.UnaryOp .Not e p) l H Q := fun s x =>
  isTrue_not (h.bind x fun b s₁ H₁ x₁ q => ⟨H₁, x₁, q⟩)
/-- a test that is an expression of its own -/
theorem Tr.plain {e : PySem.Expr} {Q : Bool → AH → Prop} (h : Ev w c e l H fun v H₁ => BoolP v fun b => Q b H₁)
    (he : ∀ whole, PySem.isTrue e c.env whole = (do let v ← whole; standAt e.pos; holding [v] (truthy v)) := by intro _; rfl) : Tr w c e l H Q := fun s x =>
  isTrue_plain (h.bind x fun V s₁ v H₁ hv x₁ ⟨b, e, q⟩ => by
    subst e; cases hv
    exact wpAny_truthy_bool ⟨H₁, x₁, q⟩) (he _)
theorem Ev.ifexp {t a b : PySem.Expr} {p : Pos} {Q : AV → AH → Prop} (h : Tr w c t l H fun v H₁ => (v = true → Ev w c a l H₁ Q) ∧ (v = false → Ev w c b l H₁ Q)) : Ev w c (.IfExp t a b p) l H Q := fun s x =>
  IfExp_ (h.bind x fun v s₁ H₁ x₁ q => by
    cases v with
    | true => rw [if_pos rfl]; exact q.1 rfl s₁ x₁
    | false => rw [if_neg Bool.false_ne_true]; exact q.2 rfl s₁ x₁)
end

section
variable {w : World} {K : Frag} {c : Cx} {l l' : Loc} {H H' : AH} {s s' : Shared} {lvl : Nat}

/-! attributes -/
inductive Get : List (String × AV) → String → AV → Prop
  | head {x u r} : Get ((x, u) :: r) x u
  | tail {x y u v r} (h : y ≠ x) (g : Get r x u) : Get ((y, v) :: r) x u
noncomputable def putF (x : String) (v : AV) : List (String × AV) → List (String × AV)
  | [] => [(x, v)]
  | (y, u) :: r => if y = x then (y, v) :: r else (y, u) :: putF x v r
theorem putF_length (x : String) (v : AV) : ∀ fs, (putF x v fs).length ≤ fs.length + 1
  | [] => Nat.le_refl _
  | q :: r => by
    have ih := putF_length x v r
    show (if _ then _ else _ : List (String × AV)).length ≤ _
    split <;> simp
    lia
theorem isStr_of_ne {y x : String} {t : Tok} (h : y ≠ x) : (Value.str (Str.ofString y) t).isStr (Str.ofString x) = false := by
  show (Str.ofString y == Str.ofString x) = false
  rw [beq_eq_false_iff_ne]
  exact fun e => h (ofString_inj e)
theorem isStr_self {x : String} {t : Tok} : (Value.str (Str.ofString x) t).isStr (Str.ofString x) = true := by
  show (Str.ofString x == Str.ofString x) = true
  rw [beq_self_eq_true]
theorem Entries.any {fs : List (String × AV)} {es : List DictEntry} (h : Entries w fs es) : es.any (·.refKey) = false := by
  induction h with
  | nil => rfl
  | cons _ _ ih => rw [List.any_cons, ih]; rfl
theorem Entries.length {fs : List (String × AV)} {es : List DictEntry} (h : Entries w fs es) : es.length = fs.length := by
  induction h with
  | nil => rfl
  | cons _ _ ih => simp [ih]
theorem Entries.get {fs : List (String × AV)} {es : List DictEntry} {x : String} {u : AV} (h : Entries w fs es) (g : Get fs x u) : ∃ V, getL (Str.ofString x) es = some (some V) ∧ u.ok V := by
  induction h with
  | nil => cases g
  | @cons y v V t fs es hv he ih =>
    cases g with
    | head => exact ⟨V, by unfold getL; rw [List.find?_cons_of_pos (by exact isStr_self)], hv⟩
    | tail h g =>
      obtain ⟨V', e, o⟩ := ih g
      refine ⟨V', ?_, o⟩
      unfold getL at e ⊢
      rw [List.find?_cons_of_neg (by show ¬ _ = true; rw [isStr_of_ne h]; exact Bool.false_ne_true), List.any_cons]
      exact e
theorem Entries.miss {fs : List (String × AV)} {es : List DictEntry} {x : String} (h : Entries w fs es) (g : ∀ p ∈ fs, p.1 ≠ x) : getL (Str.ofString x) es = some none := by
  have : es.find? (fun e => e.key.isStr (Str.ofString x)) = none := by
    induction h with
    | nil => rfl
    | @cons y v V t fs es hv he ih =>
      rw [List.find?_cons_of_neg (by show ¬ _ = true; rw [isStr_of_ne (g _ (.head _))]; exact Bool.false_ne_true)]
      exact ih fun p hp => g p (.tail _ hp)
  unfold getL
  rw [this, h.any]
  rfl
theorem Entries.put {fs : List (String × AV)} {es : List DictEntry} {x : String} {v : AV} {V : Value} (h : Entries w fs es) (hv : v.ok V) (t : Tok) : Entries w (putF x v fs) (putL (Str.ofString x) (PyData.keyHash w.params (Str.ofString x)) (.str (Str.ofString x) t) V es) := by
  induction h with
  | nil => exact .cons hv .nil
  | @cons y u U t' fs es hu he ih =>
    show Entries w (if y = x then (y, v) :: fs else (y, u) :: putF x v fs) _
    unfold putL
    by_cases e : y = x
    · subst e
      rw [if_pos rfl, if_pos isStr_self]
      exact .cons hv he
    · rw [if_neg e, if_neg (by show ¬ _ = true; rw [isStr_of_ne e]; exact Bool.false_ne_true)]
      exact .cons hu ih
theorem Entries.some {fs : List (String × AV)} {es : List DictEntry} (h : Entries w fs es) (x : Str) : (getL x es).isSome = true := by
  unfold getL
  split
  · rfl
  · rw [h.any]; rfl

structure AttrOk (K : Frag) (C : Addr) (x : String) : Prop where
  plain : plainGet K C (Str.ofString x) = true
  dict : hasDictIn K C = true
  find : findIn K (.ref C) (Str.ofString x) = some none
structure SetOk (K : Frag) (C : Addr) (x : String) : Prop where
  find : findIn K (.ref C) "__setattr__" = some (some (.builtin "object.__setattr__"))
  plain : plainOver K C = true
  taker : takerIn K C (Str.ofString x) = some none
  dict : hasDictIn K C = true
structure MethOk (K : Frag) (C : Addr) (x : String) (f : Addr) : Prop where
  plain : plainGet K C (Str.ofString x) = true
  find : findIn K (.ref C) (Str.ofString x) = some (some (.ref f))
  fn : isFn K (.ref f) = true
  keep : keepIn K (.ref f) = true
noncomputable def AV.plain : AV → Bool
  | .raw _ => false
  | _ => true
theorem AV.plain_in {v : AV} {V : Value} (h : v.plain = true) (hv : v.ok V) : handedIn V = true := by
  cases v with
  | none => cases hv; rfl
  | bool b => cases hv; rfl
  | int i => obtain ⟨t, rfl⟩ := hv; rfl
  | ref a => cases hv; rfl
  | raw v => cases h
theorem St.inst {a C d : Addr} {fs : List (String × AV)} (x : St w c l H s) (ha : H a = some (.inst C d)) (hd : H d = some (.attrs fs)) :
    ∃ es n, InstAt s.heap a (instObj C d) C (some (dictOf es n)) ∧ Entries w fs es := by
  obtain ⟨o, ho, e⟩ := x.get ha
  obtain ⟨od, hod, es, n, e', he⟩ := x.get hd
  cases e; cases e'
  exact ⟨es, n, ⟨ho, rfl, rfl, hod⟩, he⟩
inductive AttrP (K : Frag) (x : String) (v : AV) (H : AH) (Q : AV → AH → Prop) : Prop
  | mk (a C d : Addr) (fs : List (String × AV)) (u : AV) (e : v = .ref a) (h1 : H a = some (.inst C d)) (h2 : H d = some (.attrs fs)) (k : AttrOk K C x) (g : Get fs x u) (p : u.plain = true) (q : Q u H)
theorem Ev.attr {e : PySem.Expr} {x : String} {p : Pos} {Q : AV → AH → Prop} (ok : c.Ok K lvl)
    (h : Ev w c e l H fun v H₁ => AttrP K x v H₁ Q)
    (he : eval (.Attribute e (Str.ofString x) p) c.env = (do
      let o ← eval e c.env
      standAt p.atName
      let r ← holding [o] (getAttr o (Str.ofString x) true)
      letTemporaryGo e o r
      pure r) := by with_unfolding_all rfl) : Ev w c (.Attribute e (Str.ofString x) p) l H Q := fun s st =>
  Attribute_any_ (h.bind st fun V s₁ v H₁ hv x₁ ⟨a, C, d, fs, u, e, ha, hd, hk, hg, hp, q⟩ => by
    subst e; cases hv
    obtain ⟨es, n, I, he⟩ := x₁.inst ha hd
    obtain ⟨U, eU, oU⟩ := he.get hg
    obtain ⟨m, news, b⟩ := id x₁
    exact get_own b.fr ok.kin I hk.plain hk.dict hk.find rfl eU (AV.plain_in hp oU) ⟨u, H₁, oU, x₁.toks _, q⟩) he

/-! arguments -/
noncomputable def Evs (w : World) (c : Cx) : List PySem.Expr → Loc → AH → (List AV → AH → Prop) → Prop
  | [], _, H, Q => Q [] H
  | e :: r, l, H, Q => Ev w c e l H fun v H₁ => Evs w c r l H₁ fun vs H₂ => Q (v :: vs) H₂
noncomputable def noStar : List PySem.Expr → Bool
  | [] => true
  | .Starred _ _ :: _ => false
  | _ :: r => noStar r
theorem starEach_cons {e : PySem.Expr} {r : List PySem.Expr} {env : Env} (h : noStar (e :: r) = true) : starEach (e :: r) env = (false, eval e env) :: starEach r env ∧ noStar r = true := by
  cases e <;> first | exact ⟨rfl, h⟩ | cases h
theorem Evs.bind {p : Pos} {P : List Value → Shared → Prop} : ∀ {es : List PySem.Expr} {H : AH} {s : Shared} {Q : List AV → AH → Prop}, Evs w c es l H Q → noStar es = true → St w c l H s →
    (∀ Vs s' vs H', Oks vs Vs → St w c l H' s' → Q vs H' → P Vs s') → wpAny (model pr w) c.A (spliced (backTo p (starEach es c.env))) P FF s
  | [], H, s, Q, h, _, x, f => spliced_none (f [] s [] H .nil x h)
  | e :: r, H, s, Q, h, hn, x, f => by
    obtain ⟨he, hr⟩ := starEach_cons (env := c.env) hn
    refine spliced_more ?_ he
    refine Ev.bind h x fun V s₁ v H₁ hv x₁ h₁ => ?_
    have ih := Evs.bind (p := p) (P := fun Vs s' => ∃ vs H', Oks vs Vs ∧ St w c l H' s' ∧ Q (v :: vs) H') h₁ hr x₁ fun Vs s' vs H' a b q => ⟨vs, H', a, b, q⟩
    exact wpAny_mono ih (fun Vs s' ⟨vs, H', a, b, q⟩ => f (V :: Vs) s' (v :: vs) H' (.cons hv a) b q) fun _ _ e => e
theorem noStar_any {p : Pos} {env : Env} : ∀ {es : List PySem.Expr}, noStar es = true → (backTo p (starEach es env)).any (·.1) = false
  | [], _ => rfl
  | e :: r, h => by
    obtain ⟨he, hr⟩ := starEach_cons (env := env) h
    rw [he]
    show (false || (backTo p (starEach r env)).any (·.1)) = false
    rw [noStar_any hr]; rfl

theorem callWith_in {p : Pos} {f : Addr} {first : List Value} {firsts : List AV} {es : List PySem.Expr} {Q : AV → AH → Prop} {n : Nat} (ok : c.Ok K n) (hk : keepIn K (.ref f) = true) (hn : noStar es = true) (x : St w c l H s) (hf : Oks firsts first)
    (h : Evs w c es l H fun vs H₁ => Call w K n (.ref f) (firsts ++ vs) H₁ Q) : wpAny (model pr w) c.A (callWith p (.ref f) first (backTo p (starEach es c.env)) []) (fun V s' => ∃ v H', v.ok V ∧ St w c l H' s' ∧ Q v H') FF s := by
  have app : ∀ {as bs : List AV} {As Bs : List Value}, Oks as As → Oks bs Bs → Oks (as ++ bs) (As ++ Bs) := fun {as bs As Bs} a b => by
    induction a with
    | nil => exact b
    | cons v _ ih => exact .cons v ih
  cases es with
  | nil => exact callWith_K0 (ok.kin.keeps x.keep) hk (h c l s _ ok x (app hf .nil))
  | cons e r =>
    obtain ⟨he, hr⟩ := starEach_cons (env := c.env) hn
    exact callWith_K ok.kin hk (Evs.bind h hn x fun Vs s' vs H' a b q => ⟨ok.kin.keeps b.keep, q c l s' _ ok b (app hf a)⟩) he (noStar_any hr)

inductive MethP (K : Frag) (x : String) (v : AV) (H : AH) (q : Addr → Addr → Prop) : Prop
  | mk (a C d : Addr) (fs : List (String × AV)) (f : Addr) (e : v = .ref a) (h1 : H a = some (.inst C d)) (h2 : H d = some (.attrs fs)) (k : MethOk K C x f) (m : ∀ p ∈ fs, p.1 ≠ x) (q : q a f)
/-- a call of a method of an own class's object -/
theorem Ev.meth {o : PySem.Expr} {x : String} {ap p : Pos} {es : List PySem.Expr} {Q : AV → AH → Prop} {n : Nat} (ok : c.Ok K n)
    (h : Ev w c o l H fun v H₁ => MethP K x v H₁ fun a f => Evs w c es l H₁ fun vs H₂ => Call w K n (.ref f) (.ref a :: vs) H₂ Q)
    (hn : noStar es = true := by rfl)
    (he : eval (.Call (.Attribute o (Str.ofString x) ap) es [] p) c.env = (do
      let ov ← eval o c.env
      standAt ap.atName
      let (f, first) ← holding [ov] (getMethod ov (Str.ofString x) (do return (← importBound o c.env).getD true))
      callWith p f first (backTo p (starEach es c.env)) (backToKw p (keywordEach [] c.env))) := by rfl) : Ev w c (.Call (.Attribute o (Str.ofString x) ap) es [] p) l H Q := fun s st =>
  methodCall_KW (h.bind st fun V s₁ v H₁ hv x₁ ⟨a, C, d, fs, f, e, ha, hd, hk, hm, q⟩ => by
    subst e; cases hv
    obtain ⟨es, n, I, he⟩ := x₁.inst ha hd
    obtain ⟨m, news, b⟩ := id x₁
    exact method_inst b.fr ok.kin I hk.plain hk.find hk.fn (he.miss hm) (callWith_in (firsts := [.ref a]) ok hk.keep hn x₁ (.cons rfl .nil) q)) he

inductive FnP (K : Frag) (v : AV) (q : Addr → Prop) : Prop
  | mk (f : Addr) (e : v = .ref f) (k : keepIn K (.ref f) = true) (q : q f)
/-- a call of a def of the module's -/
theorem Ev.callg {g : PySem.Expr} {p : Pos} {es : List PySem.Expr} {Q : AV → AH → Prop} {n : Nat} (ok : c.Ok K n)
    (h : Ev w c g l H fun v H₁ => FnP K v fun f => Evs w c es l H₁ fun vs H₂ => Call w K n (.ref f) vs H₂ Q)
    (hn : noStar es = true := by rfl)
    (he : eval (.Call g es [] p) c.env = (do callWith p (← eval g c.env) [] (backTo p (starEach es c.env)) (backToKw p (keywordEach [] c.env))) := by rfl) : Ev w c (.Call g es [] p) l H Q := fun s st => by
  rw [he]
  exact wpAny_bind (h.bind st fun V s₁ v H₁ hv x₁ ⟨f, e, hk, q⟩ => by
    subst e; cases hv
    exact callWith_in (firsts := []) ok hk hn x₁ .nil q)

/-! statements -/
theorem LocOk.store {m : Str → Option Value} {x : String} {v : AV} {V : Value} (lo : LocOk l m) (hv : v.ok V) : LocOk ((x, v) :: l.del x) (fun y => if y = Str.ofString x then some V else m y) := by
  have mem : ∀ {l : Loc} {p : String × AV}, p ∈ l.del x → p ∈ l ∧ p.1 ≠ x := by
    intro l
    induction l with
    | nil => intro p h; cases h
    | cons q r ih =>
      intro p h
      have h : p ∈ (if q.1 = x then Loc.del x r else q :: Loc.del x r) := h
      split at h
      · exact ⟨.tail _ (ih h).1, (ih h).2⟩
      · rename_i hq
        rcases List.mem_cons.mp h with rfl | h
        · exact ⟨.head _, hq⟩
        · exact ⟨.tail _ (ih h).1, (ih h).2⟩
  intro p hp
  rcases List.mem_cons.mp hp with rfl | hp
  · exact ⟨V, if_pos rfl, hv⟩
  · obtain ⟨h1, h2⟩ := mem hp
    obtain ⟨U, e, o⟩ := lo p h1
    exact ⟨U, by show (if Str.ofString p.1 = Str.ofString x then _ else _) = _; rw [if_neg fun e => h2 (ofString_inj e)]; exact e, o⟩
/-- a store into a frame's own name -/
theorem St.store {x : String} {v : AV} {V : Value} {ls : List (String × NameKind)} {P : Unit → Shared → Prop} (ok : c.Ok K lvl) (hc : c.comp = none) (hn : NamesOk c.env ls) (h1 : assoc x ls = some NameKind.local) (st : St w c l H s) (hv : v.ok V)
    (f : ∀ s', St w c ((x, v) :: l.del x) H s' → P () s') : wpAny (model pr w) c.A (storeName c.env (Str.ofString x) V) P FF s := by
  obtain ⟨m, news, e, F, N, hk, lc, ro⟩ := st
  have el := ok.el
  rw [hc] at el
  have lo : LocOk l m := by unfold CompOk at lc; rw [hc] at lc; exact lc
  refine wpAny_storeName_local (hn.kind _ (mem_of_assoc h1)) (by rw [el]; exact F.ns) (fun h' hns hs => f _ ?_) (by rw [ok.ek]; rfl)
  rw [el] at hns hs
  exact ⟨_, news, by rw [e], F.set hns hs, N.set hs, hk, by unfold CompOk; rw [hc]; exact lo.store hv, ro⟩
section stmts
variable {x : String} {v : AV} {ls : List (String × NameKind)} {p p' : Pos} {e : PySem.Expr} {N : Loc → AH → Prop} {R : AV → AH → Prop}
theorem Ex.assign (ok : c.Ok K lvl) (hc : c.comp = none) (hn : NamesOk c.env ls) (h1 : assoc x ls = some NameKind.local) (h : Ev w c e l H fun v H₁ => N ((x, v) :: l.del x) H₁)
    (hs : swapsWith e (some (.Name (Str.ofString x) p')) p.line c.env = pure false := by rfl) : Ex w c (.Assign [.Name (Str.ofString x) p'] e p) l H N R := fun s st =>
  wpAny_Assign_Name (h.bind st fun V s₁ v H₁ hv x₁ q => St.store ok hc hn h1 x₁ hv fun s' x' => ⟨_, H₁, x', q⟩) hs
theorem Ex.assign_cell {a : Addr} {v₀ : Option AV} (ok : c.Ok K lvl) (hn : NamesOk c.env ls) (h1 : assoc x ls = some NameKind.cell) (hcl : c.env.cells.lookup (Str.ofString x) = some a)
    (h : Ev w c e l H fun v H₁ => ∃ v₀, H₁ a = some (.cell v₀) ∧ N l (H₁.set a (.cell (some v))))
    (hs : swapsWith e (some (.Name (Str.ofString x) p')) p.line c.env = pure false := by rfl) : Ex w c (.Assign [.Name (Str.ofString x) p'] e p) l H N R := fun s st =>
  wpAny_Assign_Name (h.bind st fun V s₁ v H₁ hv x₁ ⟨v₀, ha, q⟩ => by
    obtain ⟨o, ho, d⟩ := x₁.get ha
    have hd : ∃ V₀, s₁.heap.IsCell a V₀ := by
      rcases d with ⟨d, _⟩ | ⟨_, V, _, d, _⟩
      · exact ⟨_, o, ho, d⟩
      · exact ⟨_, o, ho, d⟩
    obtain ⟨V₀, hd⟩ := hd
    refine wpAny_storeName_cell ok.ek (hn.kind _ (mem_of_assoc h1)) hcl hd fun h' hc' hs' => ?_
    obtain ⟨o', ho', hd'⟩ := hc'
    exact ⟨l, _, x₁.update ha hs' ho' (show AO.ok w (.cell (some v)) o' from Or.inr ⟨v, V, rfl, hd', hv⟩) _, q⟩) hs
theorem Ex.aug {i : Int} (ok : c.Ok K lvl) (hc : c.comp = none) (hn : NamesOk c.env ls) (h1 : assoc x ls = some NameKind.local) (h2 : assoc x l = some (.int i))
    (h : Ev w c e l H fun v H₁ => IntP v fun j => N ((x, .int (i + j)) :: l.del x) H₁) : Ex w c (.AugAssign (.Name (Str.ofString x) p') .Add e p) l H N R := fun s st => by
  obtain ⟨m, ns, lo⟩ := st.ns ok
  obtain ⟨V, hV, t, rfl⟩ := lo _ (mem_of_assoc h2)
  refine wpAny_AugAssign_Name (wpAny_loadName_local ok.ek (hn.kind _ (mem_of_assoc h1)) ns hV (h.bind st fun U s₁ u H₁ hu x₁ ⟨j, e, q⟩ => ?_))
  subst e
  obtain ⟨t', rfl⟩ := hu
  exact iadd_int (St.store (v := .int (i + j)) ok hc hn h1 (x₁.toks _) ⟨_, rfl⟩ fun s' x' => ⟨_, H₁, x', q⟩)
theorem Ex.ifs {t : PySem.Expr} {a b : List Stmt} (h : Tr w c t l H fun v H₁ => (v = true → Exs w c a l H₁ N R) ∧ (v = false → Exs w c b l H₁ N R)) : Ex w c (.If t a b p) l H N R := fun s st =>
  wpAny_If (h.bind st fun v s₁ H₁ x₁ q => by
    cases v with
    | true => rw [if_pos rfl]; exact q.1 rfl s₁ x₁
    | false => rw [if_neg Bool.false_ne_true]; exact q.2 rfl s₁ x₁)
theorem Ex.ret (h : Ev w c e l H R) : Ex w c (.Return (some e) p) l H N R := fun s st =>
  wpAny_Return_some (h.bind st fun V s₁ v H₁ hv x₁ q => ⟨v, l, H₁, hv, x₁, q⟩)
theorem Ex.expr (h : Ev w c e l H fun v H₁ => (match v with | .ref _ => False | .raw _ => False | _ => True) ∧ N l H₁) (hi : interactive c.env = false) (hs : swapsWith e none p.line c.env = pure false := by rfl) : Ex w c (.Expr e p) l H N R := fun s st =>
  wpAny_Expr (h.bind st fun V s₁ v H₁ hv x₁ ⟨g, q⟩ => by
    have fin : Fl w c N R Flow.next s₁ := ⟨l, H₁, x₁, q⟩
    cases v with
    | none => cases hv; exact fin
    | bool b => cases hv; exact fin
    | int i => obtain ⟨t, rfl⟩ := hv; exact fin
    | ref a => exact g.elim
    | raw a => exact g.elim) hi hs
theorem inter (ok : c.Ok K lvl) : interactive c.env = false := by
  unfold interactive
  rw [ok.ek]
  rfl
inductive SetP (K : Frag) (x : String) (v u : AV) (l : Loc) (H : AH) (N : Loc → AH → Prop) : Prop
  | mk (a C d : Addr) (fs : List (String × AV)) (e : u = .ref a) (h1 : H a = some (.inst C d)) (h2 : H d = some (.attrs fs)) (k : SetOk K C x) (hl : fs.length ≤ 900) (q : N l (H.set d (.attrs (putF x v fs))))
theorem Ex.setattr {o : PySem.Expr} (ok : c.Ok K lvl)
    (h : Ev w c e l H fun v H₁ => Ev w c o l H₁ fun u H₂ => SetP K x v u l H₂ N)
    (hs : swapsWith e (some (.Attribute o (Str.ofString x) p')) p.line c.env = pure false := by rfl) : Ex w c (.Assign [.Attribute o (Str.ofString x) p'] e p) l H N R := fun s st =>
  plainObj_wpAny_Assign_Attribute (h.bind st fun V s₁ v H₁ hv x₁ h₁ => h₁.bind x₁ fun U s₂ u H₂ hu x₂ ⟨a, C, d, fs, e, ha, hd, hk, hl, q⟩ => by
    subst e; cases hu
    obtain ⟨es, n, I, he⟩ := x₂.inst ha hd
    obtain ⟨m, news, b⟩ := id x₂
    obtain ⟨xo, hx, hxo⟩ := b.hk d _ hd
    have exo : xo = dictOf es n := by
      have h1 := (b.nw _ hx).1
      rw [I.dict] at h1
      exact (Option.some.inj h1).symm
    subst exo
    have N' : News c.h₀ c.L s₂.heap ([] ++ (d, dictOf es n) :: news.filter (fun p => p.1 ≠ d)) := by
      intro p hp
      rcases List.mem_cons.mp hp with rfl | hp
      · exact b.nw _ hx
      · exact b.nw _ (List.mem_filter.mp hp).1
    refine set_plain (ok.kin.keeps b.fr.keep) I hk.find (osa_dict (s := { s₂ with toks := s₂.toks + 1 }) b.fr N' (ok.kin.keeps b.fr.keep) I rfl hk.plain hk.taker hk.dict (he.some _) (by simp) (by simp) (putName_dict _ _ _ _ _ _) rfl ?_ fun h' F' N'' => ?_)
    · rw [(he.put (x := x) hv _).length]
      have := putF_length x v fs
      lia
    · refine ⟨l, _, ⟨m, _, by rw [b.same], F', N'', ?_, ?_, fun p hp => ?_⟩, q⟩
      · intro b' o' h
        unfold AH.set at h
        split at h
        · rename_i e; cases h; exact ⟨_, by rw [e]; exact List.Mem.head _, _, _, rfl, he.put hv _⟩
        · rename_i e
          obtain ⟨y, hy, r⟩ := b.hk b' o' h
          exact ⟨y, List.Mem.tail _ (List.mem_filter.mpr ⟨hy, by simpa using e⟩), r⟩
      · have key : ∀ D mF, c.comp = some (D, mF) → H₂ D = none ∧ D ≠ d := fun D mF hc => by
          have lc' := b.lc
          unfold CompOk at lc'
          rw [hc] at lc'
          exact ⟨lc'.2.1, fun q => by rw [← q, lc'.2.1] at hd; cases hd⟩
        refine b.lc.mono (fun D mF hc => ?_) fun D mF od hc h => ?_
        · obtain ⟨b, ne⟩ := key D mF hc
          rw [AH.set_ne ne, b]
        · obtain ⟨_, ne⟩ := key D mF hc
          exact List.Mem.tail _ (List.mem_filter.mpr ⟨h, by simpa using ne⟩)
      · obtain ⟨r1, r2⟩ := b.ro p hp
        have ne : p.1 ≠ d := fun q => by rw [q, hd] at r2; cases r2
        exact ⟨List.Mem.tail _ (List.mem_filter.mpr ⟨r1, by simpa using ne⟩), by rw [AH.set_ne ne]; exact r2⟩) hs
end stmts
end

section
variable {w : World} {K : Frag} {c : Cx} {l l' : Loc} {H H' : AH} {s s' : Shared} {lvl : Nat}

section
variable {prog : Program} {A₀ A : Around} {base h₀ : Heap} {outer : List Env} {L : Addr} {m : Str → Option Value} {env : Env} {news : List (Addr × Obj)}
  {R : Result → Shared → Prop} {name qual : Str} {params : Arguments} {body : List Stmt} {scope : Scope} {cl : List (Str × Addr)} {dV kV doc pm cdv ct : Value} {an : Option Addr} {fo : Obj} {f : Addr} {args : Args} {binds : List (Str × Value)}
theorem enterX (B : Below A₀ base outer h₀) (F : Fr h₀ L s.heap m) (N : News h₀ L s.heap news) (hlim : h₀.NoLimit) (hA : A.frames = some (env :: outer)) (hf : env.frame = some L) (hke : env.scope.kind = .function)
    (ho : s.heap.get? f = some fo) (hd : fo.data = .func (fnX name qual params body scope cl dV kV doc pm an cdv ct)) (hcd : s.heap.CodeRec cdv qual) (hroom : A.depth < recursionLimit)
    (hbind : BindsTo s (fnX name qual params body scope cl dV kV doc pm an cdv ct) args binds) (hloc : ∀ y ∈ binds, scope.names.lookup y.1 = some .local)
    (h : ∀ g L' h₁, Fr h₀ L g m → Fr g L' h₁ (fun y => binds.reverse.lookup y) → News g L' h₁ news → Below A base (env :: outer) g → h₀.StaysIn g → (∀ b o, s.heap.get? b = some o → b ∉ news.map (·.1) → g.get? b = some o) →
      wpAny (model prog w) (A.deeper (envX qual scope L' f cdv cl)) (execs body (envX qual scope L' f cdv cl))
        (fun fl s' => LeaveK h₀ L m g R (match fl with | .ret v => v | _ => .none) s')
        (fun e s' => wpAny (model prog w) (A.deeper (envX qual scope L' f cdv cl)) (leaving (envX qual scope L' f cdv cl) e) (fun _ s'' => R (.error e) s'') (fun e' s'' => R (.error e') s'') s')
        { s with heap := h₁, toks := s.toks + binds.length })
    (hcell : ∀ x ∈ scope.names, x.2 ≠ .cell) (hco : scope.isCoroutine = false := by rfl) (hgen : scope.isGenerator = false := by rfl) (hk : scope.kind = .function := by rfl) : codeAny (model prog w) A (.call (.ref f) args) R s := by
  obtain ⟨FG, BG, st, lv⟩ := groundX (R := R) B F N hA hf hke
  refine codeAny_call_def (fd := fnX name qual params body scope cl dV kV doc pm an cdv ct) (body := body) (binds := binds) hroom ho hd (hlim.keeps F.keep) hcd rfl hbind hcell hloc (fun h₁ hns hk₁ => ?_) hco hgen hk
  exact wpAny_mono (h _ s.heap.objs.size h₁ FG ⟨hns, fun b o e => hk₁ b o (of_hideAll _ e), Nat.le_of_eq (hideAll_size _ _)⟩
    (fun p hp => ⟨hk₁ _ _ (N p hp).1, Nat.ne_of_lt (Heap.lt_size (N p hp).1), hideAll_none _ (List.mem_map_of_mem hp)⟩) BG st (fun b o e n => hideAll_get _ e n)) (fun fl s' hl => lv _ _ hl) fun _ _ y => y
end

theorem Oks.length {vs : List AV} {Vs : List Value} (h : Oks vs Vs) : Vs.length = vs.length := by
  induction h with
  | nil => rfl
  | cons _ _ ih => simp [ih]
theorem lookup_zip_none {y : Str} : ∀ {names : List String} {Vs : List Value}, (∀ x ∈ names, Str.ofString x ≠ y) → ((names.map Str.ofString).zip Vs).reverse.lookup y = none := by
  intro names Vs h
  rw [List.lookup_eq_none_iff]
  intro p hp
  rw [List.mem_reverse] at hp
  have h1 : p.1 ∈ names.map Str.ofString := (List.of_mem_zip (a := p.1) (b := p.2) hp).1
  obtain ⟨x, hx, e⟩ := List.mem_map.mp h1
  rw [← e]
  exact bne_iff_ne.mpr fun q => h x hx q.symm
theorem LocOk.params : ∀ {names : List String} {args : List AV} {Vs : List Value}, names.Nodup → Oks args Vs → LocOk (names.zip args) (fun y => ((names.map Str.ofString).zip Vs).reverse.lookup y) := by
  intro names
  induction names with
  | nil => intro args Vs _ _ p hp; simp at hp
  | cons x r ih =>
    intro args Vs hn ho
    cases ho with
    | nil => intro p hp; simp at hp
    | @cons v V vs Vs' hv hr =>
      have hx : x ∉ r := (List.nodup_cons.mp hn).1
      intro p hp
      simp only [List.zip_cons_cons] at hp
      show ∃ U, ((Str.ofString x, V) :: (r.map Str.ofString).zip Vs').reverse.lookup _ = _ ∧ _
      rw [List.reverse_cons, List.lookup_append]
      rcases List.mem_cons.mp hp with rfl | hp
      · refine ⟨V, ?_, hv⟩
        rw [lookup_zip_none fun y hy e => hx (by have q : y = x := ofString_inj e; rw [← q]; exact hy)]
        show (List.lookup (Str.ofString x) [(Str.ofString x, V)]) = some V
        rw [List.lookup_cons]
        rw [beq_self_eq_true]
      · obtain ⟨U, e, o⟩ := ih (List.nodup_cons.mp hn).2 hr p hp
        refine ⟨U, ?_, o⟩
        show Option.or (List.lookup (Str.ofString p.1) ((r.map Str.ofString).zip Vs').reverse) _ = _
        have e' : List.lookup (Str.ofString p.1) ((r.map Str.ofString).zip Vs').reverse = some U := e
        rw [e']; rfl

/-- the same of the code alone, for the makers of instances -/
noncomputable def CallC (w : World) (K : Frag) (lvl : Nat) (f : Value) (args : List AV) (H : AH) (Q : AV → AH → Prop) : Prop :=
  ∀ (c : Cx) (l : Loc) (s : Shared) (Vs : List Value), c.Ok K lvl → St w c l H s → Oks args Vs →
    codeAny (model pr w) c.A (.call f ⟨Vs, []⟩) (fun r s' => match r with | .ok (.ret V) => ∃ v H', v.ok V ∧ St w c l H' s' ∧ Q v H' | .ok _ => False | .error e => FF e s') s
theorem CallC.call {f : Value} {args : List AV} {Q : AV → AH → Prop} (h : CallC w K lvl f args H Q) : Call w K lvl f args H Q := fun c l s Vs ok st hV => wpAny_call (h c l s Vs ok st hV)

/-- a call of a def of the module's, or of a method's def: its body, in a frame of its own -/
theorem Call.enterCode {f : Addr} {oc : Value} {od : Option Addr} {osl : Array (Option Value)} {name qual : Str} {params : Arguments} {body : List Stmt} {scope : Scope} {cl : List (Str × Addr)} {pm doc cdv ct : Value} {names : List String} {args : List AV} {Q : AV → AH → Prop}
    (ho : K.lookup f = some ⟨oc, od, .func (fnX name qual params body scope cl .none .none doc pm none cdv ct), osl⟩) (hcd : codeIn K cdv qual = true)
    (hk : scope.kind = .function) (hco : scope.isCoroutine = false) (hgen : scope.isGenerator = false) (hcell : ∀ x ∈ scope.names, x.2 ≠ .cell)
    (hb : ∀ Vs, Vs.length = args.length → bindArgs (fnX name qual params body scope cl .none .none doc pm none cdv ct) ⟨Vs, []⟩ = pure ((names.map Str.ofString).zip Vs))
    (hnd : names.Nodup) (hloc : ∀ x ∈ names, scope.names.lookup (Str.ofString x) = some .local)
    (h : ∀ c : Cx, c.Ok K lvl → c.comp = none → c.env.scope = scope → c.env.cells = cl → Exs w c body (names.zip args) H (fun _ H' => Q .none H') Q) : CallC w K (lvl + 1) (.ref f) args H Q := by
  intro c l s Vs ok st hV
  obtain ⟨m, news, b⟩ := st
  -- what the callee may turn: all of the ledger but a comprehension's own names
  let news' : List (Addr × Obj) := news.filter fun p => (H p.1).isSome
  have hsub : ∀ p ∈ news', p ∈ news := fun p hp => (List.mem_filter.mp hp).1
  have N' : News c.h₀ c.L s.heap news' := fun p hp => b.nw p (hsub p hp)
  have hk' : HOk w H news' := by
    intro a o ha
    obtain ⟨x, hx, r⟩ := b.hk a o ha
    exact ⟨x, List.mem_filter.mpr ⟨hx, by simp [ha]⟩, r⟩
  have out : ∀ a, H a = none → a ∉ news'.map (·.1) := fun a ha h => by
    obtain ⟨p, hp, rfl⟩ := List.mem_map.mp h
    have := (List.mem_filter.mp hp).2
    rw [ha] at this; cases this
  refine enterX (binds := (names.map Str.ofString).zip Vs) ok.below b.fr N' ok.gb.nolimit ok.frames ok.ff ok.fk (ok.kin.keeps b.fr.keep _ _ ho) rfl (codeRec_of (ok.kin.keeps b.fr.keep) hcd) ?_ (BindsTo.of_eq (hb Vs hV.length)) ?_ ?_ hcell hco hgen hk
  · have := ok.room; have : recursionLimit = 1000 := rfl; lia
  · intro y hy
    obtain ⟨x, hx, e⟩ := List.mem_map.mp (List.of_mem_zip (a := y.1) (b := y.2) hy).1
    rw [← e]; exact hloc x hx
  intro g L' h₁ FG F' N₁ B' stays gk
  let env' : Env := envX qual scope L' f cdv cl
  let c' : Cx := { A₀ := c.A, A := c.A.deeper env', base := c.base, outer := c.fenv :: c.outer, fenv := env', env := env', h₀ := g, s₀ := c.s₀, mg := c.mg, mb := c.mb, comp := none, ro := [] }
  have ok' : c'.Ok K lvl := by
    refine ⟨ok.hh, ?_, rfl, hk, B', ok.kin.keeps stays, ok.gb.keeps stays, ?_, ?_, hk, rfl, rfl, rfl⟩
    · show (c.A.frames.map (env' :: ·)) = _
      rw [ok.frames]; rfl
    · have := ok.room; show c.A.depth + 1 + 2 * lvl ≤ 400; lia
    · have := ok.units; show c.A.units + 3 + 20 * lvl ≤ 4000; lia
  have st' : St w c' (names.zip args) H { s with heap := h₁, toks := s.toks + ((names.map Str.ofString).zip Vs).length } :=
    ⟨_, news', by show (_ : Shared) = _; rw [b.same], F', N₁, hk', LocOk.params hnd hV, fun _ h => nomatch h⟩
  have fin : ∀ {v : AV} {V : Value} {l' : Loc} {H' : AH} {s' : Shared}, v.ok V → St w c' l' H' s' → Q v H' →
      LeaveK c.h₀ c.L m g (fun r s' => match r with | .ok (.ret V) => ∃ v H', v.ok V ∧ St w c l H' s' ∧ Q v H' | .ok _ => False | .error e => FF e s') V s' := by
    intro v V l' H' s' hv ⟨m₂, news₂, b₂⟩ q
    refine ⟨L', m₂, news₂, b₂.fr, b₂.nw, fun F₃ N₃ => ⟨v, H', hv, ?_, q⟩⟩
    have stay : ∀ a o, (a, o) ∈ news → H a = none → s'.heap.get? a = some o ∧ H' a = none := fun a o hm ha => by
      have hg : g.get? a = some o := gk _ _ (b.nw _ hm).1 (out a ha)
      refine ⟨b₂.fr.keep _ _ hg, ?_⟩
      cases q' : H' a with
      | none => rfl
      | some o' =>
        obtain ⟨x, hx, _⟩ := b₂.hk a o' q'
        have h0 : g.get? a = none := (b₂.nw _ hx).2.2
        rw [hg] at h0; cases h0
    let more : List (Addr × Obj) := news.filter fun p => (H p.1).isNone
    have hm : ∀ p ∈ more, p ∈ news ∧ H p.1 = none := fun p hp => ⟨(List.mem_filter.mp hp).1, by simpa using (List.mem_filter.mp hp).2⟩
    have hm' : ∀ a o, (a, o) ∈ news → H a = none → (a, o) ∈ more := fun a o h1 h2 => List.mem_filter.mpr ⟨h1, by simp [h2]⟩
    have N₄ : News c.h₀ c.L s'.heap (more ++ news₂) := fun p hp => by
      rcases List.mem_append.mp hp with hp | hp
      · exact ⟨(stay p.1 p.2 (hm p hp).1 (hm p hp).2).1, (b.nw p (hm p hp).1).2⟩
      · exact N₃ p hp
    refine ⟨m, more ++ news₂, b₂.same, F₃, N₄, fun a o ha => ?_, ?_, fun p hp => ?_⟩
    · obtain ⟨x, hx, r⟩ := b₂.hk a o ha
      exact ⟨x, List.mem_append_right _ hx, r⟩
    · have lc := b.lc
      unfold CompOk at lc ⊢
      cases hc : c.comp with
      | none => rw [hc] at lc; exact lc
      | some q =>
        obtain ⟨D, mF⟩ := q
        rw [hc] at lc
        obtain ⟨e1, e2, od, es, ep, g1, d, k, r⟩ := lc
        exact ⟨e1, (stay D od g1 e2).2, od, es, ep, List.mem_append_left _ (hm' _ _ g1 e2), d, k, r⟩
    · obtain ⟨r1, r2⟩ := b.ro p hp
      exact ⟨List.mem_append_left _ (hm' p.1 p.2 r1 r2), (stay p.1 p.2 r1 r2).2⟩
  refine wpAny_mono (h c' ok' rfl rfl rfl _ st') (fun fl s' hf => ?_) fun _ _ e => e.elim
  cases fl with
  | next => obtain ⟨l', H', a, q⟩ := hf; exact fin (v := .none) rfl a q
  | ret V => obtain ⟨v, l', H', hv, a, q⟩ := hf; exact fin hv a q
  | brk => exact hf.elim
  | cont => exact hf.elim

/-- a while, by a word and a measure -/
theorem Ex.while2 {t : PySem.Expr} {body : List Stmt} {p : Pos} {N : Loc → AH → Prop} {R : AV → AH → Prop} (I : Nat → Loc → AH → Prop) (h0 : ∃ n, I n l H)
    (turn : ∀ NN n l H, (∀ {l' H'} m l'', m < n → Loc.sub l'' l' → I m l'' H' → NN l' H') → I n l H → Tr w c t l H fun b H₁ => (b = true → Exs w c body l H₁ NN R) ∧ (b = false → N l H₁)) : Ex w c (.While t body [] p) l H N R := by
  intro s st
  obtain ⟨n, h0⟩ := h0
  refine wpAny_While (codeAny_loop' rfl (fun n s => ∃ l H, St w c l H s ∧ I n l H) (fun n s ⟨l, H, st, hI⟩ => ?_) n ⟨l, H, st, h0⟩)
  show wpAny _ c.A ((whileTurn t body [] c.env).onRaise (fun x => do noteFrame x c.env; theTreesLotGoes x)) _ _ s
  refine wpAny_noted ?_
  simp only [whileTurn]
  refine wpAny_bind (wpAny_mono ((turn (fun l' H' => ∃ m l'', m < n ∧ Loc.sub l'' l' ∧ I m l'' H') n l H (fun m l'' a b d => ⟨m, l'', a, b, d⟩) hI).bind st fun b s₂ H₁ x₁ q => ?_) (fun _ _ q => q) (fun _ _ e => e.elim) : wpAny _ _ _ _ _ _)
  cases b with
  | false =>
    simp only [Bool.false_eq_true, if_false]
    exact wpAny_bind (wpAny_execs_nil (wpAny_pure ⟨l, H₁, x₁, q.2 rfl⟩))
  | true =>
    simp only [if_true]
    refine wpAny_bind (wpAny_mono (q.1 rfl s₂ x₁) (fun f s₃ h₄ => ?_) (fun _ _ e => e.elim))
    cases f with
    | next => obtain ⟨l', H', a, m, l'', hm, hs, hI'⟩ := h₄; exact wpAny_pure (.inl ⟨rfl, m, hm, l'', H', a.weaken hs.mem (fun _ _ e => e), hI'⟩)
    | cont => exact h₄.elim
    | brk => exact h₄.elim
    | ret v => exact wpAny_pure h₄
end

section
variable {w : World} {K : Frag} {c : Cx} {l l' : Loc} {H H' : AH} {s s' : Shared} {lvl : Nat}

theorem St.off (x : St w c l H s) {a : Addr} {ao : AO} (ha : H a = some ao) : a ≠ c.L ∧ c.h₀.get? a = none := by
  obtain ⟨m, news, b⟩ := x
  obtain ⟨xo, hx, _⟩ := b.hk a _ ha
  exact (b.nw _ hx).2
theorem St.notMods (ok : c.Ok K lvl) (x : St w c l H s) {a : Addr} {ao : AO} (ha : H a = some ao) : (a == sysModules) = false := by
  obtain ⟨o, ho⟩ := ok.gb.mods
  have h := (x.off ha).2
  by_cases e : a = sysModules
  · rw [e, ho] at h; cases h
  · simpa using e
theorem starEach1 {e : PySem.Expr} {env : Env} {p : Pos} (h : noStar [e] = true) : backTo p (starEach [e] env) = [(false, eval e env)] := by
  rw [(starEach_cons (env := env) h).1]; rfl
theorem starEach2 {e f : PySem.Expr} {env : Env} {p : Pos} (h : noStar [e, f] = true) : backTo p (starEach [e, f] env) = [(false, eval e env), (false, eval f env)] := by
  rw [(starEach_cons (env := env) h).1, (starEach_cons (env := env) (starEach_cons (env := env) h).2).1]; rfl

theorem St.words (x : St w c l H s) {a : Addr} {M : Int → Int} (ha : H a = some (.words M)) : ∃ KV, s.heap.DictOf (intKind pr w) a KV ∧ (∀ p ∈ KV, 0 ≤ p.1 ∧ p.1 < 1024 ∧ ∃ t, p.2 = .int (M p.1) t) ∧ (∀ k, k ∉ KV.map (·.1) → M k = 0) := by
  obtain ⟨o, ho, KV, hd, r⟩ := x.get ha
  exact ⟨KV, Heap.dictOf_iff.mpr ⟨o, ho, hd⟩, r.1, r.2.1⟩
theorem St.rng (x : St w c l H s) {a : Addr} {M : Int → Int} (ha : H a = some (.words M)) : ∀ k, 0 ≤ M k ∧ M k < 4294967296 := by
  obtain ⟨o, ho, KV, hd, r⟩ := x.get ha
  exact r.2.2
/-- what words can be -/
theorem Exs.rng {sts : List Stmt} {N : Loc → AH → Prop} {R : AV → AH → Prop} {a : Addr} {M : Int → Int} (ha : H a = some (.words M)) (h : (∀ k, 0 ≤ M k ∧ M k < 4294967296) → Exs w c sts l H N R) : Exs w c sts l H N R := fun s x => h (x.rng ha) s x
theorem valueAt_words {KV : List (Int × Value)} {M : Int → Int} (h1 : ∀ p ∈ KV, 0 ≤ p.1 ∧ p.1 < 1024 ∧ ∃ t, p.2 = .int (M p.1) t) (h2 : ∀ k, k ∉ KV.map (·.1) → M k = 0) (k : Int) {t₀ : Tok} :
    ∃ t, (valueAt KV k).getD (.int 0 t₀) = .int (M k) t := by
  unfold valueAt
  cases hf : KV.find? (fun kv => kv.1 = k) with
  | none =>
    refine ⟨t₀, ?_⟩
    rw [h2 k]
    · rfl
    · intro hm
      obtain ⟨p, hp, e⟩ := List.mem_map.mp hm
      exact absurd (List.find?_eq_none.mp hf p hp) (by simp [e])
  | some p =>
    have hp := List.mem_of_find?_eq_some hf
    have he : p.1 = k := by simpa using List.find?_some hf
    obtain ⟨_, _, t, e⟩ := h1 p hp
    exact ⟨t, by rw [← he]; exact e⟩
/-- d.get(k, 0) -/
theorem Ev.dget {o a b : PySem.Expr} {ap p : Pos} {Q : AV → AH → Prop} (ok : c.Ok K lvl)
    (h : Ev w c o l H fun v H₁ => ∃ d M₀, v = .ref d ∧ H₁ d = some (.words M₀) ∧ Ev w c a l H₁ fun u H₂ => ∃ k, u = .int k ∧ Ev w c b l H₂ fun z H₃ => z = .int 0 ∧ ∃ M, H₃ d = some (.words M) ∧ Q (.int (M k)) H₃)
    (hn : noStar [a, b] = true := by rfl)
    (he : eval (.Call (.Attribute o "get" ap) [a, b] [] p) c.env = (do
      let ov ← eval o c.env
      standAt ap.atName
      let (f, first) ← holding [ov] (getMethod ov "get" (do return (← importBound o c.env).getD true))
      callWith p f first (backTo p (starEach [a, b] c.env)) (backToKw p (keywordEach [] c.env))) := by rfl) : Ev w c (.Call (.Attribute o "get" ap) [a, b] [] p) l H Q := fun s st =>
  methodCall_KW (h.bind st fun V s₁ v H₁ hv x₁ ⟨d, M₀, e, hd, q⟩ => by
    subst e; cases hv
    obtain ⟨KV, hKV, _, _⟩ := x₁.words hd
    refine getMethod_builtin hKV.typeIs F.plainAttrs_dict F.slot_dict_get F.type_dict_get (fun a e => by cases e; exact hKV.mapOf.noDict _ rfl) ?_
    rw [starEach2 hn]
    refine wpAny_dict_get2 (knd := intKind pr w) (x₁.notMods ok hd) (q.bind x₁ fun U s₂ u H₂ hu x₂ ⟨k, e, q₂⟩ => q₂.bind x₂ fun Z s₃ z H₃ hz x₃ ⟨e', M, hM, q₃⟩ => ?_)
    subst e; subst e'
    obtain ⟨t, rfl⟩ := hu
    obtain ⟨t', rfl⟩ := hz
    obtain ⟨KV', hKV', h1, h2⟩ := x₃.words hM
    obtain ⟨t'', ht⟩ := valueAt_words h1 h2 k (t₀ := t')
    refine ⟨k, valueAt KV', intKind_is _ _ _ _, hKV'.mapOf, ?_⟩
    rw [ht]
    exact ⟨.int (M k), H₃, ⟨_, rfl⟩, x₃.toks _, q₃⟩) he
noncomputable def setM (M : Int → Int) (k v : Int) : Int → Int := fun j => if j = k then v else M j
theorem stored_keys (kvs : List (Int × Value)) (k : Int) (v : Value) : (stored kvs k v).map (·.1) = if k ∈ kvs.map (·.1) then kvs.map (·.1) else kvs.map (·.1) ++ [k] := by
  unfold stored
  by_cases h : kvs.any (fun kv => kv.1 = k)
  · rw [if_pos h, if_pos]
    · rw [List.map_map]
      apply List.map_congr_left
      intro p _
      show (if p.1 = k then (p.1, v) else p).1 = p.1
      split <;> rfl
    · obtain ⟨p, hp, e⟩ := List.any_eq_true.mp h
      exact List.mem_map.mpr ⟨p, hp, by simpa using e⟩
  · rw [if_neg h, if_neg]
    · simp
    · intro hm
      obtain ⟨p, hp, e⟩ := List.mem_map.mp hm
      exact h (List.any_eq_true.mpr ⟨p, hp, by simpa using e⟩)
theorem stored_mem {kvs : List (Int × Value)} {k : Int} {v : Value} {p : Int × Value} (h : p ∈ stored kvs k v) : (p.1 = k ∧ p.2 = v) ∨ (p.1 ≠ k ∧ p ∈ kvs) := by
  unfold stored at h
  split at h
  · obtain ⟨q, hq, e⟩ := List.mem_map.mp h
    by_cases hk : q.1 = k
    · rw [if_pos hk] at e; subst e; exact .inl ⟨hk, rfl⟩
    · rw [if_neg hk] at e; subst e; exact .inr ⟨hk, hq⟩
  · rename_i hn
    rcases List.mem_append.mp h with h | h
    · by_cases hk : p.1 = k
      · exact absurd (List.any_eq_true.mpr ⟨p, h, by simpa using hk⟩) hn
      · exact .inr ⟨hk, h⟩
    · simp at h; subst h; exact .inl ⟨rfl, rfl⟩
theorem keys_le : ∀ (n : Nat) (ks : List Int), ks.Nodup → (∀ k ∈ ks, 0 ≤ k ∧ k < n) → ks.length ≤ n
  | 0, ks, _, h => by
    cases ks with
    | nil => exact Nat.le_refl _
    | cons k r => have := h k (List.mem_cons_self ..); lia
  | n + 1, ks, hn, h => by
    have h1 : (ks.erase (n : Int)).length ≤ n := by
      refine keys_le n _ (hn.erase _) fun k hk => ?_
      have hm := List.mem_of_mem_erase hk
      have := h k hm
      have ne : k ≠ (n : Int) := fun e => by
        subst e
        exact (List.Nodup.not_mem_erase hn) hk
      lia
    have h2 := List.length_erase (a := (n : Int)) (l := ks)
    split at h2 <;> lia
/-- a store into the words -/
theorem Ex.setwords {o i e : PySem.Expr} {p p' : Pos} {N : Loc → AH → Prop} {R : AV → AH → Prop}
    (h : Ev w c e l H fun v H₁ => ∃ x, v = .int x ∧ (0 ≤ x ∧ x < 4294967296) ∧ Ev w c o l H₁ fun u H₂ => ∃ d, u = .ref d ∧ Ev w c i l H₂ fun z H₃ => ∃ k M, z = .int k ∧ 0 ≤ k ∧ k < 1024 ∧ H₃ d = some (.words M) ∧ N l (H₃.set d (.words (setM M k x))))
    (hs : swapsWith e (some (.Subscript o i p')) p.line c.env = pure false := by rfl) : Ex w c (.Assign [.Subscript o i p'] e p) l H N R := fun s st =>
  wpAny_Assign_Subscript (h.bind st fun V s₁ v H₁ hv x₁ ⟨x, e, xr, q⟩ => q.bind x₁ fun U s₂ u H₂ hu x₂ ⟨d, e₂, q₂⟩ => q₂.bind x₂ fun Z s₃ z H₃ hz x₃ ⟨k, M, e₃, k0, k1, hd, q₃⟩ => by
    subst e; subst e₂; subst e₃
    obtain ⟨t, rfl⟩ := hv
    cases hu
    obtain ⟨t', rfl⟩ := hz
    obtain ⟨KV, hKV, h1, h2⟩ := x₃.words hd
    have h3 := x₃.rng hd
    have nd : (KV.map (·.1)).Nodup := by obtain ⟨_, _, _, _, _, _, _, _, r⟩ := hKV; exact r
    have len : KV.length ≤ 1024 := by
      have := keys_le 1024 (KV.map (·.1)) nd fun k hk => by
        obtain ⟨p, hp, e⟩ := List.mem_map.mp hk
        have := h1 p hp
        subst e
        exact ⟨this.1, by have := this.2.1; lia⟩
      simpa using this
    refine wpAny_setItem_pairs (knd := intKind pr w) (intKind_is _ _ _ _) hKV (fun h' hd' hs' => ?_) (by have : sizeLine = 2 ^ 24 := rfl; lia)
    obtain ⟨o', ho', hdo⟩ := Heap.dictOf_iff.mp hd'
    refine ⟨l, _, x₃.update (ao' := .words (setM M k x)) hd hs' ho' ⟨_, hdo, fun p hp => ?_, fun j hj => ?_, fun j => ?_⟩ _, q₃⟩
    · rcases stored_mem hp with ⟨e1, e2⟩ | ⟨e1, hp⟩
      · rw [e1, e2]; exact ⟨k0, k1, t, by unfold setM; rw [if_pos rfl]⟩
      · have := h1 p hp
        refine ⟨this.1, this.2.1, ?_⟩
        unfold setM
        rw [if_neg e1]; exact this.2.2
    · rw [stored_keys] at hj
      unfold setM
      split at hj
      · rename_i hk
        rw [if_neg fun e : j = k => hj (e ▸ hk)]; exact h2 j hj
      · simp only [List.mem_append, List.mem_singleton, not_or] at hj
        rw [if_neg hj.2]; exact h2 j hj.1
    · unfold setM
      split
      · exact xr
      · exact h3 j) hs
end

section
variable {w : World} {K : Frag} {c : Cx} {l l' : Loc} {H H' : AH} {s s' : Shared} {lvl : Nat}

/-- a frame of a def's: its scope and its cells -/
structure Fn (K : Frag) (lvl : Nat) (sc : Scope) (cl : List (Str × Addr)) (c : Cx) : Prop where
  ok : c.Ok K lvl
  comp : c.comp = none
  scope : c.env.scope = sc
  cells : c.env.cells = cl
theorem Cx.Ok.ro (ok : c.Ok K lvl) (r : List (Addr × Obj)) : ((c.withRo (r)) : Cx).Ok K lvl :=
  ⟨ok.hh, ok.frames, ok.ff, ok.fk, ok.below, ok.kin, ok.gb, ok.room, ok.units, ok.ek, ok.eg, ok.eb, ok.el⟩
theorem Fn.ro {sc : Scope} {cl : List (Str × Addr)} (f : Fn K lvl sc cl c) (r : List (Addr × Obj)) : Fn K lvl sc cl (c.withRo (r)) := ⟨f.ok.ro r, f.comp, f.scope, f.cells⟩

noncomputable def Keep (S : List Addr) (H H' : AH) : Prop := ∀ b, b ∉ S → ∀ o, H b = some o → H' b = some o
noncomputable def Loc.put (x : String) (v : AV) (l : Loc) : Loc := (x, v) :: l.del x

set_option genInjectivity false in
/-- targets of an assignment -/
noncomputable def Asg (w : World) (c : Cx) (t : PySem.Expr) (v : AV) (l : Loc) (H : AH) (P : Loc → AH → Prop) : Prop :=
  ∀ V s, v.ok V → St w c l H s → wpAny (model pr w) c.A (assign t c.env V) (fun _ s' => ∃ l' H', St w c l' H' s' ∧ P l' H') FF s
theorem Asg.name {x : String} {v : AV} {p : Pos} {ls : List (String × NameKind)} {P : Loc → AH → Prop} (ok : c.Ok K lvl) (hc : c.comp = none) (hn : NamesOk c.env ls) (h1 : assoc x ls = some NameKind.local) (h : P (l.put x v) H) : Asg w c (.Name (Str.ofString x) p) v l H P := fun V s hv st =>
  wpAny_assign_Name (St.store ok hc hn h1 st hv fun s' x' => ⟨_, H, x', h⟩)
noncomputable def AsgAll (w : World) (c : Cx) : List PySem.Expr → List AV → Loc → AH → (Loc → AH → Prop) → Prop
  | t :: ts, v :: vs, l, H, P => Asg w c t v l H fun l' H' => AsgAll w c ts vs l' H' P
  | _, _, l, H, P => P l H
theorem assignEach_cons {e : PySem.Expr} {r : List PySem.Expr} {env : Env} (h : noStar (e :: r) = true) : assignEach (e :: r) env = (false, assign e env) :: assignEach r env ∧ noStar r = true := by
  cases e <;> first | exact ⟨rfl, h⟩ | cases h
theorem assignEach_len {env : Env} : ∀ {es : List PySem.Expr}, noStar es = true → (assignEach es env).length = es.length ∧ (assignEach es env).findIdx? (·.1) = none
  | [], _ => ⟨rfl, rfl⟩
  | e :: r, h => by
    obtain ⟨he, hr⟩ := assignEach_cons (env := env) h
    obtain ⟨a, b⟩ := assignEach_len (env := env) hr
    rw [he]
    refine ⟨by simp [a], ?_⟩
    rw [List.findIdx?_cons]
    simp [b]
theorem AsgAll.bind {P : Loc → AH → Prop} : ∀ {es : List PySem.Expr} {vs : List AV} {Vs : List Value} {l : Loc} {H : AH} {s : Shared}, AsgAll w c es vs l H P → noStar es = true → es.length = vs.length → Oks vs Vs → St w c l H s →
    wpAny (model pr w) c.A (assignInOrder ((assignEach es c.env).map (·.2)) Vs) (fun _ s' => ∃ l' H', St w c l' H' s' ∧ P l' H') FF s
  | [], vs, Vs, l, H, s, h, _, hl, ho, st => by
    cases ho with
    | nil => exact wpAny_pure ⟨l, H, st, h⟩
    | cons _ _ => cases hl
  | e :: r, vs, Vs, l, H, s, h, hn, hl, ho, st => by
    obtain ⟨he, hr⟩ := assignEach_cons (env := c.env) hn
    cases ho with
    | nil => cases hl
    | cons hv hvs =>
      rw [he]
      show wpAny _ _ (do holding _ (assign e c.env _); assignInOrder ((assignEach r c.env).map (·.2)) _) _ _ _
      exact wpAny_bind (wpAny_holding (wpAny_mono (h _ _ hv st) (fun _ s' ⟨l', H', st', h'⟩ => AsgAll.bind h' hr (by simpa using hl) hvs st') fun _ _ e => e))
theorem St.ext {h' : Heap} (x : St w c l H s) (he : Heap.ExtBut s.heap.objs.size s.heap h') (tk : Nat) : St w c l H { s with heap := h', toks := tk } :=
  x.grow (fun _ F => F.extBut he (Nat.le_refl _)) fun _ N => N.extBut he (Nat.le_refl _)
theorem St.tup (x : St w c l H s) {t : Addr} {vs : List AV} (ht : H t = some (.tuple vs)) : ∃ Vs, IsTup s.heap t (List.toArray Vs) ∧ Oks vs Vs := by
  obtain ⟨o, ho, Vs, n, e, h⟩ := x.get ht
  exact ⟨Vs, ⟨o, ho, by rw [e], n, by rw [e]⟩, h⟩
theorem Asg.tup {es : List PySem.Expr} {k : Nat} {p : Pos} {t : Addr} {vs : List AV} {P : Loc → AH → Prop} (ok : c.Ok K lvl) (ht : H t = some (.tuple vs)) (hn : noStar es = true) (hl : es.length = vs.length) (h : AsgAll w c es vs l H P) :
    Asg w c (.Tuple es k p) (.ref t) l H P := fun V s hv st => by
  cases hv
  obtain ⟨Vs, hT, ho⟩ := st.tup ht
  obtain ⟨e1, e2⟩ := assignEach_len (env := c.env) hn
  refine assign_Tuple_tuple ok.hh hT ?_ e2 fun h' he => ?_
  · rw [e1, hl]; simp [ho.length]
  · exact h.bind hn hl ho (st.ext he _)

/-! loops -/
inductive Src where
  | list (ax : Addr) (xs : List AV)
  | range (a c : Int) (n : Nat)
noncomputable def Src.len : Src → Nat
  | .list _ xs => xs.length
  | .range _ _ n => n
noncomputable def Src.get (i : Nat) : Src → AV → Prop
  | .list _ xs, v => xs[i]? = some v
  | .range a c _, v => v = .int (a + i * c)
noncomputable def Src.holds : Src → AH → Prop
  | .list ax xs, H => H ax = some (.list xs)
  | .range _ _ _, _ => True
noncomputable def Src.it (i : Nat) : Src → Obj → Prop
  | .list ax _, o => o.cls = .type "list_iterator" ∧ o.data = .fields #[.ref ax, .int i 0]
  | .range a c n, o => o = { cls := .type "range_iterator", dict := none, data := .fields #[rawInt (a + i * c), rawInt ((n : Int) - i), rawInt c], slots := #[] }
noncomputable def isRange (a b c : Int) (o : Obj) : Prop := ∃ t u v, o = { cls := .type "range", data := .fields #[.int a t, .int b u, .int c v] }
noncomputable def Src.from (H : AH) : Src → AV → Prop
  | .list ax xs, v => v = .ref ax ∧ H ax = some (.list xs) ∧ xs.length ≤ 900
  | .range a c n, v => ∃ r b, v = .ref r ∧ H r = some (.pred (isRange a b c)) ∧ Builtin.Range.small a b c = true ∧ n = (Builtin.Range.rangeSize a b c).toNat ∧ 0 ≤ Builtin.Range.rangeSize a b c

theorem St.roAdd (x : St w c l H s) {o : Obj} (hf : o.isFreed = false) (tk : Nat) : St w (c.withRo ((s.heap.objs.size, o) :: c.ro)) l H { s with heap := s.heap.push o, toks := tk } := by
  obtain ⟨m, news, e, F, N, hk, lc, ro⟩ := x
  have hn : ∀ p ∈ news, p.1 ≠ s.heap.objs.size := fun p hp => Nat.ne_of_lt (Heap.lt_size (N p hp).1)
  have hH : H s.heap.objs.size = none := by
    cases q : H s.heap.objs.size with
    | none => rfl
    | some o' => obtain ⟨x, hx, _⟩ := hk _ _ q; exact absurd rfl (hn _ hx)
  refine ⟨m, (s.heap.objs.size, o) :: news, by rw [e], F.push o, N.push F o hf, ?_, lc.mono (fun D mF hc => ?_) fun _ _ _ _ h => List.Mem.tail _ h, fun p hp => ?_⟩
  · intro a o' h
    obtain ⟨x, hx, r⟩ := hk a o' h
    exact ⟨x, List.Mem.tail _ hx, r⟩
  · have lc' := lc
    unfold CompOk at lc'
    have hc' : c.comp = some (D, mF) := hc
    rw [hc'] at lc'
    exact lc'.2.1
  · rcases List.mem_cons.mp hp with rfl | hp
    · exact ⟨List.Mem.head _, hH⟩
    · exact ⟨List.Mem.tail _ (ro p hp).1, (ro p hp).2⟩
theorem St.roGet {it : Addr} {o : Obj} (x : St w (c.withRo ((it, o) :: c.ro)) l H s) : s.heap.get? it = some o := by
  obtain ⟨m, news, b⟩ := x
  exact (b.nw _ (b.ro (it, o) (.head _)).1).1
/-- the iterator has turned (SameBut), or is done (ExtBut): it leaves the ledger -/
theorem St.roDrop {it : Addr} {o : Obj} {h' : Heap} (x : St w (c.withRo ((it, o) :: c.ro)) l H s) (hro : ∀ p ∈ c.ro, p.1 ≠ it) (hc : c.comp = none) (he : Heap.ExtBut it s.heap h') (tk : Nat) : St w c l H { s with heap := h', toks := tk } := by
  obtain ⟨m, news, e, F, N, hk, lc, ro⟩ := x
  have h1 := N _ (ro (it, o) (.head _)).1
  have h2 : H it = none := (ro (it, o) (.head _)).2
  refine ⟨m, news.filter (fun p => p.1 ≠ it), by rw [e], ?_, ?_, fun a o' ha => ?_, ?_, fun p hp => ?_⟩
  · exact ⟨F.ns.at' fun o' e' => he _ _ (Ne.symm h1.2.1) e', fun b o' e' => he _ _ (fun q => by rw [q, h1.2.2] at e'; cases e') (F.keep b o' e'), F.above⟩
  · intro p hp
    obtain ⟨hp, hne⟩ := List.mem_filter.mp hp
    exact ⟨he _ _ (by simpa using hne) (N p hp).1, (N p hp).2⟩
  · obtain ⟨y, hy, r⟩ := hk a o' ha
    exact ⟨y, List.mem_filter.mpr ⟨hy, by simpa using fun q : a = it => by rw [q, h2] at ha; cases ha⟩, r⟩
  · unfold CompOk at lc ⊢
    rw [hc] at lc ⊢
    exact lc
  · exact ⟨List.mem_filter.mpr ⟨(ro p (.tail _ hp)).1, by simpa using hro p hp⟩, (ro p (.tail _ hp)).2⟩
theorem St.roSet {it : Addr} {o o' : Obj} {h' : Heap} (x : St w (c.withRo ((it, o) :: c.ro)) l H s) (hro : ∀ p ∈ c.ro, p.1 ≠ it) (hc : c.comp = none) (hs : Heap.SameBut it s.heap h') (ho : h'.get? it = some o') (tk : Nat) : St w (c.withRo ((it, o') :: c.ro)) l H { s with heap := h', toks := tk } := by
  have h1 := x.roDrop hro hc hs.extBut tk
  obtain ⟨m₀, news₀, b₀⟩ := x
  have off := (b₀.nw _ (b₀.ro (it, o) (.head _)).1).2
  have hH : H it = none := (b₀.ro (it, o) (.head _)).2
  obtain ⟨m, news, e, F, N, hk, lc, ro⟩ := h1
  refine ⟨m, (it, o') :: news, e, F, fun p hp => ?_, fun a o₂ ha => ?_, ?_, fun p hp => ?_⟩
  · rcases List.mem_cons.mp hp with rfl | hp
    · exact ⟨ho, off⟩
    · exact N p hp
  · obtain ⟨y, hy, r⟩ := hk a o₂ ha
    exact ⟨y, List.Mem.tail _ hy, r⟩
  · unfold CompOk at lc ⊢
    simp only [hc] at lc ⊢
    exact lc
  · rcases List.mem_cons.mp hp with rfl | hp
    · exact ⟨.head _, hH⟩
    · exact ⟨.tail _ (ro p hp).1, (ro p hp).2⟩

theorem letGo_it {E : Value → Shared → Prop} {A : Around} {target : PySem.Expr} {I : Addr} {o : Obj} {v : Value} {Q' : Unit → Shared → Prop} {s' : Shared} {src : Src} {i : Nat} (hit : s'.heap.get? I = some o) (hs : src.it i o) (h : Q' () s') :
    wpAny (model pr w) A (letOwnedTupleGo target (.ref I) v) Q' E s' := by
  unfold letOwnedTupleGo
  cases src with
  | list ax xs =>
    obtain ⟨hc, hd⟩ := hs
    cases target <;> first
      | exact wpAny_pure h
      | (cases v <;> first
          | exact wpAny_pure h
          | (refine wpAny_bind (wpAny_load hit ?_)
             rw [hc, hd]
             exact wpAny_pure h))
  | range a c n =>
    cases hs
    cases target <;> first
      | exact wpAny_pure h
      | (cases v <;> first
          | exact wpAny_pure h
          | (refine wpAny_bind (wpAny_load hit ?_)
             exact wpAny_pure h))
theorem Oks.get {vs : List AV} {Vs : List Value} (h : Oks vs Vs) (i : Nat) : (∀ v, vs[i]? = some v → ∃ V, Vs[i]? = some V ∧ v.ok V) ∧ (vs[i]? = none → Vs[i]? = none) := by
  induction h generalizing i with
  | nil => exact ⟨fun v h => by simp at h, fun _ => by simp⟩
  | @cons v V vs Vs hv _ ih =>
    cases i with
    | zero => exact ⟨fun u h => by simp at h; subst h; exact ⟨V, by simp, hv⟩, fun h => by simp at h⟩
    | succ i => simpa using ih i
theorem St.list (x : St w c l H s) {a : Addr} {xs : List AV} (ha : H a = some (.list xs)) : ∃ Vs n, s.heap.get? a = some (listOf (List.toArray Vs) n) ∧ Oks xs Vs := by
  obtain ⟨o, ho, Vs, n, e, h⟩ := x.get ha
  exact ⟨Vs, n, by rw [ho, e], h⟩
theorem isList_of {h : Heap} {a : Addr} {its : Array Value} {n : Nat} (x : h.get? a = some (listOf its n)) : h.IsList a its := ⟨_, x, rfl, n, rfl⟩

theorem St.lt_size (x : St w c l H s) {p : Addr × Obj} (hp : p ∈ c.ro) : p.1 < s.heap.objs.size := by
  obtain ⟨m, news, b⟩ := x
  exact Heap.lt_size (b.nw _ (b.ro p hp).1).1
/-- the source's iterator, made; its next item; its end -/
theorem Src.start {E : Value → Shared → Prop} {A : Around} {v : AV} {V : Value} {src : Src} {Q : Value → Shared → Prop} (x : St w c l H s) (hv : v.ok V) (h : src.from H v)
    (q : ∀ o, o.isFreed = false → src.it 0 o → Q (.ref s.heap.objs.size) { s with heap := s.heap.push o }) : wpAny (model pr w) A (pyIter V) Q E s := by
  cases src with
  | list ax xs =>
    obtain ⟨rfl, hx, _⟩ := h
    cases hv
    obtain ⟨Vs, n, ho, _⟩ := x.list hx
    exact wpAny_pyIter_list (isList_of ho) (q _ rfl ⟨rfl, rfl⟩)
  | range a d n =>
    obtain ⟨r, b, rfl, hx, hsm, hn, hp⟩ := h
    cases hv
    obtain ⟨o, ho, t, u, z, e⟩ := x.get hx
    subst e
    refine wpAny_pyIter_range ho hsm (q _ rfl ?_)
    show _ = _
    simp only [hn, Int.toNat_of_nonneg hp]
    simp
theorem Src.next {E : Value → Shared → Prop} {A : Around} {src : Src} {i : Nat} {J : Addr} {o : Obj} {Q : Option Value → Shared → Prop} (x : St w c l H s) (hold : src.holds H) (hlt : i < src.len) (hit : s.heap.get? J = some o) (hio : src.it i o)
    (q : ∀ V v o' h' tk, v.ok V → src.get i v → src.it (i + 1) o' → h'.get? J = some o' → Heap.SameBut J s.heap h' → Q (some V) { s with heap := h', toks := tk }) : wpAny (model pr w) A (pyNext (.ref J)) Q E s := by
  cases src with
  | list ax xs =>
    obtain ⟨Vs, n, ho, hok⟩ := x.list hold
    have e1 : xs[i]? = some xs[i] := List.getElem?_eq_getElem hlt
    obtain ⟨V, hV, hvV⟩ := (hok.get i).1 _ e1
    refine wpAny_pyNext_list_item ⟨o, hit, hio.1, hio.2⟩ (isList_of ho) (x := V) (by simpa using hV) fun h' hit' hs' => ?_
    obtain ⟨o', ho', hc', hd'⟩ := hit'
    exact q V _ o' h' _ hvV e1 ⟨hc', by rw [hd']⟩ ho' hs'
  | range a d n =>
    cases hio
    have hlt' : i < n := hlt
    refine wpAny_pyNext_range_item hit (by lia) fun h' hit' hs' => q _ (.int (a + i * d)) _ h' _ ⟨_, rfl⟩ rfl ?_ hit' hs'
    show _ = _
    have e1 : a + ((i + 1 : Nat) : Int) * d = a + (i : Int) * d + d := by push_cast; rw [Int.add_mul, Int.one_mul, Int.add_assoc]
    have e2 : (n : Int) - ((i + 1 : Nat) : Int) = (n : Int) - (i : Int) - 1 := by push_cast; lia
    rw [e1, e2]
theorem Src.stop {E : Value → Shared → Prop} {A : Around} {src : Src} {J : Addr} {o : Obj} {Q : Option Value → Shared → Prop} (hh : A.handled = none) (x : St w c l H s) (hold : src.holds H) (hit : s.heap.get? J = some o) (hio : src.it src.len o)
    (q : ∀ h', Heap.ExtBut J s.heap h' → Q none { s with heap := h' }) : wpAny (model pr w) A (pyNext (.ref J)) Q E s := by
  cases src with
  | list ax xs =>
    obtain ⟨Vs, n, ho, hok⟩ := x.list hold
    exact wpAny_pyNext_list_end hh ⟨o, hit, hio.1, hio.2⟩ (isList_of ho) (by
      have := (hok.get xs.length).2 (by simp)
      show (List.toArray Vs)[xs.length]? = none; simpa using this) q
  | range a d n =>
    cases hio
    exact wpAny_pyNext_range_end hh hit (by show (n : Int) - (n : Nat) ≤ 0; lia) q
/-- what a for loop wants -/
inductive ForP (w : World) (K : Frag) (lvl : Nat) (sc : Scope) (cl : List (Str × Addr)) (target : PySem.Expr) (body : List Stmt) (l : Loc) (N : Loc → AH → Prop) (R : AV → AH → Prop) (v : AV) (H : AH) : Prop
  | mk (src : Src) (I : Nat → Loc → AH → Prop) (hf : src.from H v) (h0 : I 0 l H) (hh : ∀ i l H, I i l H → src.holds H)
    (turn : ∀ c' NN, Fn K lvl sc cl c' → ∀ i v l H, i < src.len → src.get i v → (∀ {l' H'} l'', Loc.sub l'' l' → I (i + 1) l'' H' → NN l' H') → I i l H → Asg w c' target v l H fun l₁ H₁ => Exs w c' body l₁ H₁ NN R)
    (fin : ∀ l H, I src.len l H → N l H)
/-- what stands between two turns -/
inductive ForI (w : World) (c : Cx) (src : Src) (I : Nat → Loc → AH → Prop) (J : Addr) (k : Nat) (s : Shared) : Prop
  | mk (l : Loc) (H : AH) (i : Nat) (o : Obj) (x : St w (c.withRo ((J, o) :: c.ro)) l H s) (hio : src.it i o) (hI : I i l H) (hi : i ≤ src.len) (hk : k = src.len + 1 - i)
theorem Ex.for_ {sc : Scope} {cl : List (Str × Addr)} {target iter : PySem.Expr} {body : List Stmt} {p : Pos} {N : Loc → AH → Prop} {R : AV → AH → Prop} (fn : Fn K lvl sc cl c)
    (h : Ev w c iter l H (ForP w K lvl sc cl target body l N R))
    (hs : ∀ x, foldedSetIterable iter c.env x = pure x := by intro _; rfl) : Ex w c (.For target iter body [] p) l H N R := fun s st => by
  refine wpAny_For (h.bind st fun V s₁ v H₁ hv x₁ hF => ?_) hs
  cases hF with
  | mk src I hsrc h0 hold turn fin =>
  have fresh : ∀ p ∈ c.ro, p.1 ≠ s₁.heap.objs.size := fun p hp => Nat.ne_of_lt (x₁.lt_size hp)
  refine Src.start x₁ hv hsrc fun o hf hio => ?_
  have x₂ := x₁.roAdd hf s₁.toks
  generalize s₁.heap.objs.size = J at fresh x₂ ⊢
  generalize ({ s₁ with heap := s₁.heap.push o } : Shared) = s₂ at x₂ ⊢
  refine codeAny_forLoop_any (ForI w c src I J) ?_ (src.len + 1) ⟨l, H₁, 0, o, x₂, hio, h0, Nat.zero_le _, rfl⟩
  clear x₂ h0 hio hf hsrc hv x₁ st h
  intro k s' hI
  cases hI with
  | mk l H i o x hio hI hi hk =>
  subst hk
  have hit := x.roGet
  by_cases hlt : i < src.len
  · refine Src.next x (hold i l H hI) hlt hit hio fun V v o' h' tk hv hg hio' hit' hs' => letGo_it hit' hio' ?_
    have x' := x.roSet fresh fn.comp hs' hit' tk
    generalize ({ s' with heap := h', toks := tk } : Shared) = s₁ at x' ⊢
    clear hit' hs' hit x hio
    refine wpAny_mono (turn _ (fun l' H' => ∃ l'', Loc.sub l'' l' ∧ I (i + 1) l'' H') (fn.ro ((J, o') :: c.ro)) i v l H hlt hg (fun l'' a b => ⟨l'', a, b⟩) hI V s₁ hv x') (fun _ s₂ hb => ?_) fun _ _ e => e.elim
    obtain ⟨l₁, H₁', x₂, hb⟩ := hb
    refine wpAny_mono (hb s₂ x₂) (fun f s₃ hf => ?_) fun _ _ e => e.elim
    cases f with
    | next =>
      obtain ⟨l', H', x₃, l'', hsub, hI'⟩ := hf
      exact ⟨src.len + 1 - (i + 1), by omega, l'', H', i + 1, o', x₃.weaken hsub.mem (fun _ _ e => e), hio', hI', hlt, rfl⟩
    | cont => exact hf.elim
    | brk => exact hf.elim
    | ret V' =>
      obtain ⟨v', l', H', hv', x₃, hR⟩ := hf
      exact ⟨v', l', H', hv', x₃.roDrop fresh fn.comp (fun _ _ _ e => e) s₃.toks, hR⟩
  · have e : i = src.len := Nat.le_antisymm hi (Nat.le_of_not_lt hlt)
    subst e
    exact Src.stop fn.ok.hh x (hold _ l H hI) hit hio fun h' he' => wpAny_execs_nil ⟨l, H, x.roDrop fresh fn.comp he' _, fin l H hI⟩
end

section
variable {w : World} {K : Frag} {c : Cx} {l l' : Loc} {H H' : AH} {s s' : Shared} {lvl : Nat}

theorem Oks.snoc {vs : List AV} {Vs : List Value} {v : AV} {V : Value} (h : Oks vs Vs) (hv : v.ok V) : Oks (vs ++ [v]) (Vs ++ [V]) := by
  induction h with
  | nil => exact .cons hv .nil
  | cons a _ ih => exact .cons a ih
theorem Oks.rev {vs : List AV} {Vs : List Value} (h : Oks vs Vs) : Oks vs.reverse Vs.reverse := by
  induction h with
  | nil => exact .nil
  | cons a _ ih => rw [List.reverse_cons, List.reverse_cons]; exact ih.snoc a
theorem Oks.dropLast {vs : List AV} {Vs : List Value} (h : Oks vs Vs) : Oks vs.dropLast Vs.dropLast := by
  induction h with
  | nil => exact .nil
  | @cons v V vs Vs hv h ih =>
    cases h with
    | nil => exact .nil
    | cons a b => exact .cons hv ih
theorem Oks.set {vs : List AV} {Vs : List Value} {v : AV} {V : Value} (h : Oks vs Vs) (hv : v.ok V) (i : Nat) : Oks (vs.set i v) (Vs.set i V) := by
  induction h generalizing i with
  | nil => exact .nil
  | cons a b ih =>
    cases i with
    | zero => exact .cons hv b
    | succ i => exact .cons a (ih i)
theorem Oks.take {vs : List AV} {Vs : List Value} (h : Oks vs Vs) (i : Nat) : Oks (vs.take i) (Vs.take i) := by
  induction h generalizing i with
  | nil => simp; exact .nil
  | cons a b ih =>
    cases i with
    | zero => exact .nil
    | succ i => exact .cons a (ih i)
theorem Oks.ints {ns : List Int} {Vs : List Value} (h : Oks (ns.map .int) Vs) : IntsAre Vs ns := by
  induction ns generalizing Vs with
  | nil => cases h; exact .nil
  | cons n r ih =>
    cases h with
    | cons a b => obtain ⟨t, rfl⟩ := a; exact .cons n t (ih b)
theorem Oks.of_ints {ns : List Int} {Vs : List Value} (h : IntsAre Vs ns) : Oks (ns.map .int) Vs := by
  induction h with
  | nil => exact .nil
  | cons n t _ ih => exact .cons ⟨t, rfl⟩ ih

theorem okList {xs : List AV} {arr : Array Value} {k : Nat} (X : List Value) (e : arr = X.toArray) (h : Oks xs X) : AO.ok w (.list xs) (listOf arr k) := ⟨X, k, by rw [e], h⟩
section
variable {o e i : PySem.Expr} {ap p p' : Pos} {Q : AV → AH → Prop} {N : Loc → AH → Prop} {R : AV → AH → Prop}
/-- a list's address -/
inductive LstP (v : AV) (H : AH) (q : Addr → Prop) : Prop
  | mk (a : Addr) (xs : List AV) (e : v = .ref a) (h : H a = some (.list xs)) (k : q a)
inductive AppP (a : Addr) (u : AV) (H : AH) (Q : AV → AH → Prop) : Prop
  | mk (xs : List AV) (h : H a = some (.list xs)) (hl : xs.length ≤ 9000) (q : Q .none (H.set a (.list (xs ++ [u]))))
theorem Ev.append
    (h : Ev w c o l H fun v H₁ => LstP v H₁ fun a => Ev w c e l H₁ fun u H₂ => AppP a u H₂ Q)
    (hn : noStar [e] = true := by rfl)
    (he : eval (.Call (.Attribute o "append" ap) [e] [] p) c.env = (do
      let ov ← eval o c.env
      standAt ap.atName
      let (f, first) ← holding [ov] (getMethod ov "append" (do return (← importBound o c.env).getD true))
      callWith p f first (backTo p (starEach [e] c.env)) (backToKw p (keywordEach [] c.env))) := by rfl) : Ev w c (.Call (.Attribute o "append" ap) [e] [] p) l H Q := fun s st =>
  methodCall_KW (h.bind st fun V s₁ v H₁ hv x₁ ⟨a, xs₀, e, ha, q⟩ => by
    subst e; cases hv
    obtain ⟨Vs, n, ho, _⟩ := x₁.list ha
    refine getMethod_builtin ⟨_, ho, rfl⟩ F.plainAttrs_list F.slot_list_append F.type_list_append (fun a e => by cases e; exact ⟨_, ho, rfl⟩) ?_
    rw [starEach1 hn]
    refine P.append_list (q.bind x₁ fun U s₂ u H₂ hu x₂ ⟨xs, hx, hl, q₂⟩ => ?_)
    obtain ⟨Us, k, ho₂, hok⟩ := x₂.list hx
    have hlen := hok.length
    refine ⟨_, _, by have : sizeLine = 2 ^ 24 := rfl; simp; lia, ho₂, .none, _, rfl, x₂.update (ao' := .list (xs ++ [u])) hx (Heap.SameBut.update _ _ _) (IsL.update ho₂ _) (okList (Us ++ [U]) (by simp) (hok.snoc hu)) _, q₂⟩) he
theorem Ev.pop
    (h : Ev w c o l H fun v H₁ => ∃ a xs u, v = .ref a ∧ H₁ a = some (.list (xs ++ [u])) ∧ xs.length ≤ 900 ∧ Q u (H₁.set a (.list xs)))
    (he : eval (.Call (.Attribute o "pop" ap) [] [] p) c.env = (do
      let ov ← eval o c.env
      standAt ap.atName
      let (f, first) ← holding [ov] (getMethod ov "pop" (do return (← importBound o c.env).getD true))
      callWith p f first (backTo p (starEach [] c.env)) (backToKw p (keywordEach [] c.env))) := by rfl) : Ev w c (.Call (.Attribute o "pop" ap) [] [] p) l H Q := fun s st =>
  methodCall_KW (h.bind st fun V s₁ v H₁ hv x₁ ⟨a, xs, u, e, ha, hl, q⟩ => by
    subst e; cases hv
    obtain ⟨Vs, n, ho, hok⟩ := x₁.list ha
    refine getMethod_builtin ⟨_, ho, rfl⟩ F.plainAttrs_list F.slot_list_pop F.type_list_pop (fun a e => by cases e; exact ⟨_, ho, rfl⟩) ?_
    have hlen := hok.length
    have hlast := (hok.get xs.length).1 u (by simp)
    obtain ⟨U, hU, hu⟩ := hlast
    have hl1 : Vs.length = xs.length + 1 := by simpa using hlen
    refine P.pop_list ho (y := U) (by simpa [hl1] using hU) ⟨u, _, hu, x₁.update (ao' := .list xs) ha (Heap.SameBut.update _ _ _) (IsL.update ho _) (okList Vs.dropLast (by
      simp [hl1]
      rw [List.dropLast_eq_take, List.eraseIdx_eq_take_drop_succ]
      simp [hl1]) (by simpa using hok.dropLast)) _, q⟩ (by have : sizeLine = 2 ^ 24 := rfl; simp; lia)) he
theorem Ev.reverse
    (h : Ev w c o l H fun v H₁ => ∃ a xs, v = .ref a ∧ H₁ a = some (.list xs) ∧ xs.length ≤ 900 ∧ Q .none (H₁.set a (.list xs.reverse)))
    (he : eval (.Call (.Attribute o "reverse" ap) [] [] p) c.env = (do
      let ov ← eval o c.env
      standAt ap.atName
      let (f, first) ← holding [ov] (getMethod ov "reverse" (do return (← importBound o c.env).getD true))
      callWith p f first (backTo p (starEach [] c.env)) (backToKw p (keywordEach [] c.env))) := by rfl) : Ev w c (.Call (.Attribute o "reverse" ap) [] [] p) l H Q := fun s st =>
  methodCall_KW (h.bind st fun V s₁ v H₁ hv x₁ ⟨a, xs, e, ha, hl, q⟩ => by
    subst e; cases hv
    obtain ⟨Vs, n, ho, hok⟩ := x₁.list ha
    refine getMethod_builtin ⟨_, ho, rfl⟩ F.plainAttrs_list F.slot_list_reverse F.type_list_reverse (fun a e => by cases e; exact ⟨_, ho, rfl⟩) ?_
    have hlen := hok.length
    exact P.reverse_list ho ⟨.none, _, rfl, x₁.update (ao' := .list xs.reverse) ha (Heap.SameBut.update _ _ _) (IsL.update ho _) (okList Vs.reverse (by simp) hok.rev) _, q⟩ (by have : sizeLine = 2 ^ 24 := rfl; simp; lia)) he

/-! subscripts -/
noncomputable def idGet (kvs : List (Int × AV)) (k : Int) : Option AV := (kvs.find? fun kv => kv.1 = k).map (·.2)
noncomputable def idSet (kvs : List (Int × AV)) (k : Int) (v : AV) : List (Int × AV) := if kvs.any (fun kv => kv.1 = k) then kvs.map (fun kv => if kv.1 = k then (kv.1, v) else kv) else kvs ++ [(k, v)]
theorem KVs.get {kvs : List (Int × AV)} {KV : List (Int × Value)} {k : Int} {v : AV} (h : KVs kvs KV) (hg : idGet kvs k = some v) : ∃ V, valueAt KV k = some V ∧ v.ok V := by
  unfold idGet at hg
  unfold valueAt
  induction h with
  | nil => cases hg
  | @cons j u U us Us hu h ih =>
    rw [List.find?_cons] at hg ⊢
    by_cases e : j = k
    · simp only [e, decide_true] at hg ⊢
      cases hg; exact ⟨U, rfl, hu⟩
    · simp only [e, decide_false] at hg ⊢
      exact ih hg
theorem KVs.any {kvs : List (Int × AV)} {KV : List (Int × Value)} {k : Int} (h : KVs kvs KV) : KV.any (fun kv => kv.1 = k) = kvs.any (fun kv => kv.1 = k) := by
  induction h with
  | nil => rfl
  | cons _ _ ih => simp only [List.any_cons, ih]
theorem KVs.set {kvs : List (Int × AV)} {KV : List (Int × Value)} {k : Int} {v : AV} {V : Value} (h : KVs kvs KV) (hv : v.ok V) : KVs (idSet kvs k v) (stored KV k V) := by
  have m1 : KVs (kvs.map (fun kv => if kv.1 = k then (kv.1, v) else kv)) (KV.map (fun kv => if kv.1 = k then (kv.1, V) else kv)) := by
    induction h with
    | nil => exact .nil
    | @cons j u U us Us hu h ih =>
      simp only [List.map_cons]
      by_cases e : j = k
      · simp only [e, if_true]; exact .cons hv ih
      · simp only [e, if_false]; exact .cons hu ih
  have m2 : KVs (kvs ++ [(k, v)]) (KV ++ [(k, V)]) := by
    clear m1
    induction h with
    | nil => exact .cons hv .nil
    | cons hu _ ih => exact .cons hu ih
  unfold idSet stored
  rw [h.any]
  split
  · exact m1
  · exact m2
theorem KVs.length {kvs : List (Int × AV)} {KV : List (Int × Value)} (h : KVs kvs KV) : KV.length = kvs.length := by
  induction h with
  | nil => rfl
  | cons _ _ ih => simp [ih]

inductive Item (H : AH) : AV → AV → AV → Prop
  | list {a xs k x} : H a = some (.list xs) → 0 ≤ k → xs[k.toNat]? = some x → k < 1000000 → Item H (.ref a) (.int k) x
  | tuple {a xs k x} : H a = some (.tuple xs) → 0 ≤ k → xs[k.toNat]? = some x → k < 1000000 → Item H (.ref a) (.int k) x
  | idict {a kvs k x} : H a = some (.idict kvs) → idGet kvs k = some x → Item H (.ref a) (.int k) x
/-- what a heap shows of a ledger -/
noncomputable def SeeH (w : World) (H : AH) (h : Heap) : Prop := ∀ a o, H a = some o → (∀ p, o ≠ .pred p) → ∃ x, h.get? a = some x ∧ o.ok w x
theorem St.see (x : St w c l H s) : SeeH w H s.heap := fun _ _ h _ => x.get h
theorem itemAt {A : Around} {E : Value → Shared → Prop} {V U : Value} {v u x : AV} {P : Value → Shared → Prop} (hI : Item H v u x) (hv : v.ok V) (hu : u.ok U) (see : SeeH w H s.heap) (q : ∀ X tk, x.ok X → P X { s with toks := tk })
    (hsl : ∀ a b, subscripted i false a b = operate [a, b] (getItem a b)) : wpAny (model pr w) A (subscriptTail o i V U) P E s := by
  cases hI with
  | list ha h0 hx hk =>
    cases hv; obtain ⟨t, rfl⟩ := hu
    obtain ⟨_, ho, Vs, n, rfl, hok⟩ := see _ _ ha (by simp)
    obtain ⟨X, hX, hx'⟩ := (hok.get _).1 _ hx
    exact tail_any (T := "list") ⟨_, ho, rfl⟩ slot_list_getitem.lookup (wpAny_getItem_list (x := X) (isList_of ho) h0 (by lia) (by simpa using hX) (q X s.toks hx')) (hsl _ _)
  | @tuple a xs k x ha h0 hx hk =>
    cases hv; obtain ⟨t, rfl⟩ := hu
    obtain ⟨_, ho, Vs, n, rfl, hok⟩ := see _ _ ha (by simp)
    obtain ⟨X, hX, hx'⟩ := (hok.get _).1 _ hx
    refine item_tupleT (x := X) (j := k.toNat) ⟨_, ho, rfl, n, rfl⟩ (by lia) (by omega) ?_ hX (q X s.toks hx') (hsl _ _)
    unfold seqIndex?
    have hlt : k.toNat < Vs.length := (List.getElem?_eq_some_iff.mp hX).1
    rw [if_neg (show ¬ k < 0 by lia), if_pos (by simp; lia)]
  | idict ha hg =>
    cases hv; obtain ⟨t, rfl⟩ := hu
    obtain ⟨oo, ho, KV, hd, hkv⟩ := see _ _ ha (by simp)
    obtain ⟨X, hX, hx'⟩ := hkv.get hg
    have hD : s.heap.DictOf (intKind pr w) _ KV := Heap.dictOf_iff.mpr ⟨oo, ho, hd⟩
    exact tail_any hD.typeIs F.slot_dict_getitem.lookup (wpAny_getItem_of (knd := intKind pr w) (intKind_is _ _ _ _) hD.mapOf hX (q X _ hx')) (hsl _ _)
inductive ItemP (v u : AV) (H : AH) (Q : AV → AH → Prop) : Prop
  | mk (x : AV) (h : Item H v u x) (q : Q x H)
theorem Ev.item
    (h : Ev w c o l H fun v H₁ => Ev w c i l H₁ fun u H₂ => ItemP v u H₂ Q)
    (hsl : ∀ a b, subscripted i false a b = operate [a, b] (getItem a b) := by intro _ _; with_unfolding_all rfl) : Ev w c (.Subscript o i p) l H Q := fun s st =>
  Subscript_ (h.bind st fun V s₁ v H₁ hv x₁ h₁ => h₁.bind x₁ fun U s₂ u H₂ hu x₂ ⟨x, hI, q⟩ => itemAt hI hv hu x₂.see (fun X tk hX => ⟨x, H₂, hX, x₂.toks tk, q⟩) hsl)

theorem setItem_list {A : Around} {E : Value → Shared → Prop} {a : Addr} {items : Array Value} {n : Nat} {k : Int} {t : Tok} {v : Value} {Q : Unit → Shared → Prop} (hl : IsL s.heap a items n)
    (h0 : 0 ≤ k) (hfit : k < 2 ^ 63) (hn : k < items.size) (hQ : Q () { s with heap := s.heap.update a (Obj.mapSeq (·.setIfInBounds k.toNat v)) }) :
    wpAny (model pr w) A (setItem (.ref a) (.int k t) v) Q E s := by
  have hL : s.heap.IsList a items := hl.isList
  unfold setItem
  try with_reducible refine wpAny_holding ?_
  refine wpAny_bind (wpAny_sequenceKey hL.typeIs (by decide) ?_)
  refine wpAny_bind (wpAny_callSpecial?_slot (name := Str.ofString "__setitem__") hL.typeIs slot_list_setitem
    (wpAny_call_entry slot_list_setitem hL.typeIs entry_list_setitem ?_ (args_list_setitem _ _ _)))
  show wpAny _ _ (Builtin.List.listSubscript? (.int k t) >>= _) _ _ s
  refine wpAny_bind (wpAny_listSubscript_int (fitsIndex_of h0 hfit) ?_)
  obtain ⟨j, rfl⟩ := Int.eq_ofNat_of_zero_le h0
  have hj : j < items.size := by lia
  have hx' : items[j]? = some items[j] := Array.getElem?_eq_getElem hj
  show wpAny _ _ ((seqItemAt a j >>= fun r => pure (r.map (j, ·))) >>= _) _ _ s
  refine wpAny_bind (wpAny_bind (wpAny_seqItemAt hl rfl (wpAny_pure ?_)))
  rw [hx']
  show wpAny _ _ (setSeqItemAt a j v >>= _) _ _ s
  refine wpAny_bind (wpAny_setSeqItemAt hl rfl ?_)
  exact wpAny_pure ⟨.none, rfl, wpAny_pure hQ⟩
theorem Ex.setlist
    (h : Ev w c e l H fun v H₁ => Ev w c o l H₁ fun u H₂ => RefP u fun a => Ev w c i l H₂ fun z H₃ => ∃ k xs, z = .int k ∧ H₃ a = some (.list xs) ∧ 0 ≤ k ∧ k < xs.length ∧ xs.length ≤ 900 ∧ N l (H₃.set a (.list (xs.set k.toNat v))))
    (hs : swapsWith e (some (.Subscript o i p')) p.line c.env = pure false := by rfl) : Ex w c (.Assign [.Subscript o i p'] e p) l H N R := fun s st =>
  wpAny_Assign_Subscript (h.bind st fun V s₁ v H₁ hv x₁ q => q.bind x₁ fun U s₂ u H₂ hu x₂ ⟨a, e₂, q₂⟩ => q₂.bind x₂ fun Z s₃ z H₃ hz x₃ ⟨k, xs, e₃, ha, k0, k1, hl, q₃⟩ => by
    subst e₂; subst e₃
    cases hu
    obtain ⟨t', rfl⟩ := hz
    obtain ⟨Vs, n, ho, hok⟩ := x₃.list ha
    have hlen := hok.length
    refine setItem_list ho k0 (by lia) (by simp; lia) ⟨l, _, x₃.update (ao' := .list (xs.set k.toNat v)) ha (Heap.SameBut.update _ _ _) (IsL.update ho _) (okList (Vs.set k.toNat V) (by simp) (hok.set hv _)) _, q₃⟩) hs
theorem Ex.setdict
    (h : Ev w c e l H fun v H₁ => Ev w c o l H₁ fun u H₂ => RefP u fun a => Ev w c i l H₂ fun z H₃ => ∃ k kvs, z = .int k ∧ H₃ a = some (.idict kvs) ∧ kvs.length ≤ 900 ∧ N l (H₃.set a (.idict (idSet kvs k v))))
    (hs : swapsWith e (some (.Subscript o i p')) p.line c.env = pure false := by rfl) : Ex w c (.Assign [.Subscript o i p'] e p) l H N R := fun s st =>
  wpAny_Assign_Subscript (h.bind st fun V s₁ v H₁ hv x₁ q => q.bind x₁ fun U s₂ u H₂ hu x₂ ⟨a, e₂, q₂⟩ => q₂.bind x₂ fun Z s₃ z H₃ hz x₃ ⟨k, kvs, e₃, ha, hl, q₃⟩ => by
    subst e₂; subst e₃
    cases hu
    obtain ⟨t', rfl⟩ := hz
    obtain ⟨oo, ho, KV, hd, hkv⟩ := x₃.get ha
    have hlen := hkv.length
    refine wpAny_setItem_pairs (knd := intKind pr w) (intKind_is _ _ _ _) (Heap.dictOf_iff.mpr ⟨oo, ho, hd⟩) (fun h' hd' hs' => ?_) (by have : sizeLine = 2 ^ 24 := rfl; lia)
    obtain ⟨o', ho', hdo⟩ := Heap.dictOf_iff.mp hd'
    exact ⟨l, _, x₃.update (ao' := .idict (idSet kvs k v)) ha hs' ho' ⟨_, hdo, hkv.set hv⟩ _, q₃⟩) hs

/-! displays -/
theorem Ev.list {es : List PySem.Expr} (h : Evs w c es l H fun vs H₁ => vs.length ≤ 900 ∧ ∀ a, H₁ a = Option.none → Q (.ref a) (H₁.set a (.list vs))) (hn : noStar es = true := by rfl) : Ev w c (.List es p) l H Q := fun s st =>
  List_ (h.bind hn st fun Vs s₁ vs H₁ hvs x₁ ⟨hl, q⟩ => by
    obtain ⟨fr, x'⟩ := x₁.alloc (o := { cls := .type "list", data := .seq Vs.toArray }) (ao := .list vs) ⟨Vs, 0, rfl, hvs⟩ rfl s₁.toks
    have hlen := hvs.length
    exact wpAny_newObj_type ⟨.ref _, _, rfl, x', q _ fr⟩ (by show Vs.toArray.size ≤ sizeLine; have : sizeLine = 2 ^ 24 := rfl; simp; lia))
theorem Ev.tuple {es : List PySem.Expr} {k : Nat} (h : Evs w c es l H fun vs H₁ => vs.length ≤ 900 ∧ ∀ a, H₁ a = Option.none → Q (.ref a) (H₁.set a (.tuple vs))) (hn : noStar es = true := by rfl) : Ev w c (.Tuple es k p) l H Q := fun s st =>
  Tuple_ (h.bind hn st fun Vs s₁ vs H₁ hvs x₁ ⟨hl, q⟩ => by
    obtain ⟨fr, x'⟩ := x₁.alloc (o := { cls := .type "tuple", data := .seq Vs.toArray }) (ao := .tuple vs) ⟨Vs, 0, rfl, hvs⟩ rfl s₁.toks
    have hlen := hvs.length
    exact wpAny_newObj_type ⟨.ref _, _, rfl, x', q _ fr⟩ (by show Vs.toArray.size ≤ sizeLine; have : sizeLine = 2 ^ 24 := rfl; simp; lia))
theorem emptyDict (knd : KeyKind pr w Int) : Obj.IsDictOf knd { cls := .type "dict", data := .dict #[] } [] :=
  ⟨#[], 0, ⟨rfl, rfl, rfl⟩, rfl, (fun i h => by simp at h), .nil, .nil⟩
theorem Ev.dict (h : ∀ a, H a = Option.none → Q (.ref a) (H.set a (.idict []))) : Ev w c (.Dict [] [] p) l H Q := fun s st =>
  wpAny_Dict_empty (by
    obtain ⟨fr, x'⟩ := st.alloc (o := { cls := .type "dict", data := .dict #[] }) (ao := .idict []) ⟨[], emptyDict _, .nil⟩ rfl s.toks
    exact ⟨.ref _, _, rfl, x', h _ fr⟩)
theorem Ev.words (h : ∀ a, H a = Option.none → Q (.ref a) (H.set a (.words fun _ => 0))) : Ev w c (.Dict [] [] p) l H Q := fun s st =>
  wpAny_Dict_empty (by
    obtain ⟨fr, x'⟩ := st.alloc (o := { cls := .type "dict", data := .dict #[] }) (ao := .words fun _ => 0) ⟨[], emptyDict _, (by intro p hp; cases hp), (by intro k _; rfl), fun _ => ⟨Int.le_refl 0, (by decide : (0 : Int) < 4294967296)⟩⟩ rfl s.toks
    exact ⟨.ref _, _, rfl, x', h _ fr⟩)

/-! calls of builtins -/
theorem callWith_bi {e : PySem.Expr} {f : Value} (hf : keeperOf f = pure .machine) {es : List PySem.Expr} (hn : noStar (e :: es) = true) (x : St w c l H s)
    (h : Evs w c (e :: es) l H fun vs H₁ => ∀ s₁ Vs, St w c l H₁ s₁ → Oks vs Vs → wpAny (model pr w) c.A (call f Vs []) (fun V s' => ∃ v H', v.ok V ∧ St w c l H' s' ∧ Q v H') FF s₁) :
    wpAny (model pr w) c.A (callWith p f [] (backTo p (starEach (e :: es) c.env)) []) (fun V s' => ∃ v H', v.ok V ∧ St w c l H' s' ∧ Q v H') FF s := by
  obtain ⟨he, hr⟩ := starEach_cons (env := c.env) hn
  have h' := Evs.bind (p := p) (P := fun vs s₁ => True ∧ wpAny (model pr w) c.A (call f ([] ++ vs) []) (fun V s' => ∃ v H', v.ok V ∧ St w c l H' s' ∧ Q v H') FF s₁) h hn x fun Vs s' vs H' a b q => ⟨trivial, q s' Vs b a⟩
  rw [he] at h' ⊢
  exact callWith_of (P := fun _ => True) (by show ((false || (backTo p (starEach es c.env)).any (·.1)) || false) = false; rw [noStar_any hr]; rfl) (fun h _ => ⟨.machine, .inr (.inl rfl), Looks.of_pure hf⟩) (evalArgs_plain h')
/-- a name that stands for a built-in -/
noncomputable def Bi (w : World) (c : Cx) (g : PySem.Expr) (l : Loc) (H : AH) (f : Value) : Prop := ∀ Q : AV → AH → Prop, Q (.raw f) H → Ev w c g l H Q
theorem Bi.of {K : Frag} {lvl : Nat} {x : String} {p : Pos} {ls : List (String × NameKind)} {gt bt : List (String × Value)} {V : Value} (ok : c.Ok K lvl) (g : GlobOk K gt bt) (hn : NamesOk c.env ls) (h1 : assoc x ls = some NameKind.globalImplicit) (h2 : assoc x bt = some V) : Bi w c (.Name (Str.ofString x) p) l H V := fun Q q => Ev.bltin ok g hn h1 h2 q
theorem Ev.callb {g : PySem.Expr} {es : List PySem.Expr} {f : Value} (hf : keeperOf f = pure .machine)
    (hb : Bi w c g l H f) (h : Evs w c (e :: es) l H fun vs H₂ => ∀ s₁ Vs, St w c l H₂ s₁ → Oks vs Vs → wpAny (model pr w) c.A (call f Vs []) (fun V s' => ∃ v H', v.ok V ∧ St w c l H' s' ∧ Q v H') FF s₁)
    (hn : noStar (e :: es) = true := by rfl)
    (he : eval (.Call g (e :: es) [] p) c.env = (do callWith p (← eval g c.env) [] (backTo p (starEach (e :: es) c.env)) (backToKw p (keywordEach [] c.env))) := by rfl) : Ev w c (.Call g (e :: es) [] p) l H Q := fun s st => by
  rw [he]
  exact wpAny_bind ((hb (fun v H₁ => v = .raw f ∧ H₁ = H) ⟨rfl, rfl⟩).bind st fun V s₁ v H₁ hv x₁ ⟨e, e2⟩ => by
    subst e; subst e2; cases hv
    exact callWith_bi hf hn x₁ h)
theorem keep_len : keeperOf (.builtin "len") = pure .machine := rfl
theorem keep_range : keeperOf (.type "range") = pure .machine := rfl
end
end

section
variable {w : World} {K : Frag} {c : Cx} {l l' : Loc} {H H' : AH} {s s' : Shared} {lvl : Nat}

theorem StBy.fresh {m : Str → Option Value} {news : List (Addr × Obj)} {D : Addr} {o : Obj} {ao : AO} {h' : Heap} (b : StBy w c l H s m news) (F' : Fr c.h₀ c.L h' m) (N' : News c.h₀ c.L h' ((D, o) :: news)) (lt : ∀ p ∈ news, p.1 ≠ D) (ho : ao.ok w o) (tk : Nat) :
    H D = none ∧ St w c l (H.set D ao) { s with heap := h', toks := tk } := by
  obtain ⟨e, F, N, hk, lc, ro⟩ := b
  have hD : H D = none := by
    cases q : H D with
    | none => rfl
    | some o' => obtain ⟨x, hx, _⟩ := hk _ _ q; exact absurd rfl (lt _ hx)
  refine ⟨hD, m, (D, o) :: news, by rw [e], F', N', ?_, ?_, fun p hp => ⟨List.Mem.tail _ (ro p hp).1, by rw [AH.set_ne (lt _ (ro p hp).1)]; exact (ro p hp).2⟩⟩
  · intro a o' h
    unfold AH.set at h
    split at h
    · rename_i q; cases h; exact ⟨o, by rw [q]; exact List.Mem.head _, ho⟩
    · obtain ⟨x, hx, r⟩ := hk a o' h; exact ⟨x, List.Mem.tail _ hx, r⟩
  · refine lc.mono (fun D' mF hc => ?_) fun _ _ _ _ h => List.Mem.tail _ h
    have lc' := lc
    unfold CompOk at lc'
    rw [hc] at lc'
    obtain ⟨_, b, od, _, _, g, _⟩ := lc'
    rw [AH.set_ne (lt _ g), b]

/-! ranges, len, sorted -/
section
variable {o e i : PySem.Expr} {ap p p' : Pos} {Q : AV → AH → Prop} {N : Loc → AH → Prop} {R : AV → AH → Prop} {g : PySem.Expr} {e₁ e₂ e₃ : PySem.Expr}
theorem one {a : AV} {Vs : List Value} (h : Oks [a] Vs) : ∃ A, Vs = [A] ∧ a.ok A := by
  cases h with | cons x y => cases y; exact ⟨_, rfl, x⟩
theorem two {a b : AV} {Vs : List Value} (h : Oks [a, b] Vs) : ∃ A B, Vs = [A, B] ∧ a.ok A ∧ b.ok B := by
  cases h with | cons x y => obtain ⟨B, rfl, hb⟩ := one y; exact ⟨_, _, rfl, x, hb⟩
theorem three {a b d : AV} {Vs : List Value} (h : Oks [a, b, d] Vs) : ∃ A B D, Vs = [A, B, D] ∧ a.ok A ∧ b.ok B ∧ d.ok D := by
  cases h with | cons x y => obtain ⟨B, D, rfl, hb, hd⟩ := two y; exact ⟨_, _, _, rfl, x, hb, hd⟩
inductive RngP (a d : Int) (v : AV) (H : AH) (Q : AV → AH → Prop) : Prop
  | mk (x : Int) (e : v = .int x) (q : ∀ r, H r = Option.none → Q (.ref r) (H.set r (.pred (isRange a x d))))
inductive LenP (v : AV) (H : AH) (Q : AV → AH → Prop) : Prop
  | mk (r : Addr) (xs : List AV) (e : v = .ref r) (h : H r = some (.list xs)) (hl : xs.length ≤ 900) (q : Q (.int xs.length) H)
theorem Ev.range1
    (hb : Bi w c g l H (.type "range")) (h : Ev w c e₁ l H fun a H₂ => RngP 0 1 a H₂ Q)
    (hn : noStar [e₁] = true := by rfl)
    (he : eval (.Call g [e₁] [] p) c.env = (do callWith p (← eval g c.env) [] (backTo p (starEach [e₁] c.env)) (backToKw p (keywordEach [] c.env))) := by rfl) : Ev w c (.Call g [e₁] [] p) l H Q :=
  Ev.callb (f := .type "range") keep_range hb (h.mono fun a H₂ ⟨x, e, q⟩ s₁ Vs st ho => by
    subst e
    obtain ⟨A, rfl, t, rfl⟩ := one ho
    refine call_range_1 ?_
    obtain ⟨fr, x'⟩ := st.alloc (o := { cls := .type "range", data := .fields #[.int 0 s₁.toks, .int x t, .int 1 (s₁.toks + 1)] }) (ao := .pred (isRange 0 x 1)) ⟨_, _, _, rfl⟩ rfl (s₁.toks + 1 + 1)
    exact ⟨.ref _, _, rfl, x', q _ fr⟩) hn he
theorem Ev.range2
    (hb : Bi w c g l H (.type "range")) (h : Ev w c e₁ l H fun a H₂ => IntP a fun x => Ev w c e₂ l H₂ fun b H₃ => RngP x 1 b H₃ Q)
    (hn : noStar [e₁, e₂] = true := by rfl)
    (he : eval (.Call g [e₁, e₂] [] p) c.env = (do callWith p (← eval g c.env) [] (backTo p (starEach [e₁, e₂] c.env)) (backToKw p (keywordEach [] c.env))) := by rfl) : Ev w c (.Call g [e₁, e₂] [] p) l H Q :=
  Ev.callb (f := .type "range") keep_range hb (h.mono fun a H₂ ⟨x, e, q⟩ => q.mono fun b H₃ ⟨y, e', q⟩ s₁ Vs st ho => by
    subst e; subst e'
    obtain ⟨A, B, rfl, ⟨t, rfl⟩, u, rfl⟩ := two ho
    refine call_range_2 ?_
    obtain ⟨fr, x'⟩ := st.alloc (o := { cls := .type "range", data := .fields #[.int x t, .int y u, .int 1 s₁.toks] }) (ao := .pred (isRange x y 1)) ⟨_, _, _, rfl⟩ rfl (s₁.toks + 1)
    exact ⟨.ref _, _, rfl, x', q _ fr⟩) hn he
theorem Ev.range3
    (hb : Bi w c g l H (.type "range")) (h : Ev w c e₁ l H fun a H₂ => IntP a fun x => Ev w c e₂ l H₂ fun b H₃ => IntP b fun y => Ev w c e₃ l H₃ fun d H₄ => d = .int 4 ∧ ∀ r, H₄ r = Option.none → Q (.ref r) (H₄.set r (.pred (isRange x y 4))))
    (hn : noStar [e₁, e₂, e₃] = true := by rfl)
    (he : eval (.Call g [e₁, e₂, e₃] [] p) c.env = (do callWith p (← eval g c.env) [] (backTo p (starEach [e₁, e₂, e₃] c.env)) (backToKw p (keywordEach [] c.env))) := by rfl) : Ev w c (.Call g [e₁, e₂, e₃] [] p) l H Q :=
  Ev.callb (f := .type "range") keep_range hb (h.mono fun a H₂ ⟨x, e, q⟩ => q.mono fun b H₃ ⟨y, e', q⟩ => q.mono fun d H₄ ⟨e'', q⟩ s₁ Vs st ho => by
    subst e; subst e'; subst e''
    obtain ⟨A, B, D, rfl, ⟨t, rfl⟩, ⟨u, rfl⟩, z, rfl⟩ := three ho
    refine call_range_3 (by decide) ?_ (.inl (PyProof.noPylong_small (by decide)))
    obtain ⟨fr, x'⟩ := st.alloc (o := { cls := .type "range", data := .fields #[.int x t, .int y u, .int 4 z] }) (ao := .pred (isRange x y 4)) ⟨_, _, _, rfl⟩ rfl s₁.toks
    exact ⟨.ref _, _, rfl, x', q _ fr⟩) hn he
theorem range_size1 {x y : Int} : Builtin.Range.rangeSize x y 1 = if x < y then y - x else 0 := by
  unfold Builtin.Range.rangeSize
  by_cases h : x < y <;> simp [h]
theorem range_size4 {x : Int} {n : Nat} : Builtin.Range.rangeSize x (x + 4 * n) 4 = n := by
  unfold Builtin.Range.rangeSize
  by_cases h : x < x + 4 * n
  · simp only [show (4 : Int) > 0 by decide, if_true, h]; lia
  · simp only [show (4 : Int) > 0 by decide, if_true, h, if_false]; lia
theorem Src.range_from {H : AH} {r : Addr} {a b d : Int} {n : Nat} (h : H r = some (.pred (isRange a b d))) (hs : Builtin.Range.small a b d = true) (hn : Builtin.Range.rangeSize a b d = n) : (Src.range a d n).from H (.ref r) :=
  ⟨r, b, rfl, h, hs, by rw [hn]; simp, by rw [hn]; lia⟩

theorem Ev.len
    (hb : Bi w c g l H (.builtin "len")) (h : Ev w c e₁ l H fun a H₂ => LenP a H₂ Q)
    (hn : noStar [e₁] = true := by rfl)
    (he : eval (.Call g [e₁] [] p) c.env = (do callWith p (← eval g c.env) [] (backTo p (starEach [e₁] c.env)) (backToKw p (keywordEach [] c.env))) := by rfl) : Ev w c (.Call g [e₁] [] p) l H Q :=
  Ev.callb (f := .builtin "len") keep_len hb (h.mono fun a H₂ ⟨r, xs, e, hr, hl, q⟩ s₁ Vs st ho => by
    subst e
    obtain ⟨A, rfl, rfl⟩ := one ho
    obtain ⟨Vs, n, hv, hok⟩ := st.list hr
    have hlen := hok.length
    refine call_len_list (isList_of hv) (by simp; lia) ⟨.int xs.length, H₂, ⟨s₁.toks + 1, by simp [hlen]⟩, st.toks _, q⟩) hn he
theorem keep_sorted : keeperOf (.builtin "sorted") = pure .machine := rfl
theorem Ev.sortedl
    (hb : Bi w c g l H (.builtin "sorted")) (h : Ev w c e₁ l H fun a H₂ => ∃ (r : Addr) (ns : List Int), a = .ref r ∧ H₂ r = some (.list (ns.map .int)) ∧ ns.length < 64 ∧ ∀ (D : Addr) (ns' : List Int), H₂ D = Option.none → ns'.Perm ns → ns'.Pairwise (· ≤ ·) → Q (.ref D) (H₂.set D (.list (ns'.map .int))))
    (hn : noStar [e₁] = true := by rfl)
    (he : eval (.Call g [e₁] [] p) c.env = (do callWith p (← eval g c.env) [] (backTo p (starEach [e₁] c.env)) (backToKw p (keywordEach [] c.env))) := by rfl) : Ev w c (.Call g [e₁] [] p) l H Q :=
  Ev.callb (f := .builtin "sorted") keep_sorted hb (h.mono fun a H₂ ⟨r, ns, e, hr, hl, q⟩ s₁ Vs st ho => by
    subst e
    obtain ⟨A, rfl, rfl⟩ := one ho
    obtain ⟨Vs, n, hv, hok⟩ := st.list hr
    have hlen := hok.length
    obtain ⟨m, news, b⟩ := id st
    refine sorted_N b.fr b.nw (isList_of hv) hok.ints (by simp at hlen; lia) fun h' vs' ns' e F' N' hI hp hs => ?_
    obtain ⟨fr, x'⟩ := b.fresh (ao := .list (ns'.map .int)) F' N' (fun p hp => Nat.ne_of_lt (Nat.lt_succ_of_lt (Heap.lt_size (b.nw p hp).1))) ⟨vs', e, rfl, Oks.of_ints hI⟩ s₁.toks
    exact ⟨.ref _, _, rfl, x', q _ _ fr hp hs⟩) hn he

/-! comparisons upon the heap -/
noncomputable def CmpS (w : World) (c : Cx) (op : CmpOp) (a b : AV) (l : Loc) (H : AH) (q : Bool → Prop) : Prop :=
  ∀ V U s, a.ok V → b.ok U → St w c l H s → wpAny (model pr w) c.A (compareOp op V U) (fun V s' => ∃ b, V = .bool b ∧ St w c l H s' ∧ q b) FF s
theorem CmpS.of {op : CmpOp} {a b : AV} {q : Bool → Prop} (h : Cmp op a b q) : CmpS w c op a b l H q := fun V U s ha hb x => Cmp.sound ha hb x h
theorem CmpS.in_ {k : Int} {a : Addr} {ns : List Int} {q : Bool → Prop} (ha : H a = some (.list (ns.map .int))) (h : q (ns.any (· == k))) : CmpS w c .In (.int k) (.ref a) l H q := fun V U s hv hu x => by
  obtain ⟨t, rfl⟩ := hv; cases hu
  obtain ⟨Vs, n, ho, hok⟩ := x.list ha
  exact in_list_ints (isList_of ho) hok.ints ⟨_, rfl, x, h⟩
theorem CmpS.notin {k : Int} {a : Addr} {ns : List Int} {q : Bool → Prop} (ha : H a = some (.list (ns.map .int))) (h : q (!(ns.any (· == k)))) : CmpS w c .NotIn (.int k) (.ref a) l H q := fun V U s hv hu x => by
  obtain ⟨t, rfl⟩ := hv; cases hu
  obtain ⟨Vs, n, ho, hok⟩ := x.list ha
  exact notin_list_ints (isList_of ho) hok.ints ⟨_, rfl, x, h⟩
theorem CmpS.eqints (ok : c.Ok K lvl) {a b : Addr} {ns ms : List Int} {q : Bool → Prop} (ha : H a = some (.list (ns.map .int))) (hb : H b = some (.list (ms.map .int))) (h : q (decide (ns = ms))) : CmpS w c .Eq (.ref a) (.ref b) l H q := fun V U s hv hu x => by
  cases hv; cases hu
  obtain ⟨Vs, n, ho, hok⟩ := x.list ha
  obtain ⟨Us, k, ho', hok'⟩ := x.list hb
  exact eq_intsK (isList_of ho) hok.ints (isList_of ho') hok'.ints (by have := ok.units; show c.A.units + 64 < 9900; lia) ⟨_, rfl, x, h⟩
theorem CmpS.neints (ok : c.Ok K lvl) {a b : Addr} {ns ms : List Int} {q : Bool → Prop} (ha : H a = some (.list (ns.map .int))) (hb : H b = some (.list (ms.map .int))) (h : q (!decide (ns = ms))) : CmpS w c .NotEq (.ref a) (.ref b) l H q := fun V U s hv hu x => by
  cases hv; cases hu
  obtain ⟨Vs, n, ho, hok⟩ := x.list ha
  obtain ⟨Us, k, ho', hok'⟩ := x.list hb
  exact ne_intsK (isList_of ho) hok.ints (isList_of ho') hok'.ints (by have := ok.units; show c.A.units + 64 < 9900; omega) ⟨_, rfl, x, h⟩
theorem Ev.cmpS {op : CmpOp} (h : Ev w c e₁ l H fun a H₁ => Ev w c e₂ l H₁ fun b H₂ => CmpS w c op a b l H₂ fun v => Q (.bool v) H₂)
    (hm : behindInMarks op e₂ = false := by rfl) : Ev w c (.Compare e₁ [op] [e₂] p) l H Q := fun s x =>
  wpAny_Compare1 (h.bind x fun V s₁ v H₁ hv x₁ h₁ => h₁.bind x₁ fun U s₂ u H₂ hu x₂ h₂ => wpAny_mono (h₂ _ _ _ hv hu x₂) (fun V s' ⟨b, e, a, q⟩ => ⟨.bool b, H₂, e, a, q⟩) fun _ _ e => e) hm
theorem Tr.cmpS {op : CmpOp} {Q : Bool → AH → Prop} (h : Ev w c e₁ l H fun a H₁ => Ev w c e₂ l H₁ fun b H₂ => CmpS w c op a b l H₂ fun v => Q v H₂)
    (hm : behindInMarks op e₂ = false := by rfl) : Tr w c (.Compare e₁ [op] [e₂] p) l H Q := fun s x =>
  wpAny_isTrue_Compare1 (h.bind x fun V s₁ v H₁ hv x₁ h₁ => h₁.bind x₁ fun U s₂ u H₂ hu x₂ h₂ => wpAny_mono (h₂ _ _ _ hv hu x₂) (fun V s' ⟨b, e, a, q⟩ => by
    subst e; exact wpAny_truthy_bool ⟨H₂, a, q⟩) fun _ _ e => e) hm
/-- a < b < c -/
theorem Ev.cmp2 {op₁ op₂ : CmpOp} (h : Ev w c e₁ l H fun a H₁ => Ev w c e₂ l H₁ fun b H₂ => CmpS w c op₁ a b l H₂ fun v => (v = false → Q (.bool false) H₂) ∧ (v = true → Ev w c e₃ l H₂ fun d H₃ => CmpS w c op₂ b d l H₃ fun v => Q (.bool v) H₃))
    (hm : lastMarks [op₁, op₂] [e₂, e₃] = false := by with_unfolding_all rfl) : Ev w c (.Compare e₁ [op₁, op₂] [e₂, e₃] p) l H Q := fun s x =>
  Compare_chain (h.bind x fun V s₁ v H₁ hv x₁ h₁ => chain_link (h₁.bind x₁ fun U s₂ u H₂ hu x₂ h₂ => wpAny_mono (h₂ _ _ _ hv hu x₂) (fun V s' ⟨b, e, x₃, q⟩ => by
    subst e
    refine wpAny_truthy_bool ?_
    cases b with
    | false => rw [if_neg Bool.false_ne_true]; exact ⟨.bool false, H₂, rfl, x₃, q.1 rfl⟩
    | true =>
      rw [if_pos rfl]
      exact chain_last ((q.2 rfl).bind x₃ fun Z s₄ z H₃ hz x₄ h₄ => wpAny_mono (h₄ _ _ _ hu hz x₄) (fun V s' ⟨b, e, a, q⟩ => ⟨.bool b, H₃, e, a, q⟩) fun _ _ e => e)) fun _ _ e => e)) hm
theorem Tr.cmp2 {op₁ op₂ : CmpOp} {Q : Bool → AH → Prop} (h : Ev w c e₁ l H fun a H₁ => Ev w c e₂ l H₁ fun b H₂ => CmpS w c op₁ a b l H₂ fun v => (v = false → Q false H₂) ∧ (v = true → Ev w c e₃ l H₂ fun d H₃ => CmpS w c op₂ b d l H₃ fun v => Q v H₃))
    (hm : lastMarks [op₁, op₂] [e₂, e₃] = false := by with_unfolding_all rfl) : Tr w c (.Compare e₁ [op₁, op₂] [e₂, e₃] p) l H Q := fun s x =>
  isTrue_chain (h.bind x fun V s₁ v H₁ hv x₁ h₁ => test_link (h₁.bind x₁ fun U s₂ u H₂ hu x₂ h₂ => wpAny_mono (h₂ _ _ _ hv hu x₂) (fun V s' ⟨b, e, x₃, q⟩ => by
    subst e
    refine wpAny_truthy_bool ?_
    cases b with
    | false => rw [if_neg Bool.false_ne_true]; exact ⟨H₂, x₃, q.1 rfl⟩
    | true =>
      rw [if_pos rfl]
      exact test_last ((q.2 rfl).bind x₃ fun Z s₄ z H₃ hz x₄ h₄ => wpAny_mono (h₄ _ _ _ hu hz x₄) (fun V s' ⟨b, e, a, q⟩ => by subst e; exact wpAny_truthy_bool ⟨H₃, a, q⟩) fun _ _ e => e)) fun _ _ e => e)) hm

/-! [x] * n -/
theorem Ev.mul1 (h : Ev w c e₁ l H fun a H₁ => ∃ r, a = .ref r ∧ Ev w c e₂ l H₁ fun b H₂ => ∃ (x : AV) (n : Nat), b = .int n ∧ n ≤ 100 ∧ H₂ r = some (.list [x]) ∧ ∀ D, H₂ D = Option.none → Q (.ref D) (H₂.set D (.list (List.replicate n x)))) : Ev w c (.BinOp e₁ .Mult e₂ p) l H Q := fun s x =>
  wpAny_BinOp (h.bind x fun V s₁ v H₁ hv x₁ ⟨r, e, h₁⟩ => h₁.bind x₁ fun U s₂ u H₂ hu x₂ ⟨y, n, e', hn, hr, q⟩ => by
    subst e; subst e'; cases hv
    obtain ⟨t, rfl⟩ := hu
    obtain ⟨Vs, k, ho, hok⟩ := x₂.list hr
    obtain ⟨Y, rfl, hY⟩ := one hok
    obtain ⟨m, news, b⟩ := id x₂
    refine mul_list b.fr b.nw ho (by lia) (by lia) (by simp; lia) fun h' F' N' => ?_
    have fl : ∀ (n : Nat) (acc : Array Value), List.foldl (fun x1 x2 => x1 ++ x2) acc (List.replicate n #[Y]) = acc ++ (List.replicate n Y).toArray := by
      intro n
      induction n with
      | zero => intro acc; simp
      | succ n ih =>
        intro acc
        rw [List.replicate_succ, List.foldl_cons, ih, List.replicate_succ]
        apply Array.ext'
        simp
    have e2 : List.foldl (fun x1 x2 => x1 ++ x2) #[] (List.replicate (if (List.toArray [Y]).isEmpty = true then 0 else (n : Int).toNat) (List.toArray [Y])) = (List.replicate n Y).toArray := by
      have := fl n #[]
      simpa using this
    rw [e2] at N'
    have okr : ∀ n, Oks (List.replicate n y) (List.replicate n Y) := fun n => by
      induction n with
      | zero => exact .nil
      | succ n ih => exact .cons hY ih
    obtain ⟨fr, x'⟩ := b.fresh (ao := .list (List.replicate n y)) F' N' (fun p hp => Nat.ne_of_lt (Heap.lt_size (b.nw p hp).1)) ⟨_, 0, rfl, okr n⟩ s₂.toks
    exact ⟨.ref _, _, rfl, x', q _ fr⟩)
end
end

noncomputable def fnBody : Stmt → List Stmt
  | .FunctionDef _ _ body _ _ _ _ _ _ _ => body
  | _ => []
noncomputable def fnScope : Stmt → Scope
  | .FunctionDef _ _ _ _ _ _ scope _ _ _ => scope
  | _ => default
noncomputable def fnArgs : Stmt → Arguments
  | .FunctionDef _ a _ _ _ _ _ _ _ _ => a
  | _ => default
noncomputable def fnName : Stmt → Str
  | .FunctionDef n _ _ _ _ _ _ _ _ _ => n
  | _ => default
noncomputable def isDef : Stmt → Bool
  | .FunctionDef _ _ _ _ _ _ _ _ _ _ => true
  | _ => false
theorem isDef_eq {st : Stmt} (h : isDef st = true) : ∃ n a b d r t sc ts bd p, st = .FunctionDef n a b d r t sc ts bd p := by
  cases st with
  | FunctionDef => exact ⟨_, _, _, _, _, _, _, _, _, _, rfl⟩
  | _ => cases h
noncomputable def gts : List (String × Value) := [("GRAIN", .int 16 196), ("HEADER", .int 8 198), ("LISTS", .int 4 200), ("OFFSETS_marker", .int 20 331), ("END_marker", .int 4294967295 333), ("MARK_marker", .int (-4) 336), ("TAG", .int (-8) 339),
  ("OFFSETS_records", .int 20 386), ("END_records", .int 4294967295 388), ("MARK_compact", .int (-4) 413), ("WORD", .int 4294967296 531),
  ("block_size", .ref 28), ("list_number", .ref 35), ("Heap", .ref 108), ("first_offset", .ref 119), ("is_fresh", .ref 126), ("mark_from", .ref 133), ("mark", .ref 140), ("pointer_places", .ref 147), ("is_record", .ref 154),
  ("kept_blocks", .ref 161), ("set_targets", .ref 168), ("moved_word", .ref 175), ("alter_pointers", .ref 182), ("slide", .ref 189), ("compact", .ref 194), ("Memory", .ref 278),
  ("_law_row", .ref 289), ("_law_next", .ref 296), ("_law_kinds", .ref 301), ("_law_wide", .ref 308), ("_law_closure", .ref 315), ("_law_filled", .ref 322)]
noncomputable def bts : List (String × Value) := [("range", .type "range"), ("len", .builtin "len"), ("sorted", .builtin "sorted")]
noncomputable def gtsB (K : Frag) : Bool := gts.all fun p => match nsIn K mainGlobals (Str.ofString p.1) with | some (some v) => v == p.2 | _ => false
theorem globOk (P : Params) : GlobOk (KK P) gts bts := by
  constructor
  · unfold gts
    simp only [List.forall_mem_cons]
    repeat' constructor
    all_goals first | kernel_rfl | (intro p hp; cases hp)
  · unfold bts
    simp only [List.forall_mem_cons]
    refine ⟨⟨by kernel_rfl, by decide, by decide +kernel⟩, ⟨by kernel_rfl, by decide, by decide +kernel⟩, ⟨by kernel_rfl, by decide, by decide +kernel⟩, ?_⟩
    intro p hp; cases hp

section
variable {w : World} {c : Cx} {l l' : Loc} {H H' : AH} {s s' : Shared} {lvl : Nat}
/-- a def of the text's at its place, and what a call of it asks of it -/
structure DefAt (P : Params) (st : Stmt) (f code : Addr) (qual : Str) (mod : Value) (names : List String) : Prop where
  at_ : (KK P).lookup f = some (fnO qual st mod code)
  codeOk : codeIn (KK P) (.ref code) qual = true
  keep : keepIn (KK P) (.ref f) = true
  ok : (isDef st && (fnScope st).kind == .function && !(fnScope st).isCoroutine && !(fnScope st).isGenerator && (fnScope st).names.all (fun x => x.2 != .cell) && names.all (fun x => (fnScope st).names.lookup (Str.ofString x) == some .local)) = true
  nd : names.Nodup
  bind : ∀ Vs : List Value, Vs.length = names.length → bindArgs (fnX (fnName st) qual (fnArgs st) (fnBody st) (fnScope st) [] .none .none .none mod none (.ref code) .none) ⟨Vs, []⟩ = pure ((names.map Str.ofString).zip Vs)
theorem len1 {P : List Value → Prop} (h : ∀ a, P [a]) : ∀ Vs : List Value, Vs.length = 1 → P Vs := fun Vs e => by
  obtain ⟨a, rfl⟩ := List.length_eq_one_iff.mp e
  exact h a
theorem lenS {P : List Value → Prop} {n : Nat} (h : ∀ a Vs, Vs.length = n → P (a :: Vs)) : ∀ Vs : List Value, Vs.length = n + 1 → P Vs := fun Vs e => by
  cases Vs with
  | nil => cases e
  | cons a Vs => exact h a Vs (by simpa using e)
theorem len2 {P : List Value → Prop} (h : ∀ a b, P [a, b]) : ∀ Vs : List Value, Vs.length = 2 → P Vs := lenS (n := 1) fun a => len1 (P := fun Vs => P (a :: Vs)) (h a)
theorem len3 {P : List Value → Prop} (h : ∀ a b c, P [a, b, c]) : ∀ Vs : List Value, Vs.length = 3 → P Vs := lenS (n := 2) fun a => len2 (P := fun Vs => P (a :: Vs)) (h a)
theorem len4 {P : List Value → Prop} (h : ∀ a b c d, P [a, b, c, d]) : ∀ Vs : List Value, Vs.length = 4 → P Vs := lenS (n := 3) fun a => len3 (P := fun Vs => P (a :: Vs)) (h a)
theorem Call.goCode {P : Params} {st : Stmt} {f code : Addr} {qual : Str} {mod : Value} {names : List String} {args : List AV} {Q : AV → AH → Prop} (D : DefAt P st f code qual mod names) (hl : args.length = names.length)
    (h : ∀ c, Fn (KK P) lvl (fnScope st) [] c → Exs w c (fnBody st) (names.zip args) H (fun _ H' => Q .none H') Q) : CallC w (KK P) (lvl + 1) (.ref f) args H Q := by
  obtain ⟨e1, e2, _, e3, e4, e5⟩ := D
  simp only [Bool.and_eq_true, beq_iff_eq, Bool.not_eq_true', List.all_eq_true, bne_iff_ne] at e3
  obtain ⟨⟨⟨⟨⟨a0, a1⟩, a2⟩, a3⟩, a4⟩, a5⟩ := e3
  obtain ⟨name, fa, body, d, r, tp, scope, ts, bd, ps, rfl⟩ := isDef_eq a0
  exact Call.enterCode e1 e2 a1 a2 a3 (fun x hx => a4 x hx) (fun Vs hv => e5 Vs (by rw [hv, hl])) e4 (fun x hx => a5 x hx) fun c ok hc hs hcl => h c ⟨ok, hc, hs, hcl⟩
theorem Call.go {P : Params} {st : Stmt} {f code : Addr} {qual : Str} {mod : Value} {names : List String} {args : List AV} {Q : AV → AH → Prop} (D : DefAt P st f code qual mod names) (hl : args.length = names.length)
    (h : ∀ c, Fn (KK P) lvl (fnScope st) [] c → Exs w c (fnBody st) (names.zip args) H (fun _ H' => Q .none H') Q) : Call w (KK P) (lvl + 1) (.ref f) args H Q :=
  (Call.goCode D hl h).call
end
theorem Fn.names {K : Frag} {lvl : Nat} {sc : Scope} {cl} {c : Cx} {ls : List (String × NameKind)} (f : Fn K lvl sc cl c) (h : namesB sc ls = true) : NamesOk c.env ls := NamesOk.of h f.scope

section
variable {w : World} {K : Frag} {c : Cx} {l l' : Loc} {H H' : AH} {s s' : Shared} {lvl : Nat}

/-- an object of the rules' own is turned -/
theorem St.roTurn {r1 r2 : List (Addr × Obj)} {a : Addr} {o o' : Obj} {h' : Heap} (x : St w (c.withRo (r1 ++ (a, o) :: r2)) l H s) (hne : ∀ p ∈ r1 ++ r2, p.1 ≠ a) (hD : ∀ D mF, c.comp = some (D, mF) → D ≠ a) (hs : Heap.SameBut a s.heap h') (ho : h'.get? a = some o') (tk : Nat) :
    St w (c.withRo (r1 ++ (a, o') :: r2)) l H { s with heap := h', toks := tk } := by
  obtain ⟨m, news, e, F, N, hk, lc, ro⟩ := x
  have hin := ro (a, o) (List.mem_append_right _ (.head _))
  have off := (N _ hin.1).2
  refine ⟨m, (a, o') :: news.filter (fun p => p.1 ≠ a), by rw [e], F.change hs off.1 off.2, fun p hp => ?_, fun b ob hb => ?_, ?_, fun p hp => ?_⟩
  · rcases List.mem_cons.mp hp with rfl | hp
    · exact ⟨ho, off⟩
    · obtain ⟨hp, hn⟩ := List.mem_filter.mp hp
      exact ⟨(hs.2 _ (by simpa using hn)).trans (N p hp).1, (N p hp).2⟩
  · obtain ⟨y, hy, r⟩ := hk b ob hb
    exact ⟨y, .tail _ (List.mem_filter.mpr ⟨hy, by simpa using fun q : b = a => by rw [q, hin.2] at hb; cases hb⟩), r⟩
  · unfold CompOk at lc ⊢
    cases hc : c.comp with
    | none => simp only [hc] at lc ⊢; exact lc
    | some q =>
      obtain ⟨D, mF⟩ := q
      simp only [hc] at lc ⊢
      obtain ⟨e1, e2, od, es, ep, g, r⟩ := lc
      exact ⟨e1, e2, od, es, ep, .tail _ (List.mem_filter.mpr ⟨g, by simpa using hD D mF hc⟩), r⟩
  · rcases List.mem_append.mp hp with hp | hp
    · have := ro p (List.mem_append_left _ hp)
      exact ⟨.tail _ (List.mem_filter.mpr ⟨this.1, by simpa using hne p (List.mem_append_left _ hp)⟩), this.2⟩
    · rcases List.mem_cons.mp hp with rfl | hp
      · exact ⟨.head _, hin.2⟩
      · have := ro p (List.mem_append_right _ (.tail _ hp))
        exact ⟨.tail _ (List.mem_filter.mpr ⟨this.1, by simpa using hne p (List.mem_append_right _ hp)⟩), this.2⟩
theorem St.roOff {r1 r2 : List (Addr × Obj)} {a : Addr} {o : Obj} {h' : Heap} (x : St w (c.withRo (r1 ++ (a, o) :: r2)) l H s) (hne : ∀ p ∈ r1 ++ r2, p.1 ≠ a) (hD : ∀ D mF, c.comp = some (D, mF) → D ≠ a) (he : Heap.ExtBut a s.heap h') (tk : Nat) :
    St w (c.withRo (r1 ++ r2)) l H { s with heap := h', toks := tk } := by
  obtain ⟨m, news, e, F, N, hk, lc, ro⟩ := x
  have hin := ro (a, o) (List.mem_append_right _ (.head _))
  have off := (N _ hin.1).2
  refine ⟨m, news.filter (fun p => p.1 ≠ a), by rw [e], ⟨F.ns.at' fun o' e' => he _ _ (Ne.symm off.1) e', fun b o' e' => he _ _ (fun q => by rw [q, off.2] at e'; cases e') (F.keep b o' e'), F.above⟩, fun p hp => ?_, fun b ob hb => ?_, ?_, fun p hp => ?_⟩
  · obtain ⟨hp, hn⟩ := List.mem_filter.mp hp
    exact ⟨he _ _ (by simpa using hn) (N p hp).1, (N p hp).2⟩
  · obtain ⟨y, hy, r⟩ := hk b ob hb
    exact ⟨y, List.mem_filter.mpr ⟨hy, by simpa using fun q : b = a => by rw [q, hin.2] at hb; cases hb⟩, r⟩
  · unfold CompOk at lc ⊢
    cases hc : c.comp with
    | none => simp only [hc] at lc ⊢; exact lc
    | some q =>
      obtain ⟨D, mF⟩ := q
      simp only [hc] at lc ⊢
      obtain ⟨e1, e2, od, es, ep, g, r⟩ := lc
      exact ⟨e1, e2, od, es, ep, List.mem_filter.mpr ⟨g, by simpa using hD D mF hc⟩, r⟩
  · have : p ∈ r1 ++ (a, o) :: r2 := by
      rcases List.mem_append.mp hp with hp | hp
      · exact List.mem_append_left _ hp
      · exact List.mem_append_right _ (.tail _ hp)
    exact ⟨List.mem_filter.mpr ⟨(ro p this).1, by simpa using hne p hp⟩, (ro p this).2⟩
theorem St.roToH {r1 r2 : List (Addr × Obj)} {a : Addr} {o : Obj} {ao : AO} (x : St w (c.withRo (r1 ++ (a, o) :: r2)) l H s) (hne : ∀ p ∈ r1 ++ r2, p.1 ≠ a) (hD : ∀ D mF, c.comp = some (D, mF) → D ≠ a) (ho : ao.ok w o) :
    H a = none ∧ St w (c.withRo (r1 ++ r2)) l (H.set a ao) s := by
  obtain ⟨m, news, e, F, N, hk, lc, ro⟩ := x
  have hin := ro (a, o) (List.mem_append_right _ (.head _))
  refine ⟨hin.2, m, news, e, F, N, fun b ob hb => ?_, ?_, fun p hp => ?_⟩
  · unfold AH.set at hb
    split at hb
    · rename_i q; cases hb; exact ⟨o, by rw [q]; exact hin.1, ho⟩
    · exact hk b ob hb
  · unfold CompOk at lc ⊢
    cases hc : c.comp with
    | none => simp only [hc] at lc ⊢; exact lc
    | some q =>
      obtain ⟨D, mF⟩ := q
      simp only [hc] at lc ⊢
      obtain ⟨e1, e2, r⟩ := lc
      exact ⟨e1, by rw [AH.set_ne (hD D mF hc)]; exact e2, r⟩
  · have : p ∈ r1 ++ (a, o) :: r2 := by
      rcases List.mem_append.mp hp with hp | hp
      · exact List.mem_append_left _ hp
      · exact List.mem_append_right _ (.tail _ hp)
    exact ⟨(ro p this).1, by rw [AH.set_ne (hne p hp)]; exact (ro p this).2⟩
theorem St.roAt {a : Addr} {o : Obj} (x : St w c l H s) (h : (a, o) ∈ c.ro) : s.heap.get? a = some o ∧ H a = none := by
  obtain ⟨m, news, b⟩ := x
  have := b.ro (a, o) h
  exact ⟨(b.nw _ this.1).1, this.2⟩
theorem St.roFresh (x : St w c l H s) : ∀ p ∈ c.ro, p.1 < s.heap.objs.size := fun p hp => by
  obtain ⟨m, news, b⟩ := x
  exact Heap.lt_size (b.nw _ (b.ro p hp).1).1
theorem St.compLt (x : St w c l H s) : ∀ D mF, c.comp = some (D, mF) → D < s.heap.objs.size := fun D mF hc => by
  obtain ⟨m, news, b⟩ := x
  have lc := b.lc
  unfold CompOk at lc
  rw [hc] at lc
  obtain ⟨_, _, od, _, _, g, _⟩ := lc
  exact Heap.lt_size (b.nw _ g).1

/-- what is put by while a comprehension has its own names -/
noncomputable def Sv (c : Cx) (l : Loc) (mF : Str → Option Value) (ex : List (Addr × Obj)) : Prop := match c.comp with
  | none => LocOk l mF ∧ ex = []
  | some (D, m') => m' = mF ∧ ∃ od es ep, ex = [(D, od)] ∧ od.data = .dict es ep ∧ StrKeys es ∧ LocOk l (nsFind es)
abbrev Cx.inComp (c : Cx) (cenv : Env) (C : Addr) (mF : Str → Option Value) (ro : List (Addr × Obj)) : Cx := { c with env := cenv, comp := some (C, mF), ro := ro }
theorem St.compIn {r0 : List (Addr × Obj)} {cenv : Env} {h₁ : Heap} (x : St w (c.withRo (r0)) l H s) (hns : h₁.Ns s.heap.objs.size (fun _ => none)) (hk₁ : ∀ b o, s.heap.get? b = some o → h₁.get? b = some o) (hz : h₁.objs.size ≤ h₁.objs.size) (tk : Nat) :
    ∃ mF ex, Sv c l mF ex ∧ (∀ p ∈ ex, p.1 < s.heap.objs.size) ∧ St w (c.inComp cenv s.heap.objs.size mF (r0 ++ ex)) [] H { s with heap := h₁, toks := tk } := by
  obtain ⟨m, news, e, F, N, hk, lc, ro⟩ := x
  have F' : Fr c.h₀ c.L h₁ m := ⟨F.ns.keeps hk₁, fun b o e => hk₁ b o (F.keep b o e), F.above⟩
  have hn : ∀ p ∈ news, p.1 ≠ s.heap.objs.size := fun p hp => Nat.ne_of_lt (Heap.lt_size (N p hp).1)
  obtain ⟨oC, es, ep, hC, hd, hks, hf⟩ := hns
  have hCH : H s.heap.objs.size = none := by
    cases q : H s.heap.objs.size with
    | none => rfl
    | some o' => obtain ⟨y, hy, _⟩ := hk _ _ q; exact absurd rfl (hn _ hy)
  have hCL : s.heap.objs.size ≠ c.L := by
    obtain ⟨oL, _, _, hL, _⟩ := F.ns
    exact Ne.symm (Nat.ne_of_lt (Heap.lt_size hL))
  have hC0 : c.h₀.get? s.heap.objs.size = none := by
    cases q : c.h₀.get? s.heap.objs.size with
    | none => rfl
    | some o => exact absurd (Heap.lt_size (F.keep _ _ q)) (Nat.lt_irrefl _)
  have base : ∀ ex, (∀ p ∈ ex, p ∈ news ∧ H p.1 = none) → St w (c.inComp cenv s.heap.objs.size m (r0 ++ ex)) [] H { s with heap := h₁, toks := tk } := fun ex hex => by
    refine ⟨m, (s.heap.objs.size, oC) :: news, by rw [e], F', fun p hp => ?_, fun a o ha => ?_, ?_, fun p hp => ?_⟩
    · rcases List.mem_cons.mp hp with rfl | hp
      · exact ⟨hC, hCL, hC0⟩
      · exact ⟨hk₁ _ _ (N p hp).1, (N p hp).2⟩
    · obtain ⟨y, hy, r⟩ := hk a o ha
      exact ⟨y, .tail _ hy, r⟩
    · exact ⟨rfl, hCH, oC, es, ep, .head _, hd, hks, fun p hp => nomatch hp⟩
    · rcases List.mem_append.mp hp with hp | hp
      · exact ⟨.tail _ (ro p hp).1, (ro p hp).2⟩
      · exact ⟨.tail _ (hex p hp).1, (hex p hp).2⟩
  unfold CompOk at lc
  unfold Sv
  cases hc : c.comp with
  | none =>
    simp only [hc] at lc ⊢
    exact ⟨m, [], ⟨lc, rfl⟩, (by intro p hp; cases hp), base [] (by intro p hp; cases hp)⟩
  | some q =>
    obtain ⟨D, m'⟩ := q
    simp only [hc] at lc ⊢
    obtain ⟨e1, e2, od, es', ep', g, d, k, r⟩ := lc
    refine ⟨m, [(D, od)], ⟨e1.symm, od, es', ep', rfl, d, k, r⟩, ?_, base [(D, od)] ?_⟩
    · intro p hp; simp at hp; subst hp; exact Heap.lt_size (N _ g).1
    · intro p hp; simp at hp; subst hp; exact ⟨g, e2⟩
theorem St.compOut {r0 ex : List (Addr × Obj)} {cenv : Env} {C : Addr} {mF : Str → Option Value} (x : St w (c.inComp cenv C mF (r0 ++ ex)) l' H s) (sv : Sv c l mF ex) :
    ∃ oC, St w (c.withRo ((C, oC) :: r0)) l H s ∧ ∃ m, s.heap.Ns C m := by
  obtain ⟨m, news, e, F, N, hk, lc, ro⟩ := x
  obtain ⟨em, hH, oC, es, ep, g, d, k, r⟩ := lc
  subst em
  refine ⟨oC, ⟨m, news, e, F, N, hk, ?_, fun p hp => ?_⟩, nsFind es, oC, es, ep, (N _ g).1, d, k, fun _ => rfl⟩
  · unfold Sv at sv
    unfold CompOk
    cases hc : c.comp with
    | none => simp only [hc] at sv ⊢; exact sv.1
    | some q =>
      obtain ⟨D, m'⟩ := q
      simp only [hc] at sv ⊢
      obtain ⟨e1, od, es', ep', e2, d', k', r'⟩ := sv
      have := ro (D, od) (List.mem_append_right _ (by rw [e2]; exact .head _))
      exact ⟨e1.symm, this.2, od, es', ep', this.1, d', k', r'⟩
  · rcases List.mem_cons.mp hp with rfl | hp
    · exact ⟨g, hH⟩
    · exact ro p (List.mem_append_left _ hp)

/-- a frame of a comprehension's -/
structure CFn (K : Frag) (lvl : Nat) (sc : Scope) (cl : List (Str × Addr)) (c : Cx) : Prop where
  ok : c.Ok K lvl
  comp : ∃ D mF, c.comp = some (D, mF) ∧ ∀ p ∈ c.ro, p.1 ≠ D
  scope : c.env.scope = sc
  cells : c.env.cells = cl
theorem CFn.names {sc : Scope} {cl} {ls : List (String × NameKind)} (f : CFn K lvl sc cl c) (h : namesB sc ls = true) : NamesOk c.env ls := NamesOk.of h f.scope
theorem Asg.cname {sc : Scope} {cl : List (Str × Addr)} {x : String} {v : AV} {p : Pos} {ls : List (String × NameKind)} {P : Loc → AH → Prop} (fn : CFn K lvl sc cl c) (hn : NamesOk c.env ls) (h1 : assoc x ls = some NameKind.local) (h : P (l.put x v) H) : Asg w c (.Name (Str.ofString x) p) v l H P := fun V s hv st => by
  refine wpAny_assign_Name ?_
  obtain ⟨m, news, e, F, N, hk, lc, ro⟩ := st
  obtain ⟨D, mF, hc, hoff⟩ := fn.comp
  have el := fn.ok.el
  rw [hc] at el
  unfold CompOk at lc
  rw [hc] at lc
  obtain ⟨em, hH, od, es, ep, g, d, k, r⟩ := lc
  have hD := N _ g
  refine wpAny_storeName_local (hn.kind _ (mem_of_assoc h1)) (m := nsFind es) (by rw [el]; exact ⟨od, es, ep, hD.1, d, k, fun _ => rfl⟩) (fun h' hns hs => ?_) (by rw [fn.ok.ek]; rfl)
  rw [el] at hns hs
  obtain ⟨od', es', ep', hg', hd', hk', hf'⟩ := hns
  refine ⟨_, H, ⟨m, (D, od') :: news.filter (fun p => p.1 ≠ D), by rw [e], F.change hs hD.2.1 hD.2.2, fun p hp => ?_, fun a o ha => ?_, ?_, fun p hp => ?_⟩, h⟩
  · rcases List.mem_cons.mp hp with rfl | hp
    · exact ⟨hg', hD.2⟩
    · obtain ⟨hp, hn⟩ := List.mem_filter.mp hp
      exact ⟨(hs.2 _ (by simpa using hn)).trans (N p hp).1, (N p hp).2⟩
  · obtain ⟨y, hy, r⟩ := hk a o ha
    exact ⟨y, .tail _ (List.mem_filter.mpr ⟨hy, by simpa using fun q : a = D => by rw [q, hH] at ha; cases ha⟩), r⟩
  · unfold CompOk
    rw [hc]
    refine ⟨em, hH, od', es', ep', .head _, hd', hk', ?_⟩
    have := r.store (x := x) hv
    intro p hp
    obtain ⟨U, e, o⟩ := this p hp
    exact ⟨U, (hf' _).trans e, o⟩
  · exact ⟨.tail _ (List.mem_filter.mpr ⟨(ro p hp).1, by simpa using hoff p hp⟩), (ro p hp).2⟩
end

section
variable {w : World} {K : Frag} {A : Around} {c : Cx} {l l' : Loc} {H H' : AH} {s s' : Shared} {lvl : Nat}

theorem compLoop_any {A : Around} {R : Result → Shared → Prop} {elt target iter : PySem.Expr} {ifs : List PySem.Expr} {scope : Scope} {pos : Pos} {it acc : Value} {env : Env} (I : Nat → Shared → Prop)
    (turn : ∀ n s, I n s → wpAny (model pr w) A (pyNext it) (fun r s₁ => match r with
      | none => R (.ok .next) s₁
      | some v => wpAny (model pr w) A (letOwnedTupleGo target it v) (fun _ s₁' => wpAny (model pr w) A (assign target env v) (fun _ s₂ =>
          wpAny (model pr w) A (forIn ifs true fun c r => if r = true then do let ok ← PySem.isTrue c env (eval c env); pure (ForInStep.yield ok) else pure (ForInStep.yield r)) (fun ok s₃ =>
            if ok = true then wpAny (model pr w) A (eval elt env) (fun x s₄ =>
              wpAny (model pr w) A (call (.builtin "list.append") [acc, x]) (fun _ s₅ => ∃ m, m < n ∧ I m s₅) (notedBy (model pr w) A env fun e s' => R (.error e) s') s₄) (notedBy (model pr w) A env fun e s' => R (.error e) s') s₃
            else ∃ m, m < n ∧ I m s₃) (notedBy (model pr w) A env fun e s' => R (.error e) s') s₂) (notedBy (model pr w) A env fun e s' => R (.error e) s') s₁') (notedBy (model pr w) A env fun e s' => R (.error e) s') s₁) (notedBy (model pr w) A env fun e s' => R (.error e) s') s)
    (n : Nat) (h : I n s) :
    codeAny (model pr w) A (.compLoop (.ListComp elt [⟨target, iter, ifs, 0⟩] scope pos) 0 it acc env) R s := by
  refine codeAny_loop rfl I (fun n s hI => ?_) n h
  show wpAny _ A ((compTurn (.ListComp elt [⟨target, iter, ifs, 0⟩] scope pos) 0 it acc env).onRaise (fun x => do noteFrame x env; theTreesLotGoes x)) _ _ s
  refine wpAny_noted ?_
  rw [compTurn_list]
  refine wpAny_bind (wpAny_standAt (wpAny_bind (wpAny_mono (turn n s hI) (fun r s₁ h₁ => ?_) fun _ _ h' => h')))
  cases r with
  | none => exact wpAny_pure h₁
  | some v =>
    refine wpAny_bind (wpAny_mono h₁ (fun _ s₁' h₁' => ?_) fun _ _ h' => h')
    refine wpAny_bind (wpAny_mono h₁' (fun _ s₂ h₂ => wpAny_bind (wpAny_mono h₂ (fun ok s₃ h₃ => ?_) fun _ _ h' => h')) fun _ _ h' => h')
    cases ok with
    | false => exact wpAny_pure ⟨rfl, h₃⟩
    | true =>
      exact wpAny_bind (wpAny_bind (wpAny_mono h₃ (fun x s₄ h₄ => wpAny_bind (wpAny_mono h₄ (fun _ s₅ h₅ => wpAny_pure (wpAny_pure ⟨rfl, h₅⟩)) fun _ _ h' => h')) fun _ _ h' => h'))

noncomputable def Tests (w : World) (c : Cx) (l : Loc) (H : AH) (Q : Bool → AH → Prop) : List PySem.Expr → Prop
  | [] => Q true H
  | [t] => Tr w c t l H Q
  | _ => False
theorem Tests.run {Q : Bool → AH → Prop} {ifs : List PySem.Expr} (h : Tests w c l H Q ifs) (st : St w c l H s) :
    wpAny (model pr w) c.A (forIn ifs true fun e r => if r = true then do let ok ← PySem.isTrue e c.env (eval e c.env); pure (ForInStep.yield ok) else pure (ForInStep.yield r)) (fun ok s' => ∃ H', St w c l H' s' ∧ Q ok H') FF s := by
  match ifs, h with
  | [], h => exact wpAny_tests_nil ⟨H, st, h⟩
  | [t], h => exact wpAny_tests_one (h.bind st fun b s₁ H₁ x₁ q => ⟨H₁, x₁, q⟩)

theorem St.none_of {a : Addr} (x : St w c l H s) (h : s.heap.objs.size ≤ a) : H a = none := by
  cases q : H a with
  | none => rfl
  | some o => obtain ⟨o', e, _⟩ := x.get q; exact absurd (Heap.lt_size e) (Nat.not_lt.mpr h)
/-- the ledger with a scope's fresh cells -/
noncomputable def layH (H : AH) (n : Nat) : List (Str × NameKind) → AH
  | [] => H
  | (_, k) :: r => if k == .cell then layH (H.set n (.cell none)) (n + 1) r else layH H n r
theorem St.lay : ∀ {names : List (Str × NameKind)} {H : AH} {s : Shared}, St w c l H s → St w c l (layH H s.heap.objs.size names) { s with heap := pushCells s.heap names }
  | [], _, _, x => x
  | (_, k) :: r, H, s, x => by
    show St w c l (if k == .cell then layH (H.set _ (.cell none)) (_ + 1) r else layH H _ r) _
    unfold pushCells
    split
    · have := (x.alloc (o := { cls := .type "cell", data := .cell none }) (ao := .cell none) (.inl ⟨rfl, rfl⟩) rfl s.toks).2.lay (names := r)
      rw [show ({ s with heap := s.heap.push { cls := .type "cell", data := .cell none }, toks := s.toks } : Shared).heap.objs.size = s.heap.objs.size + 1 from Heap.size_push ..] at this
      exact this
    · exact x.lay
theorem newEnvC {scope : Scope} {cl : List (Str × Addr)} {env : Env} {Q : Env → Shared → Prop}
    (h : Q { scope := scope, locals := s.heap.objs.size, globals := env.globals, cells := cellsFrom (s.heap.objs.size + 1) scope.names cl, qual := env.qual, func := none, code := env.code, frame := env.frame, builtins := env.builtins }
      { s with heap := pushCells (s.heap.push { cls := .type "dict", data := .dict #[] }) scope.names }) :
    wpAny (model pr w) A (newFunctionEnv scope env.globals cl [] env.qual none .none (some env)) Q FF s := by
  simp only [newFunctionEnv, Option.isSome_some, if_true]
  refine wpAny_bind (wpAny_alloc ?_)
  refine wpAny_bind (wpAny_layCells _ (fun name kind cells => by cases hkc : kind == NameKind.cell <;> simp [hkc]) _ _ _ _ ?_)
  rw [show ({ s with heap := s.heap.push { cls := .type "dict", data := .dict #[] } } : Shared).heap.objs.size = s.heap.objs.size + 1 from Heap.size_push ..]
  exact wpAny_bind (by rw [List.forIn_nil]; exact wpAny_pure (wpAny_pure h))
/-- a comprehension's turn; what stands between two turns -/
noncomputable def CompT (w : World) (c : Cx) (target elt : PySem.Expr) (ifs : List PySem.Expr) (src : Src) (I : Nat → AH → List AV → Prop) : Prop :=
  ∀ i v H ys, i < src.len → src.get i v → I i H ys → Asg w c target v [] H fun l₁ H₀ => Tests w c l₁ H₀ (fun b H₁ => (b = false → I (i + 1) H₁ ys) ∧ (b = true → Ev w c elt l₁ H₁ fun y H₂ => I (i + 1) H₂ (ys ++ [y]))) ifs
inductive CompI (w : World) (c : Cx) (src : Src) (I : Nat → AH → List AV → Prop) (acc J : Addr) (r : List (Addr × Obj)) (k : Nat) (s : Shared) : Prop
  | mk (H : AH) (i : Nat) (oJ : Obj) (ys : List AV) (Ys : List Value) (n : Nat) (hys : Oks ys Ys) (x : St w (c.withRo ((acc, listOf (List.toArray Ys) n) :: (J, oJ) :: r)) [] H s) (hio : src.it i oJ) (hI : I i H ys) (hi : i ≤ src.len) (hk : k = src.len + 1 - i)
theorem compRun {target iter elt : PySem.Expr} {ifs : List PySem.Expr} {scope : Scope} {pos : Pos} {src : Src} {I : Nat → AH → List AV → Prop} {acc J : Addr} {r : List (Addr × Obj)} {RR : Result → Shared → Prop} {oJ : Obj}
    (hh : c.A.handled = none) (neA : ∀ oJ, ∀ p ∈ ([] : List (Addr × Obj)) ++ ((J, oJ) :: r), p.1 ≠ acc) (neJ : ∀ oA, ∀ p ∈ [(acc, oA)] ++ r, p.1 ≠ J) (CA : ∀ D m, c.comp = some (D, m) → D ≠ acc) (CJ : ∀ D m, c.comp = some (D, m) → D ≠ J)
    (hold : ∀ i H ys, I i H ys → src.holds H ∧ ys.length ≤ i) (hlen : src.len ≤ 900) (turn : ∀ oA oJ, CompT w (c.withRo ((acc, oA) :: (J, oJ) :: r)) target elt ifs src I)
    (fin : ∀ H ys Ys n s', St w (c.withRo ([(acc, listOf (List.toArray Ys) n)] ++ r)) [] H s' → Oks ys Ys → I src.len H ys → RR (.ok .next) s')
    (x : St w (c.withRo ((acc, listOf (List.toArray []) 0) :: (J, oJ) :: r)) [] H s) (hio : src.it 0 oJ) (h0 : I 0 H []) :
    codeAny (model pr w) c.A (.compLoop (.ListComp elt [⟨target, iter, ifs, 0⟩] scope pos) 0 (.ref J) (.ref acc) c.env) RR s := by
  refine compLoop_any (CompI w c src I acc J r) ?_ (src.len + 1) ⟨H, 0, oJ, [], [], 0, .nil, x, hio, h0, Nat.zero_le _, rfl⟩
  clear h0 hio x
  intro k s' hI
  cases hI with
  | mk H i oJ ys Ys n hys x hio hI hi hk =>
  subst hk
  have hit : s'.heap.get? J = some oJ := (x.roAt (a := J) (o := oJ) (.tail _ (.head _))).1
  have yl := hold i H ys hI
  by_cases hlt : i < src.len
  · refine Src.next x yl.1 hlt hit hio fun V v o' h' tk hv hg hio' hit' hs' => letGo_it hit' hio' ?_
    have x' := St.roTurn (c := c) (r1 := [(acc, _)]) (r2 := r) x (neJ _) CJ hs' hit' tk
    generalize ({ s' with heap := h', toks := tk } : Shared) = s₁ at x' ⊢
    clear hit' hs' hit x hio
    refine wpAny_mono (turn _ _ i v H ys hlt hg hI V s₁ hv x') (fun _ s₂ hb => ?_) fun _ _ e => e.elim
    obtain ⟨l₁, H₂, x₂, hb⟩ := hb
    have hT := Tests.run hb x₂
    refine wpAny_mono hT (fun b s₃ hb => ?_) fun _ _ e => e.elim
    obtain ⟨H₃, x₃, q⟩ := hb
    cases b with
    | false =>
      rw [if_neg Bool.false_ne_true]
      exact ⟨src.len + 1 - (i + 1), by lia, H₃, i + 1, o', ys, Ys, n, hys, x₃.weaken (fun _ h => nomatch h) (fun _ _ e => e), hio', q.1 rfl, hlt, rfl⟩
    | true =>
      rw [if_pos rfl]
      refine wpAny_mono ((q.2 rfl) s₃ x₃) (fun Y s₄ hb => ?_) fun _ _ e => e.elim
      obtain ⟨y, H₄, hy, x₄, hI'⟩ := hb
      have hA₄ : s₄.heap.get? acc = some (listOf (List.toArray Ys) n) := (x₄.roAt (a := acc) (o := listOf (List.toArray Ys) n) (.head _)).1
      have hYl := hys.length
      have yl := yl.2
      refine append_at hA₄ (fun h' hs' ho' => ?_) (by have : sizeLine = 2 ^ 24 := rfl; simp; lia)
      have x₅ := St.roTurn (c := c) (r1 := []) (r2 := (J, o') :: r) x₄ (neA o') CA hs' ho' s₄.toks
      have e5 : (List.toArray Ys).push Y = List.toArray (Ys ++ [Y]) := by simp
      rw [e5] at x₅
      exact ⟨src.len + 1 - (i + 1), by (clear hh neA neJ CA CJ hold hlen turn fin hys hI hi hv hg hio' x' x₂ hb hT x₃ q hy x₄ hI' hA₄ hYl yl hs' ho' x₅ e5; omega), H₄, i + 1, o', ys ++ [y], Ys ++ [Y], n + 1, hys.snoc hy, x₅.weaken (fun _ h => nomatch h) (fun _ _ e => e), hio', hI', hlt, rfl⟩
  · have e : i = src.len := Nat.le_antisymm hi (Nat.le_of_not_lt hlt)
    subst e
    exact Src.stop hh x yl.1 hit hio fun h' he' => fin H ys Ys n _ (St.roOff (c := c) (r1 := [(acc, _)]) (r2 := r) x (neJ _) CJ he' _) hys hI
theorem compCore {target iter elt : PySem.Expr} {ifs : List PySem.Expr} {scope : Scope} {pos : Pos} {cl : List (Str × Addr)} {v : AV} {V : Value} (ok : c.Ok K lvl) (hoff : ∀ D mF, c.comp = some (D, mF) → ∀ p ∈ c.ro, p.1 ≠ D)
    (hkind : scope.kind = .function) {RR : Value → Addr → Result → Shared → Prop}
    (st : St w c l H s) (hv : v.ok V) (src : Src) (I : Nat → Nat → AH → List AV → Prop) (hsrc : src.from H v) (h0 : ∀ n, (∀ a, n ≤ a → H a = none) → I n 0 (layH H n scope.names) []) (hold : ∀ n i H ys, I n i H ys → src.holds H ∧ ys.length ≤ i) (hlen : src.len ≤ 900)
    (turn : ∀ n c', CFn K lvl (relabel scope c.env) (cellsFrom n scope.names cl) c' → CompT w c' target elt ifs src (I n))
    (fin : ∀ n acc C oC H' ys s', (∀ p ∈ c.ro, p.1 ≠ C) → (∀ D mF, c.comp = some (D, mF) → D ≠ C) → St w (c.withRo ((C, oC) :: c.ro)) l (H'.set acc (.list ys)) s' → H' acc = none → (∃ m, s'.heap.Ns C m) → I n src.len H' ys → RR (.ref acc) C (.ok .next) s') :
    wpAny (model pr w) c.A (pyIter V) (fun it s₂ => wpAny (model pr w) c.A (newList []) (fun acc s₃ => wpAny (model pr w) c.A (newFunctionEnv scope c.env.globals cl [] c.env.qual none .none (some c.env)) (fun cenv s₄ =>
      codeAny (model pr w) c.A (.compStart (.ListComp elt [⟨target, iter, ifs, 0⟩] scope pos) 0 it acc { cenv with scope := relabel scope c.env }) (RR acc cenv.locals) s₄) FF s₃) FF s₂) FF s := by
  have fresh := st.roFresh
  have clt := st.compLt
  refine Src.start st hv hsrc fun oJ hf hio => ?_
  have x₂ := st.roAdd hf s.toks
  generalize s.heap.objs.size = J at fresh clt x₂ ⊢
  generalize ({ s with heap := s.heap.push oJ } : Shared) = s₂ at x₂ ⊢
  clear hf hsrc hv
  refine wpAny_newObj_type (hd := by size_fits) ?_
  have x₃ := x₂.roAdd (o := { cls := .type "list", dict := none, data := .seq ([] : List Value).toArray }) rfl s₂.toks
  have hJlt : J < s₂.heap.objs.size := by have := x₂.roFresh (J, oJ) (.head _); exact this
  generalize hacc : s₂.heap.objs.size = acc at x₃ hJlt ⊢
  refine newEnvC ?_
  generalize hs₃ : ({ s₂ with heap := s₂.heap.push { cls := .type "list", dict := none, data := .seq ([] : List Value).toArray }, toks := s₂.toks } : Shared) = s₃ at x₃
  dsimp only
  obtain ⟨mF, ex, sv, exlt, x₄⟩ := x₃.compIn (r0 := (acc, { cls := .type "list", dict := none, data := .seq ([] : List Value).toArray }) :: (J, oJ) :: c.ro) (cenv := { scope := relabel scope c.env, locals := s₃.heap.objs.size, globals := c.env.globals, cells := cellsFrom (s₃.heap.objs.size + 1) scope.names cl, qual := c.env.qual, func := none, code := c.env.code, frame := c.env.frame, builtins := c.env.builtins }) (Heap.Ns.new s₃.heap (.type "dict")) (fun _ _ e => Heap.get?_push_of_some _ e) (Nat.le_refl _) s₃.toks
  have x₄ := x₄.lay (names := scope.names)
  rw [show ({ s₃ with heap := s₃.heap.push { cls := .type "dict", data := .dict #[] }, toks := s₃.toks } : Shared).heap.objs.size = s₃.heap.objs.size + 1 from Heap.size_push ..] at x₄
  have haccC : acc < s₃.heap.objs.size := x₃.roFresh (acc, _) (.head _)
  have hro3 : ∀ p ∈ c.ro, p.1 < s₃.heap.objs.size := fun p hp => Nat.lt_trans (Nat.lt_trans (fresh p hp) hJlt) haccC
  have hcl3 : ∀ D mF, c.comp = some (D, mF) → D < J := clt
  have exD : ∀ p ∈ ex, ∃ mF, c.comp = some (p.1, mF) := by
    intro p hp
    unfold Sv at sv
    cases hc : c.comp with
    | none => simp only [hc] at sv; rw [sv.2] at hp; cases hp
    | some q =>
      obtain ⟨D, m'⟩ := q
      simp only [hc] at sv
      obtain ⟨_, od, es, ep, e2, _⟩ := sv
      rw [e2] at hp; simp at hp; subst hp
      exact ⟨m', rfl⟩
  have h0 := h0 (s₃.heap.objs.size + 1) fun a ha => x₃.none_of (Nat.le_of_succ_le ha)
  generalize hC : s₃.heap.objs.size = C at x₄ haccC hro3 h0 ⊢
  generalize hH1 : layH H (C + 1) scope.names = H1 at x₄ h0
  generalize hcl' : cellsFrom (C + 1) scope.names cl = cl' at x₄ ⊢
  generalize hh1 : pushCells (s₃.heap.push { cls := .type "dict", data := .dict #[] }) scope.names = h₁ at x₄ ⊢
  have exJ : ∀ p ∈ ex, p.1 < J := fun p hp => by obtain ⟨mF, e⟩ := exD p hp; exact hcl3 _ _ e
  have neA : ∀ oJ, ∀ p ∈ ([] : List (Addr × Obj)) ++ ((J, oJ) :: (c.ro ++ ex)), p.1 ≠ acc := fun oJ p hp => by
    simp only [List.nil_append, List.mem_cons, List.mem_append] at hp
    rcases hp with rfl | hp | hp
    · exact Nat.ne_of_lt hJlt
    · exact Nat.ne_of_lt (Nat.lt_trans (fresh p hp) hJlt)
    · exact Nat.ne_of_lt (Nat.lt_trans (exJ p hp) hJlt)
  have neJ : ∀ oA, ∀ p ∈ [(acc, oA)] ++ (c.ro ++ ex), p.1 ≠ J := fun oA p hp => by
    simp only [List.cons_append, List.nil_append, List.mem_cons, List.mem_append] at hp
    rcases hp with rfl | hp | hp
    · exact Ne.symm (Nat.ne_of_lt hJlt)
    · exact Nat.ne_of_lt (fresh p hp)
    · exact Nat.ne_of_lt (exJ p hp)
  have neC : ∀ (oA oJ : Obj), ∀ p ∈ (acc, oA) :: (J, oJ) :: (c.ro ++ ex), p.1 ≠ C := fun oA oJ p hp => by
    simp only [List.mem_cons, List.mem_append] at hp
    rcases hp with rfl | rfl | hp | hp
    · exact Nat.ne_of_lt haccC
    · exact Nat.ne_of_lt (Nat.lt_trans hJlt haccC)
    · exact Nat.ne_of_lt (hro3 p hp)
    · exact Nat.ne_of_lt (Nat.lt_trans (Nat.lt_trans (exJ p hp) hJlt) haccC)
  have loop := compRun (iter := iter) (scope := scope) (pos := pos) (c := c.inComp { scope := relabel scope c.env, locals := C, globals := c.env.globals, cells := cl', qual := c.env.qual, func := none, code := c.env.code, frame := c.env.frame, builtins := c.env.builtins } C mF []) (r := c.ro ++ ex) (RR := RR (.ref acc) C) ok.hh neA neJ (fun D m e => by cases e; exact Ne.symm (Nat.ne_of_lt haccC)) (fun D m e => by cases e; exact Ne.symm (Nat.ne_of_lt (Nat.lt_trans hJlt haccC))) (hold (C + 1)) hlen
    (fun oA oJ => turn (C + 1) _ (hcl' ▸ ⟨⟨ok.hh, ok.frames, ok.ff, ok.fk, ok.below, ok.kin, ok.gb, ok.room, ok.units, hkind, ok.eg, ok.eb, rfl⟩, ⟨C, mF, rfl, neC oA oJ⟩, rfl, rfl⟩))
    (fun H ys Ys n s' x' hys hI => by
      obtain ⟨oC, x₆, hm⟩ := St.compOut (c := c) (r0 := (acc, listOf (List.toArray Ys) n) :: c.ro) x' sv
      have x₇ := St.roToH (r1 := [(C, oC)]) (r2 := c.ro) (ao := .list ys) x₆ (fun p hp => by
        simp only [List.cons_append, List.nil_append, List.mem_cons] at hp
        rcases hp with rfl | hp
        · exact Ne.symm (Nat.ne_of_lt haccC)
        · exact Nat.ne_of_lt (Nat.lt_trans (fresh p hp) hJlt)) (fun D mF e => Nat.ne_of_lt (Nat.lt_trans (hcl3 D mF e) hJlt)) ⟨Ys, n, rfl, hys⟩
      exact fin _ acc C oC H ys s' (fun p hp => Nat.ne_of_lt (hro3 p hp)) (fun D mF e => Nat.ne_of_lt (Nat.lt_trans (Nat.lt_trans (hcl3 D mF e) hJlt) haccC)) x₇.2 x₇.1 hm hI)
    x₄ hio h0
  refine codeAny_compStart_list loop ?_
  have hit : h₁.get? J = some oJ := (x₄.roAt (a := J) (o := oJ) (.tail _ (.head _))).1
  cases src with
  | list ax xs => exact wpAny_pyIter_listiter (it := J) (l := ax) (i := 0) ⟨oJ, hit, hio.1, hio.2⟩ loop
  | range a d n =>
    cases hio
    exact wpAny_pyIter_rangeiter (it := J) hit loop
/-- what a comprehension wants -/
inductive CompP (w : World) (K : Frag) (lvl : Nat) (c : Cx) (scope : Scope) (cl : List (Str × Addr)) (target elt : PySem.Expr) (ifs : List PySem.Expr) (Q : AV → AH → Prop) (v : AV) (H₁ : AH) : Prop
  | mk (src : Src) (I : Nat → Nat → AH → List AV → Prop) (hf : src.from H₁ v) (hl : src.len ≤ 900) (h0 : ∀ n, (∀ a, n ≤ a → H₁ a = Option.none) → I n 0 (layH H₁ n scope.names) []) (hh : ∀ n i H ys, I n i H ys → src.holds H ∧ ys.length ≤ i)
    (turn : ∀ n c', CFn K lvl (relabel scope c.env) (cellsFrom n scope.names cl) c' → CompT w c' target elt ifs src (I n))
    (fin : ∀ n H' ys D, I n src.len H' ys → H' D = Option.none → Q (.ref D) (H'.set D (.list ys)))
/-- x = [elt for target in iter (if test)] on one line -/
theorem Ex.comp {sc : Scope} {cl₀ cl : List (Str × Addr)} {x : String} {ls : List (String × NameKind)} {target iter elt : PySem.Expr} {ifs : List PySem.Expr} {scope : Scope} {pos p p' : Pos} {N : Loc → AH → Prop} {R : AV → AH → Prop}
    (fn : Fn K lvl sc cl₀ c) (hn : NamesOk c.env ls) (h1 : assoc x ls = some NameKind.local)
    (hsw : swapsWith (.ListComp elt [⟨target, iter, ifs, 0⟩] scope pos) (some (.Name (Str.ofString x) p')) p.line c.env = pure true)
    (hkind : scope.kind = .function) (hnames : ∀ x ∈ scope.names, x.2 = .local → scope.names.lookup x.1 = some .local) (hclos : closureFor scope c.env = pure cl)
    (h : Ev w c iter l H (CompP w K lvl c scope cl target elt ifs fun v H' => N (l.put x v) H'))
    (hs : ∀ x, foldedSetIterable iter c.env x = pure x := by intro _; rfl) :
    Ex w c (.Assign [.Name (Str.ofString x) p'] (.ListComp elt [⟨target, iter, ifs, 0⟩] scope pos) p) l H N R := fun s st => by
  rw [exec_Assign_Name_used _ _ _ _ hsw]
  refine wpAny_bind (wpAny_standAt (wpAny_bind ?_))
  show wpAny _ c.A (do let _ ← comprehension (.ListComp elt [⟨target, iter, ifs, 0⟩] scope pos) scope c.env _ (newList []) false (eval iter c.env) (some (PySem.assign (.Name (Str.ofString x) p') c.env))) _ _ s
  refine wpAny_bind (wpAny_mono (wpAny_comprehension_free (Q := fun _ s' => Fl w c N R .next s') (use := some (PySem.assign (.Name (Str.ofString x) p') c.env)) rfl hs hclos hkind hnames (h.bind st fun V s₁ v H₁ hv x₁ ⟨src, I, hsrc, hlen, h0, hold, turn, fin⟩ => ?_))
    (fun _ s' hq => wpAny_pure (wpAny_pure hq)) fun _ _ e => e)
  refine compCore (RR := compPost (model pr w) c.A FF (some (PySem.assign (PySem.Expr.Name (Str.ofString x) p') c.env)) (fun _ s' => Fl w c N R .next s')) fn.ok (fun D mF e => by rw [fn.comp] at e; cases e) hkind x₁ hv src I hsrc h0 hold hlen turn ?_
  intro n acc C oC H' ys s' hCA _ x₂ hacc hm hI
  show wpAny _ _ (PySem.assign _ c.env (.ref acc)) _ _ s'
  have fn' := fn.ro ((C, oC) :: c.ro)
  refine wpAny_assign_Name (St.store (c := (c.withRo ((C, oC) :: c.ro))) (v := .ref acc) fn'.ok fn'.comp hn h1 x₂ rfl fun s₃ x₃ => ?_)
  have hCs := x₃.roAt (a := C) (o := oC) (.head _)
  have hCs' := x₂.roAt (a := C) (o := oC) (.head _)
  obtain ⟨m, oc, es, ep, hc1, hc2⟩ := hm
  have e : oc = oC := by rw [hCs'.1] at hc1; exact (Option.some.inj hc1).symm
  subst e
  refine ⟨m, ⟨oc, es, ep, hCs.1, hc2⟩, fun h' hs' => ⟨l.put x (.ref acc), _, St.roOff (r1 := []) (r2 := c.ro) x₃ ?_ (fun D mF e => by rw [fn.comp] at e; cases e) hs'.extBut _, fin n H' ys acc hI hacc⟩⟩
  exact fun p hp => hCA p hp
/-- [elt for target in iter (if test)] as a value -/
theorem Ev.comp {cl : List (Str × Addr)} {target iter elt : PySem.Expr} {ifs : List PySem.Expr} {scope : Scope} {pos : Pos} {Q : AV → AH → Prop}
    (ok : c.Ok K lvl) (hoff : ∀ D mF, c.comp = some (D, mF) → ∀ p ∈ c.ro, p.1 ≠ D)
    (hkind : scope.kind = .function) (hnames : ∀ x ∈ scope.names, x.2 = .local → scope.names.lookup x.1 = some .local) (hclos : closureFor scope c.env = pure cl)
    (h : Ev w c iter l H (CompP w K lvl c scope cl target elt ifs Q))
    (hs : ∀ x, foldedSetIterable iter c.env x = pure x) :
    Ev w c (.ListComp elt [⟨target, iter, ifs, 0⟩] scope pos) l H Q := fun s st => by
  rw [eval_ListComp]
  refine wpAny_comprehension_free (e := .ListComp elt [⟨target, iter, ifs, 0⟩] scope pos) (g := ⟨target, iter, ifs, 0⟩) (gs := []) (use := Option.none) rfl hs hclos hkind hnames (h.bind st fun V s₁ v H₁ hv x₁ ⟨src, I, hsrc, hlen, h0, hold, turn, fin⟩ => ?_)
  refine compCore ok hoff hkind x₁ hv src I hsrc h0 hold hlen turn ?_
  intro n acc C oC H' ys s' hCA hD x₂ hacc hm hI
  obtain ⟨m, hm⟩ := hm
  exact ⟨m, hm, fun h' hs' => ⟨.ref acc, _, rfl, St.roOff (r1 := []) (r2 := c.ro) x₂ (fun p hp => hCA p hp) hD hs'.extBut _, fin n H' ys acc hI hacc⟩⟩
end

section
variable {prog : Program} {w : World} {A₀ A : Around} {s : Shared} {base h₀ : Heap} {outer : List Env} {L : Addr} {m : Str → Option Value} {env : Env} {news : List (Addr × Obj)}
  {R : Result → Shared → Prop} {name qual : Str} {params : Arguments} {body : List Stmt} {scope : Scope} {dV kV doc pm cdv ct : Value} {an : Option Addr} {fo : Obj} {f : Addr} {args : Args} {binds : List (Str × Value)}
theorem enterXC (B : Below A₀ base outer h₀) (F : Fr h₀ L s.heap m) (N : News h₀ L s.heap news) (hlim : h₀.NoLimit) (hA : A.frames = some (env :: outer)) (hf : env.frame = some L) (hke : env.scope.kind = .function)
    (ho : s.heap.get? f = some fo) (hd : fo.data = .func (fnX name qual params body scope [] dV kV doc pm an cdv ct)) (hcd : s.heap.CodeRec cdv qual) (hroom : A.depth < recursionLimit)
    (hbind : BindsTo s (fnX name qual params body scope [] dV kV doc pm an cdv ct) args binds)
    (hkd : ∀ n, ∀ x ∈ binds, scope.names.lookup x.1 = some .local ∨ (scope.names.lookup x.1 = some .cell ∧ ((cellsFrom n scope.names []).lookup x.1).isSome = true))
    (hnd : ((cellsFrom 0 scope.names []).map (·.1)).Nodup)
    (h : ∀ g L' h₁ tk cells, Fr h₀ L g m → Fr g L' h₁ (bindL (envOfC qual scope L' f cdv).kindOf binds fun _ => none) → News g L' h₁ (cells ++ news) →
      CellsAre (bindC (envOfC qual scope L' f cdv).kindOf binds fun _ => none) (cellsFrom (L' + 1) scope.names []) cells → Below A base (env :: outer) g → h₀.StaysIn g → (∀ b o, s.heap.get? b = some o → b ∉ news.map (·.1) → g.get? b = some o) → L' = s.heap.objs.size →
      wpAny (model prog w) (A.deeper (envOfC qual scope L' f cdv)) (execs body (envOfC qual scope L' f cdv))
        (fun fl s' => LeaveK h₀ L m g R (match fl with | .ret v => v | _ => .none) s')
        (fun e s' => wpAny (model prog w) (A.deeper (envOfC qual scope L' f cdv)) (leaving (envOfC qual scope L' f cdv) e) (fun _ s'' => R (.error e) s'') (fun e' s'' => R (.error e') s'') s')
        { s with heap := h₁, toks := tk })
    (hco : scope.isCoroutine = false := by rfl) (hgen : scope.isGenerator = false := by rfl) (hk : scope.kind = .function := by rfl) : codeAny (model prog w) A (.call (.ref f) args) R s := by
  obtain ⟨FG, BG, st, lv⟩ := groundX (R := R) B F N hA hf hke
  refine codeAny_call_function hroom ho hd hco hgen rfl hcd (hbind _ _ _ _ ?_)
  refine wpAny_newFunctionEnv_cells hk (hkd _) fun env' he s' x => ?_
  subst he
  refine ⟨(hlim.keeps F.keep).keeps x.toInCall.keep, codeAny_func ?_⟩
  obtain ⟨h₁, tk, rfl, _⟩ := x.done
  have hk₁ := x.toInCall.keep
  obtain ⟨cells, NC, Y⟩ := Cl.news (h₀ := s.heap) (Nat.le_refl _) fun n c hm => ⟨x.cell n c (lookup_of_mem_nodup (cellsFrom_names scope.names 0 (s.heap.objs.size + 1) [] [] rfl ▸ hnd) hm), x.above n c hm⟩
  refine wpAny_mono (h _ s.heap.objs.size h₁ tk cells FG ⟨x.toInCall.ns, fun b o e => hk₁ b o (of_hideAll _ e), Nat.le_of_eq (hideAll_size _ _)⟩ (fun p hp => ?_) Y BG st (fun b o e n => hideAll_get _ e n) rfl) (fun fl s' hl => lv _ _ hl) fun _ _ y => y
  rcases List.mem_append.mp hp with hp | hp
  · refine ⟨(NC p hp).1, (NC p hp).2.1, ?_⟩
    cases q : (hideAll s.heap (news.map (·.1))).get? p.1 with
    | none => rfl
    | some o => have := of_hideAll _ q; rw [(NC p hp).2.2] at this; cases this
  · exact ⟨hk₁ _ _ (N p hp).1, Nat.ne_of_lt (Heap.lt_size (N p hp).1), hideAll_none _ (List.mem_map_of_mem hp)⟩
end

section
variable {w : World} {K : Frag} {c : Cx} {l l' : Loc} {H H' : AH} {s s' : Shared} {lvl : Nat}
noncomputable def locsOf (sc : Scope) (z : Loc) : Loc := z.filter fun p => sc.names.lookup (Str.ofString p.1) == some .local
/-- the ledger with the frame's cells -/
noncomputable def cellsH (H : AH) (z : Loc) (cl : List (Str × Addr)) : AH := fun a => match cl.find? (fun p => p.2 == a) with
  | some p => some (.cell ((z.find? fun q => Str.ofString q.1 == p.1).map (·.2)))
  | none => H a
theorem bindL_out {kindOf : Str → Option NameKind} {y : Str} : ∀ {names : List String} {Vs : List Value} {m : Str → Option Value}, (∀ x ∈ names, Str.ofString x ≠ y) → bindL kindOf ((names.map Str.ofString).zip Vs) m y = m y
  | [], _, _, _ => rfl
  | x :: r, [], _, _ => rfl
  | x :: r, V :: Vs, m, h => by
    show bindL kindOf ((r.map Str.ofString).zip Vs) _ y = _
    rw [bindL_out fun z hz => h z (.tail _ hz)]
    split
    · exact if_neg (fun e => h x (.head _) e.symm)
    · rfl
theorem bindL_in {kindOf : Str → Option NameKind} {x : String} {v : AV} : ∀ {names : List String} {args : List AV} {Vs : List Value} {m : Str → Option Value}, names.Nodup → Oks args Vs → (x, v) ∈ names.zip args → kindOf (Str.ofString x) = some .local → ∃ V, bindL kindOf ((names.map Str.ofString).zip Vs) m (Str.ofString x) = some V ∧ v.ok V
  | [], _, _, _, _, _, h, _ => by simp at h
  | y :: r, [], _, _, _, ho, h, _ => by simp at h
  | y :: r, u :: us, _, m, hn, ho, h, hk => by
    cases ho with
    | @cons _ U _ Us hu hus =>
      have hy := List.nodup_cons.mp hn
      show ∃ V, bindL kindOf ((r.map Str.ofString).zip Us) _ _ = _ ∧ _
      rcases List.mem_cons.mp h with e | h
      · cases e
        refine ⟨U, ?_, hu⟩
        rw [bindL_out fun z hz e => hy.1 (by have q : z = x := ofString_inj e; rw [← q]; exact hz), if_pos hk]
        exact if_pos rfl
      · exact bindL_in hy.2 hus h hk
theorem bindC_out {kindOf : Str → Option NameKind} {y : Str} : ∀ {names : List String} {Vs : List Value} {m : Str → Option Value}, (∀ x ∈ names, Str.ofString x ≠ y) → bindC kindOf ((names.map Str.ofString).zip Vs) m y = m y
  | [], _, _, _ => rfl
  | x :: r, [], _, _ => rfl
  | x :: r, V :: Vs, m, h => by
    show bindC kindOf ((r.map Str.ofString).zip Vs) _ y = _
    rw [bindC_out fun z hz => h z (.tail _ hz)]
    split
    · rfl
    · exact if_neg (fun e => h x (.head _) e.symm)
theorem bindC_in {kindOf : Str → Option NameKind} {x : String} {v : AV} : ∀ {names : List String} {args : List AV} {Vs : List Value} {m : Str → Option Value}, names.Nodup → Oks args Vs → (x, v) ∈ names.zip args → kindOf (Str.ofString x) ≠ some .local → ∃ V, bindC kindOf ((names.map Str.ofString).zip Vs) m (Str.ofString x) = some V ∧ v.ok V
  | [], _, _, _, _, _, h, _ => by simp at h
  | y :: r, [], _, _, _, ho, h, _ => by simp at h
  | y :: r, u :: us, _, m, hn, ho, h, hk => by
    cases ho with
    | @cons _ U _ Us hu hus =>
      have hy := List.nodup_cons.mp hn
      show ∃ V, bindC kindOf ((r.map Str.ofString).zip Us) _ _ = _ ∧ _
      rcases List.mem_cons.mp h with e | h
      · cases e
        refine ⟨U, ?_, hu⟩
        rw [bindC_out fun z hz e => hy.1 (by have q : z = x := ofString_inj e; rw [← q]; exact hz), if_neg hk]
        exact if_pos rfl
      · exact bindC_in hy.2 hus h hk
/-- a cell's content, by the parameters -/
theorem cell_val {kindOf : Str → Option NameKind} {names : List String} {args : List AV} {Vs : List Value} {x : Str} (hn : names.Nodup) (ho : Oks args Vs) (hk : kindOf x ≠ some .local) :
    match ((names.zip args).find? fun q => Str.ofString q.1 == x).map (·.2) with
    | none => bindC kindOf ((names.map Str.ofString).zip Vs) (fun _ => none) x = none
    | some v => ∃ V, bindC kindOf ((names.map Str.ofString).zip Vs) (fun _ => none) x = some V ∧ v.ok V := by
  cases hf : (names.zip args).find? fun q => Str.ofString q.1 == x with
  | none =>
    show _ = none
    have hlen := ho.length
    have : ∀ (names : List String) (args : List AV) (Vs : List Value) (m : Str → Option Value), Oks args Vs → ((names.zip args).find? fun q => Str.ofString q.1 == x) = none → bindC kindOf ((names.map Str.ofString).zip Vs) m x = m x := by
      intro names
      induction names with
      | nil => intro args Vs m _ _; rfl
      | cons y r ih =>
        intro args Vs m ho hf
        cases ho with
        | nil => rfl
        | @cons u U us Us hu hus =>
          rw [List.zip_cons_cons, List.find?_cons] at hf
          split at hf
          · cases hf
          · rename_i hxy
            show bindC kindOf ((r.map Str.ofString).zip Us) _ x = _
            rw [ih us Us _ hus hf]
            split
            · rfl
            · exact if_neg fun e => by rw [e] at hxy; simp at hxy
    exact this names args Vs _ ho hf
  | some q =>
    have hq := List.mem_of_find?_eq_some hf
    have he : Str.ofString q.1 = x := by simpa using List.find?_some hf
    obtain ⟨V, e, o⟩ := bindC_in (kindOf := kindOf) (x := q.1) (v := q.2) (m := fun _ => none) hn ho hq (by rw [he]; exact hk)
    exact ⟨V, by rw [← he]; exact e, o⟩

theorem cells_hok {cm : Str → Option Value} {cs : List (Str × Addr)} {cells : List (Addr × Obj)} (X : CellsAre cm cs cells) {a : Addr} {p : Str × Addr} (h : cs.find? (fun p => p.2 == a) = some p) : ∃ o, (a, o) ∈ cells ∧ o.data = .cell (cm p.1) := by
  induction X with
  | nil => cases h
  | @cons n c o cs cells hd _ ih =>
    rw [List.find?_cons] at h
    split at h
    · rename_i e
      cases h
      have e : c = a := by simpa using e
      subst e
      exact ⟨o, .head _, hd⟩
    · obtain ⟨o', ho, hd'⟩ := ih h
      exact ⟨o', .tail _ ho, hd'⟩
theorem cellsFrom_kind : ∀ {names : List (Str × NameKind)} {n : Nat} {acc : List (Str × Addr)} {p : Str × Addr}, p ∈ cellsFrom n names acc → p ∈ acc ∨ (p.1, NameKind.cell) ∈ names
  | [], _, _, _, h => .inl h
  | (x, k) :: r, n, acc, p, h => by
    unfold cellsFrom at h
    split at h
    · rename_i hk
      have hk : k = .cell := by cases k <;> first | rfl | cases hk
      rcases cellsFrom_kind h with h | h
      · rcases List.mem_cons.mp h with rfl | h
        · exact .inr (by rw [hk]; exact .head _)
        · exact .inl h
      · exact .inr (.tail _ h)
    · rcases cellsFrom_kind h with h | h
      · exact .inl h
      · exact .inr (.tail _ h)

theorem Call.enterC {f : Addr} {oc : Value} {od : Option Addr} {osl : Array (Option Value)} {name qual : Str} {params : Arguments} {body : List Stmt} {scope : Scope} {pm doc cdv ct : Value} {names : List String} {args : List AV} {Q : AV → AH → Prop}
    (ho : K.lookup f = some ⟨oc, od, .func (fnX name qual params body scope [] .none .none doc pm none cdv ct), osl⟩) (hcd : codeIn K cdv qual = true)
    (hk : scope.kind = .function) (hco : scope.isCoroutine = false) (hgen : scope.isGenerator = false)
    (hb : ∀ Vs, Vs.length = args.length → bindArgs (fnX name qual params body scope [] .none .none doc pm none cdv ct) ⟨Vs, []⟩ = pure ((names.map Str.ofString).zip Vs))
    (hnd : names.Nodup) (hkd : ∀ n, ∀ x ∈ names, scope.names.lookup (Str.ofString x) = some .local ∨ (scope.names.lookup (Str.ofString x) = some .cell ∧ ((cellsFrom n scope.names []).lookup (Str.ofString x)).isSome = true))
    (hndc : ((cellsFrom 0 scope.names []).map (·.1)).Nodup) (hcl : ∀ x ∈ scope.names, x.2 = .cell → scope.names.lookup x.1 = some .cell)
    (h : ∀ (n : Nat) (c : Cx), (∀ a, n ≤ a → H a = none) → c.Ok K lvl → c.comp = none → c.env.scope = scope → c.env.cells = cellsFrom n scope.names [] → c.env.code = cdv →
      Exs w c body (locsOf scope (names.zip args)) (cellsH H (names.zip args) (cellsFrom n scope.names [])) (fun _ H' => Q .none H') Q) : Call w K (lvl + 1) (.ref f) args H Q := by
  intro c l s Vs ok st hV
  obtain ⟨m, news, b⟩ := st
  let news' : List (Addr × Obj) := news.filter fun p => (H p.1).isSome
  have hsub : ∀ p ∈ news', p ∈ news := fun p hp => (List.mem_filter.mp hp).1
  have N' : News c.h₀ c.L s.heap news' := fun p hp => b.nw p (hsub p hp)
  have hk' : HOk w H news' := by
    intro a o ha
    obtain ⟨x, hx, r⟩ := b.hk a o ha
    exact ⟨x, List.mem_filter.mpr ⟨hx, by simp [ha]⟩, r⟩
  have out : ∀ a, H a = none → a ∉ news'.map (·.1) := fun a ha h => by
    obtain ⟨p, hp, rfl⟩ := List.mem_map.mp h
    have := (List.mem_filter.mp hp).2
    rw [ha] at this; cases this
  have hHlt : ∀ a, s.heap.objs.size ≤ a → H a = none := fun a ha => by
    cases q : H a with
    | none => rfl
    | some o =>
      obtain ⟨x, hx, _⟩ := b.hk a o q
      exact absurd (Heap.lt_size (b.nw _ hx).1) (Nat.not_lt.mpr ha)
  refine wpAny_call (enterXC (binds := (names.map Str.ofString).zip Vs) ok.below b.fr N' ok.gb.nolimit ok.frames ok.ff ok.fk (ok.kin.keeps b.fr.keep _ _ ho) rfl (codeRec_of (ok.kin.keeps b.fr.keep) hcd) ?_ (BindsTo.of_eq (hb Vs hV.length)) ?_ hndc ?_ hco hgen hk)
  · have := ok.room; have : recursionLimit = 1000 := rfl; lia
  · intro n y hy
    obtain ⟨x, hx, e⟩ := List.mem_map.mp (List.of_mem_zip (a := y.1) (b := y.2) hy).1
    rw [← e]; exact hkd n x hx
  intro g L' h₁ tk cells FG F' N₁ CA B' stays gk hL'
  let env' : Env := envOfC qual scope L' f cdv
  let c' : Cx := { A₀ := c.A, A := c.A.deeper env', base := c.base, outer := c.fenv :: c.outer, fenv := env', env := env', h₀ := g, s₀ := c.s₀, mg := c.mg, mb := c.mb, comp := none, ro := [] }
  have ok' : c'.Ok K lvl := by
    refine ⟨ok.hh, ?_, rfl, hk, B', ok.kin.keeps stays, ok.gb.keeps stays, ?_, ?_, hk, rfl, rfl, rfl⟩
    · show (c.A.frames.map (env' :: ·)) = _
      rw [ok.frames]; rfl
    · have := ok.room; show c.A.depth + 1 + 2 * lvl ≤ 400; lia
    · have := ok.units; show c.A.units + 3 + 20 * lvl ≤ 4000; lia
  have st' : St w c' (locsOf scope (names.zip args)) (cellsH H (names.zip args) (cellsFrom (L' + 1) scope.names [])) { s with heap := h₁, toks := tk } := by
    refine ⟨_, cells ++ news', by show (_ : Shared) = _; rw [b.same], F', N₁, fun a o ha => ?_, fun p hp => ?_, fun _ h => nomatch h⟩
    · unfold cellsH at ha
      split at ha
      · rename_i p hp
        obtain ⟨ob, hob, hd⟩ := cells_hok CA hp
        cases ha
        refine ⟨ob, List.mem_append_left _ hob, ?_⟩
        have hpk : scope.names.lookup p.1 = some .cell := by
          rcases cellsFrom_kind (List.mem_of_find?_eq_some hp) with h | h
          · cases h
          · exact hcl _ h rfl
        have := cell_val (kindOf := env'.kindOf) (x := p.1) hnd hV (by show scope.names.lookup p.1 ≠ _; rw [hpk]; simp)
        show _ ∨ _
        split at this
        · rename_i e; left; exact ⟨by rw [hd, this], e⟩
        · rename_i v e; right
          obtain ⟨V, e', o⟩ := this
          exact ⟨v, V, e, by rw [hd, e'], o⟩
      · obtain ⟨x, hx, r⟩ := hk' a o ha
        exact ⟨x, List.mem_append_right _ hx, r⟩
    · obtain ⟨hp, hl⟩ := List.mem_filter.mp hp
      exact bindL_in hnd hV hp (by show scope.names.lookup _ = _; simpa using hl)
  have fin : ∀ {v : AV} {V : Value} {l' : Loc} {H' : AH} {s' : Shared}, v.ok V → St w c' l' H' s' → Q v H' →
      LeaveK c.h₀ c.L m g (fun r s' => match r with | .ok (.ret V) => ∃ v H', v.ok V ∧ St w c l H' s' ∧ Q v H' | .ok _ => False | .error e => FF e s') V s' := by
    intro v V l' H' s' hv ⟨m₂, news₂, b₂⟩ q
    refine ⟨L', m₂, news₂, b₂.fr, b₂.nw, fun F₃ N₃ => ⟨v, H', hv, ?_, q⟩⟩
    have stay : ∀ a o, (a, o) ∈ news → H a = none → s'.heap.get? a = some o ∧ H' a = none := fun a o hm ha => by
      have hg : g.get? a = some o := gk _ _ (b.nw _ hm).1 (out a ha)
      refine ⟨b₂.fr.keep _ _ hg, ?_⟩
      cases q' : H' a with
      | none => rfl
      | some o' =>
        obtain ⟨x, hx, _⟩ := b₂.hk a o' q'
        have h0 : g.get? a = none := (b₂.nw _ hx).2.2
        rw [hg] at h0; cases h0
    let more : List (Addr × Obj) := news.filter fun p => (H p.1).isNone
    have hm : ∀ p ∈ more, p ∈ news ∧ H p.1 = none := fun p hp => ⟨(List.mem_filter.mp hp).1, by simpa using (List.mem_filter.mp hp).2⟩
    have hm' : ∀ a o, (a, o) ∈ news → H a = none → (a, o) ∈ more := fun a o h1 h2 => List.mem_filter.mpr ⟨h1, by simp [h2]⟩
    have N₄ : News c.h₀ c.L s'.heap (more ++ news₂) := fun p hp => by
      rcases List.mem_append.mp hp with hp | hp
      · exact ⟨(stay p.1 p.2 (hm p hp).1 (hm p hp).2).1, (b.nw p (hm p hp).1).2⟩
      · exact N₃ p hp
    refine ⟨m, more ++ news₂, b₂.same, F₃, N₄, fun a o ha => ?_, ?_, fun p hp => ?_⟩
    · obtain ⟨x, hx, r⟩ := b₂.hk a o ha
      exact ⟨x, List.mem_append_right _ hx, r⟩
    · have lc := b.lc
      unfold CompOk at lc ⊢
      cases hc : c.comp with
      | none => rw [hc] at lc; exact lc
      | some q =>
        obtain ⟨D, mF⟩ := q
        rw [hc] at lc
        obtain ⟨e1, e2, od, es, ep, g1, d, k, r⟩ := lc
        exact ⟨e1, (stay D od g1 e2).2, od, es, ep, List.mem_append_left _ (hm' _ _ g1 e2), d, k, r⟩
    · obtain ⟨r1, r2⟩ := b.ro p hp
      exact ⟨List.mem_append_left _ (hm' p.1 p.2 r1 r2), (stay p.1 p.2 r1 r2).2⟩
  refine wpAny_mono (h (L' + 1) c' (fun a ha => hHlt a (by rw [← hL']; lia)) ok' rfl rfl rfl rfl _ st') (fun fl s' hf => ?_) fun _ _ e => e.elim
  cases fl with
  | next => obtain ⟨l', H', a, q⟩ := hf; exact fin (v := .none) rfl a q
  | ret V => obtain ⟨v, l', H', hv, a, q⟩ := hf; exact fin hv a q
  | brk => exact hf.elim
  | cont => exact hf.elim

/-- a def of the text's with cells of its own -/
structure DefAtC (P : Params) (st : Stmt) (f code : Addr) (qual : Str) (mod : Value) (names : List String) : Prop where
  at_ : (KK P).lookup f = some (fnO qual st mod code)
  codeOk : codeIn (KK P) (.ref code) qual = true
  keep : keepIn (KK P) (.ref f) = true
  ok : (isDef st && (fnScope st).kind == .function && !(fnScope st).isCoroutine && !(fnScope st).isGenerator && (fnScope st).names.all (fun x => x.2 != .cell || (fnScope st).names.lookup x.1 == some .cell)) = true
  nd : names.Nodup
  kd : ∀ n, ∀ x ∈ names, (fnScope st).names.lookup (Str.ofString x) = some .local ∨ ((fnScope st).names.lookup (Str.ofString x) = some .cell ∧ ((cellsFrom n (fnScope st).names []).lookup (Str.ofString x)).isSome = true)
  ndc : ((cellsFrom 0 (fnScope st).names []).map (·.1)).Nodup
  bind : ∀ Vs : List Value, Vs.length = names.length → bindArgs (fnX (fnName st) qual (fnArgs st) (fnBody st) (fnScope st) [] .none .none .none mod none (.ref code) .none) ⟨Vs, []⟩ = pure ((names.map Str.ofString).zip Vs)
theorem Call.goC {P : Params} {st : Stmt} {f code : Addr} {qual : Str} {mod : Value} {names : List String} {args : List AV} {Q : AV → AH → Prop} (D : DefAtC P st f code qual mod names) (hl : args.length = names.length)
    (h : ∀ n c, (∀ a, n ≤ a → H a = none) → c.env.code = .ref code → Fn (KK P) lvl (fnScope st) (cellsFrom n (fnScope st).names []) c → Exs w c (fnBody st) (locsOf (fnScope st) (names.zip args)) (cellsH H (names.zip args) (cellsFrom n (fnScope st).names [])) (fun _ H' => Q .none H') Q) : Call w (KK P) (lvl + 1) (.ref f) args H Q := by
  obtain ⟨e1, e2, _, e3, e4, e5, e6, e7⟩ := D
  simp only [Bool.and_eq_true, beq_iff_eq, Bool.not_eq_true', List.all_eq_true, bne_iff_ne, Bool.or_eq_true] at e3
  obtain ⟨⟨⟨⟨a0, a1⟩, a2⟩, a3⟩, a4⟩ := e3
  obtain ⟨name, fa, body, d, r, tp, scope, ts, bd, ps, rfl⟩ := isDef_eq a0
  exact Call.enterC e1 e2 a1 a2 a3 (fun Vs hv => e7 Vs (by rw [hv, hl])) e4 e5 e6 (fun x hx hk => (a4 x hx).resolve_left fun h => h hk) fun n c hn ok hc hs hcl hcd => h n c hn hcd ⟨ok, hc, hs, hcl⟩
end

section
variable {w : World} {K : Frag} {c : Cx} {l l' : Loc} {H H' : AH} {s s' : Shared} {lvl : Nat}
/-- a list that the ledger knows, in whatever way -/
noncomputable def SeesL (H : AH) (a : Addr) (xs : List AV) : Prop := ∃ ao, H a = some ao ∧ ∀ w o, ao.ok w o → ∃ Vs n, o.cls = .type "list" ∧ o.data = .seq (List.toArray Vs) n ∧ Oks xs Vs
theorem SeesL.of {a : Addr} {xs : List AV} (h : H a = some (.list xs)) : SeesL H a xs := ⟨_, h, fun _ _ ⟨Vs, n, e, h⟩ => ⟨Vs, n, by rw [e], by rw [e], h⟩⟩
theorem SeesL.keep {a : Addr} {xs : List AV} (h : SeesL H a xs) (k : ∀ b o, H b = some o → H' b = some o) : SeesL H' a xs := let ⟨ao, e, r⟩ := h; ⟨ao, k _ _ e, r⟩
/-- x[:n] -/
theorem Ev.slice {o e : PySem.Expr} {p p' : Pos} {Q : AV → AH → Prop}
    (h : Ev w c o l H fun v H₁ => Ev w c e l H₁ fun u H₂ => ∃ (a : Addr) (xs : List AV) (n : Nat), v = .ref a ∧ u = .int n ∧ SeesL H₂ a xs ∧ xs.length ≤ 90000 ∧ ∀ D, H₂ D = Option.none → Q (.ref D) (H₂.set D (.list (xs.take n))))
    (hsl : ∀ a b, subscripted (.Slice Option.none (some e) Option.none p') false a b = operate [b, a] (getItem a b) := by intro _ _; with_unfolding_all rfl)
    (ht : ∀ a r, letTemporaryGo o a r = pure () := by intro _ _; with_unfolding_all rfl) : Ev w c (.Subscript o (.Slice Option.none (some e) Option.none p') p) l H Q := fun s st =>
  Subscript_ (h.bind st fun V s₁ v H₁ hv x₁ h₁ => wpAny_Slice (wpAny_pure (h₁.bind x₁ fun U s₂ u H₂ hu x₂ ⟨a, xs, n, e1, e2, ha, hl, q⟩ => wpAny_pure (by
    subst e1; subst e2; cases hv
    obtain ⟨t, rfl⟩ := hu
    obtain ⟨ao, ha, hs⟩ := ha
    obtain ⟨o, ho, q'⟩ := x₂.get ha
    obtain ⟨Vs, k, hcl, hda, hok⟩ := hs _ _ q'
    have hlen := hok.length
    obtain ⟨m, news, b⟩ := id x₂
    refine kms_slice_lit b.fr b.nw ⟨o, ho, hcl, k, hda⟩ IsPart.none (IsPart.int _ _) rfl (fun D h' F' N' lt => ?_) (hsl _ _) (ht _) (by have : sizeLine = 2 ^ 24 := rfl; simp; lia)
    have e3 : kms_pick (List.toArray Vs).toList Option.none (some (n : Int)) = Vs.take n := by
      unfold kms_pick kms_lo kms_hi
      simp only [List.drop_zero, Nat.sub_zero]
      rw [if_neg (by lia)]
      simp only [Int.toNat_natCast]
      rw [← List.take_take, List.take_length]
    rw [e3] at N'
    obtain ⟨fr, x'⟩ := b.fresh (ao := .list (xs.take n)) F' N' (fun p hp => Nat.ne_of_lt (lt p hp)) ⟨_, 0, rfl, hok.take n⟩ s₂.toks
    exact ⟨.ref D, _, rfl, x', q D fr⟩))))

theorem St.withA (x : St w c l H s) (A' : Around) : St w { c with A := A' } l H s := let ⟨m, news, b⟩ := x; ⟨m, news, b.same, b.fr, b.nw, b.hk, b.lc, b.ro⟩
theorem St.backA {A' : Around} (x : St w { c with A := A' } l H s) : St w c l H s := let ⟨m, news, b⟩ := x; ⟨m, news, b.same, b.fr, b.nw, b.hk, b.lc, b.ro⟩
theorem KVs.keys {kvs : List (Int × AV)} {KV : List (Int × Value)} (h : KVs kvs KV) : KV.map (·.1) = kvs.map (·.1) := by
  induction h with
  | nil => rfl
  | cons _ _ ih => simp [ih]
/-- a call of an own class, its __init__ one of the text's -/
structure NewOk (K : Frag) (C fI : Addr) : Prop where
  makes : makesIn K C = true
  init : findIn K (.ref C) "__init__" = some (some (.ref fI))
  fn : isFn K (.ref fI) = true
  keep : keepIn K (.ref C) = true
theorem callNew {C fI : Addr} {args : List AV} {Q : AV → AH → Prop} (hk : NewOk K C fI)
    (h : ∀ x dx, H x = Option.none → H dx = Option.none → x ≠ dx → CallC w K lvl (.ref fI) (.ref x :: args) ((H.set dx (.attrs [])).set x (.inst C dx)) fun v H' => v = .none ∧ Q (.ref x) H') : Call w K (lvl + 1) (.ref C) args H Q := by
  intro c l s Vs ok st hV
  obtain ⟨m, news, b⟩ := id st
  refine call_cls b.fr ok.kin b.nw hk.makes hk.init hk.fn fun x dx h' F' N' lt1 lt2 => ?_
  have hdx : ∀ p ∈ news, p.1 ≠ dx := fun p hp => Nat.ne_of_lt (lt1 p hp)
  have hx : ∀ p ∈ news, p.1 ≠ x := fun p hp => Nat.ne_of_lt (Nat.lt_trans (lt1 p hp) lt2)
  have hfr : ∀ a, (∀ p ∈ news, p.1 ≠ a) → H a = Option.none := fun a ha => by
    cases q : H a with
    | none => rfl
    | some o => obtain ⟨y, hy, _⟩ := b.hk a o q; exact absurd rfl (ha _ hy)
  have ne : x ≠ dx := Nat.ne_of_gt lt2
  have st' : St w c l ((H.set dx (.attrs [])).set x (.inst C dx)) { s with heap := h' } := by
    obtain ⟨e, F, N, hk, lc, ro⟩ := b
    refine ⟨m, (x, instObj C dx) :: (dx, dictOf [] 0) :: news, by rw [e], F', N', fun a o ha => ?_, ?_, fun p hp => ⟨.tail _ (.tail _ (ro p hp).1), by rw [AH.set_ne (hx _ (ro p hp).1), AH.set_ne (hdx _ (ro p hp).1)]; exact (ro p hp).2⟩⟩
    · unfold AH.set at ha
      split at ha
      · rename_i q; cases ha; exact ⟨_, by rw [q]; exact .head _, rfl⟩
      · split at ha
        · rename_i q; cases ha; exact ⟨_, by rw [q]; exact .tail _ (.head _), [], 0, rfl, .nil⟩
        · obtain ⟨y, hy, r⟩ := hk a o ha; exact ⟨y, .tail _ (.tail _ hy), r⟩
    · refine lc.mono (fun D' mF hc => ?_) fun _ _ _ _ h => .tail _ (.tail _ h)
      have lc' := lc
      unfold CompOk at lc'
      rw [hc] at lc'
      obtain ⟨_, b, od, _, _, g, _⟩ := lc'
      rw [AH.set_ne (hx _ g), AH.set_ne (hdx _ g), b]
  let A' := c.A.under (.builtin "type.__call__" ⟨.ref C :: Vs, []⟩)
  have ok' : ({ c with A := A' } : Cx).Ok K lvl := by
    refine ⟨ok.hh, ?_, ok.ff, ok.fk, ok.below, ok.kin, ok.gb, ?_, ?_, ok.ek, ok.eg, ok.eb, ok.el⟩
    · exact ok.frames
    · have := ok.room; have e : A'.depth = c.A.depth + Code.weight (.builtin "type.__call__" ⟨.ref C :: Vs, []⟩) := rfl; have e2 : Code.weight (.builtin "type.__call__" ⟨.ref C :: Vs, []⟩) = 1 := by kernel_rfl
      show A'.depth + 2 * lvl ≤ 400; lia
    · have := ok.units; have e : A'.units = c.A.units + 1 := rfl; show A'.units + 20 * lvl ≤ 4000; lia
  refine codeAny_mono (h x dx (hfr x hx) (hfr dx hdx) ne { c with A := A' } l { s with heap := h' } (.ref x :: Vs) ok' (st'.withA _) (.cons rfl hV)) fun r s' hr => ?_
  cases r with
  | ok f =>
    cases f with
    | ret V =>
      obtain ⟨v, H', hv, a, e, q⟩ := hr
      subst e; cases hv
      exact ⟨rfl, .ref x, H', rfl, a.backA, q⟩
    | _ => exact hr.elim
  | error e => exact hr.elim

/-- sorted(d) of a dict by ints -/
theorem Ev.sortedd {g e₁ : PySem.Expr} {p : Pos} {Q : AV → AH → Prop} (ok : c.Ok K lvl)
    (hb : Bi w c g l H (.builtin "sorted")) (h : Ev w c e₁ l H fun a H₂ => ∃ (r : Addr) (kvs : List (Int × AV)), a = .ref r ∧ H₂ r = some (.idict kvs) ∧ kvs.length < 64 ∧ ∀ (D : Addr) (ns' : List Int), H₂ D = Option.none → ns'.Perm (kvs.map (·.1)) → ns'.Pairwise (· ≤ ·) → Q (.ref D) (H₂.set D (.list (ns'.map .int))))
    (hn : noStar [e₁] = true := by rfl)
    (he : eval (.Call g [e₁] [] p) c.env = (do callWith p (← eval g c.env) [] (backTo p (starEach [e₁] c.env)) (backToKw p (keywordEach [] c.env))) := by rfl) : Ev w c (.Call g [e₁] [] p) l H Q :=
  Ev.callb (f := .builtin "sorted") keep_sorted hb (h.mono fun a H₂ ⟨r, kvs, e, hr, hl, q⟩ s₁ Vs st ho => by
    subst e
    obtain ⟨A, rfl, rfl⟩ := one ho
    obtain ⟨oo, hoo, KV, hd, hkv⟩ := st.get hr
    have hlen := hkv.length
    obtain ⟨m, news, b⟩ := id st
    have hD : s₁.heap.DictOf (intKind pr w) r KV := Heap.dictOf_iff.mpr ⟨oo, hoo, hd⟩
    obtain ⟨ep, hat⟩ := hD.dictAt
    have keys := hkv.keys
    refine kdu_sorted (kdl_dict (knd := intKind pr w) (kvs := KV) (ep := ep) (st.notMods ok hr)) ok.hh b.fr b.nw hat (by have : sizeLine = 2 ^ 24 := rfl; lia) fun B h' tk vs F' N' lt hvl hv => ?_
    have hI : IntsAre vs (KV.map (·.1)) := by
      have : ∀ (vs : List Value) (KV : List (Int × Value)), vs.length = KV.length → (∀ (j : Nat) (v : Value), vs[j]? = some v → ∃ k x, KV[j]? = some (k, x) ∧ (intKind pr w).is k v = true) → IntsAre vs (KV.map (·.1)) := by
        intro vs
        induction vs with
        | nil => intro KV hl _; cases KV with | nil => exact .nil | cons _ _ => cases hl
        | cons v vs ih =>
          intro KV hl hx
          cases KV with
          | nil => cases hl
          | cons q KV =>
            obtain ⟨k, x, e, hk⟩ := hx 0 v rfl
            have e : q = (k, x) := by simpa using e
            subst e
            obtain ⟨t, rfl⟩ : ∃ t, v = .int k t := by
              have hk : v.isInt k = true := hk
              cases v <;> simp [Value.isInt] at hk
              exact ⟨_, by rw [hk]⟩
            refine .cons k t (ih KV (by simpa using hl) fun j u hu => ?_)
            obtain ⟨k', x', e', hk'⟩ := hx (j + 1) u (by simpa using hu)
            exact ⟨k', x', by simpa using e', hk'⟩
      exact this vs KV hvl hv
    have hB := N' (B, listOf vs.toArray 0) (.head _)
    refine wpAny_call_entry slot_list_sort ⟨_, hB.1, rfl⟩ entry_list_sort (list_sort_tree hB.1 hI (by lia) fun out ns' i1 i2 i3 => ?_) (args_list_sort _)
    refine ⟨.none, rfl, ?_⟩
    have hBlt : B < h'.objs.size := Heap.lt_size hB.1
    have old : ∀ b o, b ≠ B → h'.get? b = some o → (sortedHeap h' B vs out).get? b = some o := fun b o hb e => by rw [sortedHeap_old hb (Heap.lt_size e)]; exact e
    obtain ⟨e9, he9⟩ := sortedHeap_at (h := h') (a := B) (vs := vs) (n := 0) (out := out) hB.1
    have hB0 : ∀ b o, c.h₀.get? b = some o → b ≠ B := fun b o e q => by rw [q, hB.2.2] at e; cases e
    have F3 : Fr c.h₀ c.L (sortedHeap h' B vs out) m := ⟨F'.ns.at' fun o e => old _ o (Ne.symm hB.2.1) e, fun b o e => old b o (hB0 b o e) (F'.keep b o e), F'.above⟩
    have N3 : News c.h₀ c.L (sortedHeap h' B vs out) ((B, seqObj "list" out e9) :: news) := fun p hp => by
      rcases List.mem_cons.mp hp with rfl | hp
      · exact ⟨he9, hB.2⟩
      · have := N' p (.tail _ hp)
        exact ⟨old _ _ (Nat.ne_of_lt (lt p hp)) this.1, this.2⟩
    obtain ⟨fr, x'⟩ := b.fresh (ao := .list (ns'.map .int)) F3 N3 (fun p hp => Nat.ne_of_lt (lt p hp)) ⟨out.toList, e9, by simp, Oks.of_ints i1⟩ tk
    exact ⟨.ref B, _, rfl, x', q B ns' fr (by rw [← keys]; exact i2) i3⟩) hn he
end

section
variable {w : World} {K : Frag} {c : Cx} {l l' : Loc} {H H' : AH} {s s' : Shared} {lvl : Nat} {A : Around} {env : Env} {h : Heap}

/-- what an expression reads: the heap stays -/
noncomputable def Rd (w : World) (A : Around) (env : Env) (h : Heap) (e : PySem.Expr) (x : AV) : Prop := ∀ s, s.heap = h → wpAny (model pr w) A (eval e env) (fun V s' => x.ok V ∧ ∃ tk, s' = { s with toks := tk }) FF s
theorem Rd.int {i : Int} {k : Nat} {p : Pos} : Rd w A env h (.Constant (.int i) k p) (.int i) := fun s _ => wpAny_Constant_int ⟨⟨_, rfl⟩, _, rfl⟩
theorem Rd.free {x : Str} {p : Pos} {a : Addr} {v : AV} (hk : env.scope.kind = .function) (hl : env.kindOf x = some .free) (hc : env.cells.lookup x = some a) (hH : H a = some (.cell (some v))) (see : SeeH w H h)
    (hd : (x == ("__classdict__" : Str)) = false) (hb : (x == ("__debug__" : Str)) = false) : Rd w A env h (.Name x p) v := fun s e => by
  subst e
  obtain ⟨o, ho, e⟩ := see _ _ hH (by simp)
  rcases e with ⟨_, e⟩ | ⟨b, V, e, d, hv⟩
  · cases e
  · cases e
    exact wpAny_Name (wpAny_loadName_free hk hl hc ⟨o, ho, d⟩ ⟨hv, s.toks, rfl⟩ hd) hb
theorem Rd.loc {x : Str} {p : Pos} {V : Value} {v : AV} {m : Str → Option Value} (hk : env.scope.kind = .function) (hl : env.kindOf x = some .local) (ns : h.Ns env.locals m) (hm : m x = some V) (hv : v.ok V) (hb : (x == ("__debug__" : Str)) = false) :
    Rd w A env h (.Name x p) v := fun s e => by
  subst e
  exact wpAny_Name (wpAny_loadName_local hk hl ns hm ⟨hv, s.toks, rfl⟩) hb
theorem Rd.item {o i : PySem.Expr} {p : Pos} {v u x : AV} (ho : Rd w A env h o v) (hi : Rd w A env h i u) (hI : Item H v u x) (see : SeeH w H h)
    (hsl : ∀ a b, subscripted i false a b = operate [a, b] (getItem a b)) : Rd w A env h (.Subscript o i p) x := fun s e =>
  Subscript_ (wpAny_mono (ho s e) (fun V s₁ ⟨hv, tk, e₁⟩ => wpAny_mono (hi s₁ (by rw [e₁]; exact e)) (fun U s₂ ⟨hu, tk', e₂⟩ =>
    itemAt hI hv hu (by rw [e₂, e₁]; show SeeH w H s.heap; rw [e]; exact see) (fun X tk'' hX => ⟨hX, tk'', by rw [e₂, e₁]⟩) hsl) fun _ _ f => f) fun _ _ f => f)

theorem Asg.cell {x : String} {v : AV} {p : Pos} {a : Addr} {v₀ : Option AV} {ls : List (String × NameKind)} {P : Loc → AH → Prop} (ok : c.Ok K lvl) (hn : NamesOk c.env ls) (h1 : assoc x ls = some NameKind.cell) (hcl : c.env.cells.lookup (Str.ofString x) = some a) (ha : H a = some (.cell v₀))
    (h : P l (H.set a (.cell (some v)))) : Asg w c (.Name (Str.ofString x) p) v l H P := fun V s hv st => by
  obtain ⟨o, ho, d⟩ := st.get ha
  have hd : ∃ V₀, s.heap.IsCell a V₀ := by
    rcases d with ⟨d, _⟩ | ⟨_, V, _, d, _⟩
    · exact ⟨_, o, ho, d⟩
    · exact ⟨_, o, ho, d⟩
  obtain ⟨V₀, hd⟩ := hd
  refine wpAny_assign_Name (wpAny_storeName_cell ok.ek (hn.kind _ (mem_of_assoc h1)) hcl hd fun h' hc' hs' => ?_)
  obtain ⟨o', ho', hd'⟩ := hc'
  exact ⟨l, _, st.update ha hs' ho' (show AO.ok w (.cell (some v)) o' from Or.inr ⟨v, V, rfl, hd', hv⟩) s.toks, h⟩

noncomputable def minus (H : AH) (a : Addr) : AH := fun b => if b = a then none else H b
theorem minus_ne {a b : Addr} (h : b ≠ a) : minus H a b = H b := if_neg h
/-- an exact object laid aside -/
theorem Exs.frame {sts : List Stmt} {N : Loc → AH → Prop} {R : AV → AH → Prop} {a : Addr} {o : Obj} (hc : c.comp = Option.none) (ha : H a = some (.pred (· = o)))
    (h : Exs w (c.withRo ((a, o) :: c.ro)) sts l (minus H a) (fun l' H' => N l' (H'.set a (.pred (· = o)))) fun v H' => R v (H'.set a (.pred (· = o)))) : Exs w c sts l H N R := fun s ⟨m, news, b⟩ => by
  obtain ⟨x, hx, e⟩ := b.hk a _ ha
  cases (show x = o from e)
  have off : ∀ p ∈ c.ro, p.1 ≠ a := fun p hp e => by have := (b.ro p hp).2; rw [e, ha] at this; cases this
  have st : St w (c.withRo ((a, o) :: c.ro)) l (minus H a) s := by
    refine ⟨m, news, b.same, b.fr, b.nw, fun d p hp => ?_, ?_, fun p hp => ?_⟩
    · by_cases e : d = a
      · subst e; rw [show minus H d d = Option.none from if_pos rfl] at hp; cases hp
      · rw [minus_ne e] at hp; exact b.hk d p hp
    · have := b.lc
      unfold CompOk at this ⊢
      rw [hc] at this
      simp only [hc]; exact this
    · rcases List.mem_cons.mp hp with rfl | hp
      · exact ⟨hx, if_pos rfl⟩
      · have := b.ro p hp
        exact ⟨this.1, by unfold minus; split <;> first | rfl | exact this.2⟩
  have back : ∀ {l' H' s'}, St w (c.withRo ((a, o) :: c.ro)) l' H' s' → St w c l' (H'.set a (.pred (· = o))) s' := fun {l' H' s'} ⟨m, news, b⟩ => by
    have r := b.ro (a, o) (.head _)
    refine ⟨m, news, b.same, b.fr, b.nw, fun d p hp => ?_, ?_, fun p hp => ?_⟩
    · by_cases e : d = a
      · subst e; rw [AH.set_self] at hp; cases hp; exact ⟨o, r.1, rfl⟩
      · rw [AH.set_ne e] at hp; exact b.hk d p hp
    · have := b.lc
      unfold CompOk at this ⊢
      simp only [hc] at this ⊢; exact this
    · have q := b.ro p (.tail _ hp)
      exact ⟨q.1, by rw [AH.set_ne (off p hp)]; exact q.2⟩
  refine wpAny_mono (h s st) (fun f s' hf => ?_) fun _ _ e => e
  cases f with
  | next => obtain ⟨l', H', x', q⟩ := hf; exact ⟨l', _, back x', q⟩
  | ret V => obtain ⟨v, l', H', hv, x', q⟩ := hf; exact ⟨v, l', _, hv, back x', q⟩
  | brk => exact hf
  | cont => exact hf
/-- what a sort by a lambda wants -/
inductive SortP (w : World) (sc : Scope) (clos : List (Str × Addr)) (P : Addr) (ps : Array Value) (x : Str) (body : PySem.Expr) (lp : Pos) (Q : AV → AH → Prop) (a : AV) (H : AH) : Prop
  | mk (r : Addr) (ns : List Int) (key : Int → Int) (e : a = .ref r) (hr : H r = some (.list (ns.map .int))) (h64 : ns.length < 64) (hP : H P = some (.pred (· = tabObj ps)))
    (rd : ∀ n ∈ ns, ∀ (A : Around) (env : Env) (h : Heap) (m : Str → Option Value) (V : Value), env.scope = sc → env.cells = clos → h.Ns env.locals m → m x = some V → AV.ok (.int n) V → SeeH w H h → Rd w A env h body (.int (key n)))
    (q : ∀ (D c' : Addr) (ns' : List Int), H D = Option.none → ns'.Perm ns → ns'.Pairwise (fun a b => key a ≤ key b) → Q (.ref D) ((H.set P (.pred (· = tabObj (ps ++ #[rawInt lp.line, rawInt lp.col, .ref c'])))).set D (.list (ns'.map .int))))
theorem hide {G : Prop} (h : ∀ X : Prop, (G → X) → X) : G := h G id
/-- sorted(xs, key=lambda x: ...) of ints -/
theorem Ev.sortkey {g e₁ body : PySem.Expr} {la : Arguments} {sc : Scope} {lp kp p : Pos} {clos : List (Str × Addr)} {P cd : Addr} {ps : Array Value} {x : Str} {Q : AV → AH → Prop}
    (ok : c.Ok K lvl) (hc : c.comp = Option.none) (hcode : c.env.code = .ref cd) (hcd : codeHdIn K cd P = true) (hcl : closureFor sc c.env = pure clos) (hdef : defaultsOf la c.env = ([], []))
    (ht : TriplesOk ps.toList) (hnf : codeAmong lp ps.toList = Option.none)
    (hbind : ∀ V qual pm cdv ctv, bindArgs (kla_fn "<lambda>" qual la body sc clos pm cdv ctv) ⟨[V], []⟩ = pure [(x, V)]) (hloc : sc.names.lookup x = some .local)
    (hk : sc.kind = .function) (hco : sc.isCoroutine = false) (hgen : sc.isGenerator = false) (hcell : ∀ x ∈ sc.names, x.2 ≠ .cell)
    (hb : Bi w c g l H (.builtin "sorted")) (h : Ev w c e₁ l H (SortP w sc clos P ps x body lp Q))
    (he : eval (.Call g [e₁] [⟨some (Str.ofString "key"), .Lambda la body sc lp, kp⟩] p) c.env = (do callWith p (← eval g c.env) [] (backTo p (starEach [e₁] c.env)) (backToKw p (keywordEach [⟨some (Str.ofString "key"), .Lambda la body sc lp, kp⟩] c.env))) := by rfl)
    (hn : noStar [e₁] = true := by rfl) :
    Ev w c (.Call g [e₁] [⟨some (Str.ofString "key"), .Lambda la body sc lp, kp⟩] p) l H Q := fun s st => by
  rw [he]
  refine wpAny_bind ((hb (fun v H₁ => v = .raw (.builtin "sorted") ∧ H₁ = H) ⟨rfl, rfl⟩).bind st fun V s₀ v H₁ hv x₀ e => ?_)
  cases e.1; cases e.2; cases hv
  have he1 := starEach1 (env := c.env) (p := p) hn
  refine callWith_kw ?_ he1 (by rw [he1]; rfl)
  rw [he1]
  refine spliced_cons (h.bind x₀ fun V s₁ v H₂ hv x₁ hS => spliced_nil (kws_cons ?_))
  cases hS with
  | mk r ns key e hr h64 hP rd q =>
  subst e; cases hv
  refine hide fun X hX => ?_
  obtain ⟨m, news, b⟩ := id x₁
  have F := b.fr
  obtain ⟨oP, hPn, e⟩ := b.hk P _ hP
  cases (show oP = _ from e)
  have nP := b.nw _ hPn
  have C := codeHd_of_K ok.kin hcd
  have hg := ok.gb.g.keeps F.keep
  obtain ⟨bm, ob, b1, b2, b3, b4, b5, b6⟩ := ok.gb.bm
  have hgP : mainGlobals ≠ P := fun q => by
    obtain ⟨o, es, ep, e, hd, _⟩ := hg
    rw [q, nP.1] at e; cases e; cases hd
  have hbP : bm ≠ P := fun q => by
    have e := F.keep _ _ b3
    rw [q, nP.1] at e; cases e; cases b4
  have hbG : bm ≠ mainGlobals := fun q => by
    obtain ⟨o, es, ep, e, hd, _⟩ := ok.gb.g
    rw [q, e] at b3; cases b3; rw [hd] at b6; cases b6
  refine hX (kla_eval hdef (kla_makeFunction (mg := c.mg) hcl ok.eg hg hcode (C.keeps F.keep) nP.1 ht hnf hgP ⟨bm, ob, b1, b2, hbG, hbP, F.keep _ _ b3, b4, b5, b6⟩ fun c' ctv h' tk hx hge hlt hrec htb => kws_nil ?_))
  refine hide fun X hX => ?_
  obtain ⟨c₂, oc, vs, t₀, e2, hoc, hd, hvs⟩ := hrec
  cases e2
  have hLs : c.L < s₁.heap.objs.size := F.ns.lt
  have old : ∀ b o, c.h₀.get? b = some o → h'.get? b = some o := fun b o e => hx b o (fun q => by rw [q, nP.2.2] at e; cases e) (F.keep b o e)
  have fresh : ∀ b, s₁.heap.objs.size ≤ b → b ≠ c.L ∧ c.h₀.get? b = Option.none := fun b hb => ⟨Nat.ne_of_gt (Nat.lt_of_lt_of_le hLs hb), Heap.get?_none_of_le (Nat.le_trans F.above (Nat.le_trans (Nat.le_of_lt hLs) hb))⟩
  refine hX ?_
  generalize hfo : kla_obj "<lambda>" (c.env.qual ++ "<lambda>") la body sc clos ((c.mg "__name__").getD .none) c' ctv = fo
  have fof : fo.isFreed = false := by rw [← hfo]; rfl
  generalize hps : ps ++ #[rawInt lp.line, rawInt lp.col, .ref c'] = ps' at htb
  let H₃ := H₂.set P (.pred (· = tabObj ps'))
  let news₃ : List (Addr × Obj) := (P, tabObj ps') :: news.filter (·.1 ≠ P)
  have F₃ : Fr c.h₀ c.L (h'.push fo) m := ⟨(F.ns.extBut hx nP.2.1.symm).push _, fun b o e => Heap.get?_push_of_some _ (old b o e), F.above⟩
  have N₃ : News c.h₀ c.L (h'.push fo) news₃ := fun p hp => by
    rcases List.mem_cons.mp hp with rfl | hp
    · exact ⟨Heap.get?_push_of_some _ htb, nP.2⟩
    · obtain ⟨hp, hne⟩ := List.mem_filter.mp hp
      exact ⟨Heap.get?_push_of_some _ (hx _ _ (by simpa using hne) (b.nw p hp).1), (b.nw p hp).2⟩
  have N₄ : News c.h₀ c.L (h'.push fo) ((h'.objs.size, fo) :: (c', oc) :: news₃) := fun p hp => by
    rcases List.mem_cons.mp hp with rfl | hp
    · exact ⟨Heap.get?_push_size _ fof, fresh _ (Nat.le_trans hge (Nat.le_of_lt hlt))⟩
    · rcases List.mem_cons.mp hp with rfl | hp
      · exact ⟨Heap.get?_push_of_some _ hoc, fresh _ hge⟩
      · exact N₃ p hp
  have b₃ : StBy w c l H₃ { s₁ with heap := h'.push fo, toks := tk } m news₃ := by
    refine ⟨by rw [b.same], F₃, N₃, fun a o ha => ?_, ?_, fun p hp => ?_⟩
    · rcases Decidable.em (a = P) with e | e
      · subst e; rw [show H₃ a = _ from AH.set_self ..] at ha; cases ha; exact ⟨_, .head _, rfl⟩
      · rw [show H₃ a = _ from AH.set_ne e _] at ha
        obtain ⟨y, hy, r⟩ := b.hk a o ha
        exact ⟨y, .tail _ (List.mem_filter.mpr ⟨hy, by simpa using e⟩), r⟩
    · have := b.lc
      unfold CompOk at this ⊢
      rw [hc] at this ⊢; exact this
    · have := b.ro p hp
      have e : p.1 ≠ P := fun e => by rw [← e, this.2] at hP; cases hP
      exact ⟨.tail _ (List.mem_filter.mpr ⟨this.1, by simpa using e⟩), by rw [show H₃ p.1 = _ from AH.set_ne e _]; exact this.2⟩
  have see : ∀ h, (∀ p ∈ news₃, h.get? p.1 = some p.2) → SeeH w H₂ h := fun h hh a o ha hp => by
    have e : a ≠ P := fun e => by rw [e, hP] at ha; cases ha; exact hp _ rfl
    obtain ⟨y, hy, r⟩ := b₃.hk a o (by rw [show H₃ a = _ from AH.set_ne e _]; exact ha)
    exact ⟨y, hh _ hy, r⟩
  obtain ⟨y, hy, Vs, n, rfl, hok⟩ := b₃.hk r _ (show H₃ r = some (.list (ns.map .int)) by rw [show H₃ r = _ from AH.set_ne (fun e => by rw [e, hP] at hr; cases hr) _]; exact hr)
  have roN : ∀ {h : Heap} {own : List (Addr × Obj)}, News c.h₀ c.L h ((h'.objs.size, fo) :: (c', oc) :: news₃ ++ own) → ∀ p ∈ news₃, h.get? p.1 = some p.2 := fun N p hp => (N p (List.mem_append_left _ (.tail _ (.tail _ hp)))).1
  refine ksk_letter (b := false) (ns := ns) (vs := Vs) (f := .ref h'.objs.size) key F₃ N₄ (isList_of (N₃ _ hy).1) hok.ints h64 (ksk_s1 _ _) (fun x => ksk_l1 _ _) (fun x => ksk_t1 _ _) (fun n t h tk own hn F' N' => ?_) fun D vs' ns' k h'' tk' F' N' lt hI hlen hp hpw _ => ?_
  · have hfn := N' (h'.objs.size, fo) (.head _)
    have hcn := N' (c', oc) (.tail _ (.head _))
    rw [← hfo] at hfn
    refine wpAny_call (kla_callFunE (by have := ok.room; have : recursionLimit = 1000 := rfl; show c.A.depth < _; lia) hfn.1 rfl hco hgen rfl ⟨c', oc, vs, t₀, rfl, hcn.1, hd, hvs⟩ ?_)
    rw [hbind]
    refine wpAny_pure (wpAny_newFunctionEnv hcell (fun y hy => by rw [List.mem_singleton.mp hy]; exact hloc) (fun h₁ hns hsb => ⟨(ok.gb.nolimit.keeps F'.keep).fresh _ hsb, ?_⟩) hk)
    have hk₁ : ∀ b o, h.get? b = some o → h₁.get? b = some o := fun b o e => hsb.extBut b o (Nat.ne_of_lt (Heap.lt_size e)) (Heap.get?_push_of_some _ e)
    refine kla_codeExpr (wpAny_mono (rd n hn _ _ h₁ _ (.int n t) rfl rfl hns (by simp) ⟨_, rfl⟩ (see h₁ fun p hp => hk₁ _ _ (roN N' p hp)) _ rfl) (fun V s' ⟨⟨t', hv⟩, tk', e⟩ => ?_) fun _ _ f => f.elim)
    subst e; subst hv
    exact ⟨h₁, tk', t', rfl, rfl, F'.kept hk₁, N'.grown hk₁⟩
  · have N₅ : News c.h₀ c.L h'' ((D, listOf (List.toArray vs') k) :: news₃) := fun p hp => by
      rcases List.mem_cons.mp hp with rfl | hp
      · exact N' _ (.head _)
      · exact N' _ (.tail _ (.tail _ (.tail _ hp)))
    obtain ⟨fr, x'⟩ := b₃.fresh (ao := .list (ns'.map .int)) F' N₅ (fun p hp => Nat.ne_of_lt (lt p (.tail _ (.tail _ hp)))) ⟨vs', k, rfl, Oks.of_ints hI⟩ tk'
    refine ⟨.ref D, _, rfl, x', ?_⟩
    have := q D c' ns' (by
      rcases Decidable.em (D = P) with e | e
      · exact absurd e (Nat.ne_of_gt (lt (P, tabObj ps') (.tail _ (.tail _ (.head _)))))
      · rw [show H₃ D = _ from AH.set_ne e _] at fr; exact fr) hp (hpw.imp fun h => by simpa using h)
    rw [hps] at this
    exact this
end

section
variable {w : World} {K : Frag} {c : Cx} {l l' : Loc} {H H' : AH} {s s' : Shared} {lvl : Nat} {h : Heap}

/-- a value that reads as data down to a depth, and the data -/
noncomputable def Rv (H : AH) : Nat → AV → Prop
  | 0, v => v = .none ∨ ∃ i, v = .int i
  | n + 1, v => (v = .none ∨ ∃ i, v = .int i) ∨ ∃ a xs, v = .ref a ∧ (H a = some (.tuple xs) ∨ H a = some (.list xs)) ∧ ∀ x ∈ xs, Rv H n x
noncomputable def pd (f : AV → PyData) : Option AO → PyData
  | some (.tuple xs) => .tuple (xs.map f)
  | some (.list xs) => .list (xs.map f)
  | _ => .none
theorem pd_all {f : AV → PyData} {p : PyData → Prop} (h1 : ∀ xs : List AV, p (.tuple (xs.map f))) (h2 : ∀ xs : List AV, p (.list (xs.map f))) (h3 : p .none) (o : Option AO) : p (pd f o) := by
  cases o with
  | none => exact h3
  | some o => cases o with
    | tuple xs => exact h1 xs
    | list xs => exact h2 xs
    | _ => exact h3
noncomputable def dat (H : AH) : Nat → AV → PyData
  | n + 1, .ref a => pd (dat H n) (H a)
  | _, .int i => .int i
  | _, _ => .none
theorem lay_map {f : AV → PyData} (h : ∀ x, (f x).canLay0 = true) : ∀ xs : List AV, PyData.canLayAll0 (xs.map f) = true
  | [] => rfl
  | x :: xs => by rw [List.map_cons, PyData.canLayAll0, h, lay_map h xs]; rfl
theorem depth_map {f : AV → PyData} {n : Nat} (h : ∀ x, (f x).depth ≤ n) : ∀ xs : List AV, PyData.depthAll (xs.map f) ≤ n
  | [] => by simp [PyData.depthAll]
  | x :: xs => by
    have := h x
    have := depth_map h xs
    rw [List.map_cons, PyData.depthAll]; lia
theorem dat_lay : ∀ n v, (dat H n v).canLay0 = true ∧ (dat H n v).depth ≤ n
  | 0, v => by cases v <;> exact ⟨rfl, Nat.le_refl _⟩
  | n + 1, v => by
    have hn := dat_lay n
    cases v with
    | ref a =>
      exact pd_all (p := fun d => d.canLay0 = true ∧ d.depth ≤ n + 1) (fun xs => ⟨lay_map (fun x => (hn x).1) _, Nat.succ_le_succ (depth_map (fun x => (hn x).2) _)⟩)
        (fun xs => ⟨lay_map (fun x => (hn x).1) _, Nat.succ_le_succ (depth_map (fun x => (hn x).2) _)⟩) ⟨rfl, Nat.zero_le _⟩ (H a)
    | _ => exact ⟨rfl, Nat.zero_le _⟩
theorem Oks.reads {f : AV → PyData} {vs : List AV} {Vs : List Value} (h1 : Oks vs Vs) (h2 : ∀ v V, v ∈ vs → v.ok V → ∃ as, Reads h V (f v) as) : ∃ as, ReadsAll h Vs (vs.map f) as := by
  induction h1 with
  | nil => exact ⟨[], .nil⟩
  | @cons v V vs Vs a b ih =>
    obtain ⟨as, r⟩ := h2 v V (.head _) a
    obtain ⟨bs, q⟩ := ih fun v V hv hV => h2 v V (.tail _ hv) hV
    exact ⟨as ++ bs, .cons r q⟩
theorem Rv.flat {n : Nat} {v : AV} {V : Value} (h1 : v = .none ∨ ∃ i, v = .int i) (h2 : v.ok V) : ∃ as, Reads h V (dat H n v) as := by
  rcases h1 with rfl | ⟨i, rfl⟩
  · cases h2; exact ⟨[], by cases n <;> exact .none⟩
  · obtain ⟨t, rfl⟩ := h2; exact ⟨[], by cases n <;> exact .int i t⟩
theorem Rv.reads (see : SeeH w H h) : ∀ {n : Nat} {v : AV} {V : Value}, Rv H n v → v.ok V → ∃ as, Reads h V (dat H n v) as
  | 0, _, _, h1, h2 => Rv.flat h1 h2
  | n + 1, v, V, h1, h2 => by
    rcases h1 with h1 | ⟨a, xs, rfl, ha, hx⟩
    · exact Rv.flat h1 h2
    · cases h2
      show ∃ as, Reads h _ (pd (dat H n) (H a)) as
      rcases ha with ha | ha
      · obtain ⟨_, ho, Vs, k, rfl, hok⟩ := see _ _ ha (by simp)
        obtain ⟨as, r⟩ := hok.reads (f := dat H n) fun v V hv hV => Rv.reads see (hx v hv) hV
        rw [ha]
        exact ⟨as, .tuple ho rfl rfl (by simpa using r)⟩
      · obtain ⟨_, ho, Vs, k, rfl, hok⟩ := see _ _ ha (by simp)
        obtain ⟨as, r⟩ := hok.reads (f := dat H n) fun v V hv hV => Rv.reads see (hx v hv) hV
        rw [ha]
        exact ⟨a :: as, .list ho rfl rfl (by simpa using r)⟩
theorem dat_shaped {n : Nat} {v : AV} (hn : n ≤ 64) : PySem.SeqAt.shaped (dat H n v) = true := by
  have := dat_lay (H := H) n v
  exact Bool.and_eq_true_iff.mpr ⟨this.1, decide_eq_true (Nat.le_trans this.2 hn)⟩
theorem CmpS.eqd (ok : c.Ok K lvl) {n : Nat} {a b : AV} {q : Bool → Prop} (hn : n ≤ 64) (ha : Rv H n a) (hb : Rv H n b) (e : dat H n a = dat H n b) (h : q true) : CmpS w c .Eq a b l H q := fun V U s hv hu x => by
  obtain ⟨as, ra⟩ := ha.reads x.see hv
  obtain ⟨bs, rb⟩ := hb.reads x.see hu
  refine eq_dataH ra rb (dat_shaped hn) (dat_shaped hn) (by have := ok.units; show c.A.units + 64 < 9900; lia) ⟨true, ?_, x, h⟩
  rw [e, PySem.SeqAt.eqv_refl _ (dat_lay n b).1]
theorem CmpS.nenil (ok : c.Ok K lvl) {n : Nat} {a b : Addr} {xs : List AV} {q : Bool → Prop} (hn : n + 1 ≤ 64) (ha : H a = some (.list xs)) (hx : ∀ x ∈ xs, Rv H n x) (hb : H b = some (.list [])) (h : q (!xs.isEmpty)) : CmpS w c .NotEq (.ref a) (.ref b) l H q := fun V U s hv hu x => by
  obtain ⟨as, ra⟩ := Rv.reads (n := n + 1) x.see (.inr ⟨a, xs, rfl, .inr ha, hx⟩) hv
  obtain ⟨bs, rb⟩ := Rv.reads (n := n + 1) x.see (.inr ⟨b, [], rfl, .inr hb, (by simp)⟩) hu
  refine ne_dataH ra rb (dat_shaped hn) (dat_shaped hn) (by have := ok.units; show c.A.units + 64 < 9900; omega) ⟨!xs.isEmpty, ?_, x, h⟩
  rw [show dat H (n + 1) (.ref a) = .list (xs.map (dat H n)) from congrArg (pd _) ha, show dat H (n + 1) (.ref b) = .list [] from congrArg (pd _) hb]
  cases xs <;> simp [PyData.eqv, PyData.eqvAll]
/-- a, b = e -/
theorem Ex.tup {es : List PySem.Expr} {k : Nat} {p p' : Pos} {e : PySem.Expr} {N : Loc → AH → Prop} {R : AV → AH → Prop} (h : Ev w c e l H fun v H₁ => Asg w c (.Tuple es k p') v l H₁ N)
    (hs : swapsWithSole [.Tuple es k p'] e p.line c.env = pure false := by rfl) (hw : swappedStores [.Tuple es k p'] e c.env = pure Option.none := by rfl) : Ex w c (.Assign [.Tuple es k p'] e p) l H N R := fun s st =>
  Assign_Tuple (h.bind st fun V s₁ v H₁ hv x₁ q => wpAny_mono (q V s₁ hv x₁) (fun _ s' h => h) fun _ _ f => f) hs hw
/-- e and e' as a value -/
theorem Ev.and2 {e₁ e₂ : PySem.Expr} {p : Pos} {Q : AV → AH → Prop} (h : Ev w c e₁ l H fun v H₁ => ∃ b, v = .bool b ∧ (b = false → Q (.bool false) H₁) ∧ (b = true → Ev w c e₂ l H₁ Q)) : Ev w c (.BoolOp .And [e₁, e₂] p) l H Q := fun s x =>
  BoolOp_and (h.bind x fun V s₁ v H₁ hv x₁ ⟨b, e, q1, q2⟩ => by
    subst e; cases hv
    refine wpAny_truthy_bool ?_
    cases b with
    | false => exact ⟨.bool false, H₁, rfl, x₁, q1 rfl⟩
    | true => exact q2 rfl s₁ x₁)
end


set_option genInjectivity false in
structure Ad where
  m : Addr
  md : Addr
  w : Addr
  h : Addr
  hd : Addr
structure MemAt (H : AH) (A : Ad) (M : Int → Int) : Prop where
  m : H A.m = some (.inst 278 A.md)
  md : H A.md = some (.attrs [("size", .int 4096), ("words", .ref A.w)])
  w : H A.w = some (.words M)
structure HpAt (H : AH) (A : Ad) (lim : Int) (f : Addr) (M : Int → Int) (F : List Int) : Prop where
  mem : MemAt H A M
  h : H A.h = some (.inst 108 A.hd)
  hd : H A.hd = some (.attrs [("memory", .ref A.m), ("start", .int 1024), ("limit", .int lim), ("free", .ref f)])
  f : H f = some (.list (F.map .int))
noncomputable def rd (M : Int → Int) (a : Int) : Int := M (a / 4)
noncomputable def wr (M : Int → Int) (a v : Int) : Int → Int := setM M (a / 4) (v % 4294967296)
section
variable {H H' H'' : AH} {A : Ad} {M M' : Int → Int} {S S' : List Addr} {lim : Int} {f : Addr} {F F' : List Int}
theorem Keep.refl : Keep S H H := fun _ _ _ h => h
theorem Keep.trans (h : Keep S H H') (h' : Keep S H' H'') : Keep S H H'' := fun b hb o e => h' b hb o (h b hb o e)
theorem Keep.mono (h : Keep S H H') (hs : ∀ a ∈ S, a ∈ S') : Keep S' H H' := fun b hb o e => h b (fun q => hb (hs b q)) o e
theorem Keep.set {a : Addr} {o : AO} (h : a ∈ S) : Keep S H (H.set a o) := fun b hb o' e => by rw [AH.set_ne (fun q => hb (by rw [q]; exact h))]; exact e
theorem Keep.new {a : Addr} {o : AO} (h : H a = none) : Keep S H (H.set a o) := fun b hb o' e => by rw [AH.set_ne (fun q => by rw [q, h] at e; cases e)]; exact e
theorem Keep.get {a : Addr} {o : AO} (h : Keep S H H') (ha : a ∉ S) (e : H a = some o) : H' a = some o := h a ha o e
theorem MemAt.kept (x : MemAt H A M) (k : Keep [A.w] H H') (hw : H' A.w = some (.words M')) : MemAt H' A M' :=
  ⟨k.get (by simp; intro e; have := x.m; rw [e, x.w] at this; cases this) x.m, k.get (by simp; intro e; have := x.md; rw [e, x.w] at this; cases this) x.md, hw⟩
theorem MemAt.set (x : MemAt H A M) : MemAt (H.set A.w (.words M')) A M' := x.kept (Keep.set (.head _)) (AH.set_self ..)
theorem HpAt.fw (x : HpAt H A lim f M F) : f ≠ A.w := fun e => by have := x.f; rw [e, x.mem.w] at this; cases this
theorem HpAt.kept (x : HpAt H A lim f M F) (k : Keep [A.w] H H') (y : MemAt H' A M') : HpAt H' A lim f M' F :=
  ⟨y, k.get (by simp; intro e; have := x.h; rw [e, x.mem.w] at this; cases this) x.h, k.get (by simp; intro e; have := x.hd; rw [e, x.mem.w] at this; cases this) x.hd, k.get (by simpa using x.fw) x.f⟩
theorem HpAt.mono (x : HpAt H A lim f M F) (k : Keep [] H H') : HpAt H' A lim f M F :=
  ⟨⟨k.get (by simp) x.mem.m, k.get (by simp) x.mem.md, k.get (by simp) x.mem.w⟩, k.get (by simp) x.h, k.get (by simp) x.hd, k.get (by simp) x.f⟩
theorem MemAt.mono (x : MemAt H A M) (k : Keep [] H H') : MemAt H' A M := ⟨k.get (by simp) x.m, k.get (by simp) x.md, k.get (by simp) x.w⟩
end

/-! the attributes' facts -/
theorem a_size (P : Params) : AttrOk (KK P) 278 "size" := ⟨by kernel_rfl, by kernel_rfl, by kernel_rfl⟩
theorem a_words (P : Params) : AttrOk (KK P) 278 "words" := ⟨by kernel_rfl, by kernel_rfl, by kernel_rfl⟩
theorem a_memory (P : Params) : AttrOk (KK P) 108 "memory" := ⟨by kernel_rfl, by kernel_rfl, by kernel_rfl⟩
theorem a_start (P : Params) : AttrOk (KK P) 108 "start" := ⟨by kernel_rfl, by kernel_rfl, by kernel_rfl⟩
theorem a_limit (P : Params) : AttrOk (KK P) 108 "limit" := ⟨by kernel_rfl, by kernel_rfl, by kernel_rfl⟩
theorem a_free (P : Params) : AttrOk (KK P) 108 "free" := ⟨by kernel_rfl, by kernel_rfl, by kernel_rfl⟩
theorem m_place (P : Params) : MethOk (KK P) 278 "place" 247 := ⟨by kernel_rfl, by kernel_rfl, by kernel_rfl, by kernel_rfl⟩
theorem m_word (P : Params) : MethOk (KK P) 278 "word" 254 := ⟨by kernel_rfl, by kernel_rfl, by kernel_rfl, by kernel_rfl⟩
theorem m_put_word (P : Params) : MethOk (KK P) 278 "put_word" 261 := ⟨by kernel_rfl, by kernel_rfl, by kernel_rfl, by kernel_rfl⟩
section
variable {P : Params} {w : World} {c : Cx} {l l' : Loc} {H H' : AH} {s s' : Shared} {lvl n : Nat} {Q : AV → AH → Prop} {A : Ad} {M : Int → Int} {F : List Int} {f : Addr} {lim : Int} {o e e₁ e₂ : PySem.Expr} {ap p p' : Pos} {N : Loc → AH → Prop} {R : AV → AH → Prop}
/-- the memory's object; the heap's -/
inductive MemP (v : AV) (H : AH) (q : Ad → Prop) : Prop
  | mk (A : Ad) (M : Int → Int) (e : v = .ref A.m) (x : MemAt H A M) (k : q A)
inductive HpP (v : AV) (H : AH) (q : Ad → Int → Addr → Prop) : Prop
  | mk (A : Ad) (lim : Int) (f : Addr) (M : Int → Int) (F : List Int) (e : v = .ref A.h) (x : HpAt H A lim f M F) (k : q A lim f)
theorem Ev.size (ok : c.Ok (KK P) lvl) (h : Ev w c o l H fun v H₁ => MemP v H₁ fun _ => Q (.int 4096) H₁) (he : eval (.Attribute o (Str.ofString "size") p) c.env = (do
      let v ← eval o c.env
      standAt p.atName
      let r ← holding [v] (getAttr v (Str.ofString "size") true)
      letTemporaryGo o v r
      pure r) := by with_unfolding_all rfl) : Ev w c (.Attribute o (Str.ofString "size") p) l H Q :=
  Ev.attr ok (h.mono fun v H₁ ⟨A, M, e, x, q⟩ => ⟨A.m, 278, A.md, _, _, e, x.m, x.md, a_size P, (by (repeat (first | exact Get.head | (refine Get.tail ?_ ?_; decide)))), rfl, q⟩) he
theorem Ev.words_ (ok : c.Ok (KK P) lvl) (h : Ev w c o l H fun v H₁ => MemP v H₁ fun A => Q (.ref A.w) H₁) (he : eval (.Attribute o (Str.ofString "words") p) c.env = (do
      let v ← eval o c.env
      standAt p.atName
      let r ← holding [v] (getAttr v (Str.ofString "words") true)
      letTemporaryGo o v r
      pure r) := by with_unfolding_all rfl) : Ev w c (.Attribute o (Str.ofString "words") p) l H Q :=
  Ev.attr ok (h.mono fun v H₁ ⟨A, M, e, x, q⟩ => ⟨A.m, 278, A.md, _, _, e, x.m, x.md, a_words P, (by (repeat (first | exact Get.head | (refine Get.tail ?_ ?_; decide)))), rfl, q⟩) he
theorem Ev.memory (ok : c.Ok (KK P) lvl) (h : Ev w c o l H fun v H₁ => HpP v H₁ fun A _ _ => Q (.ref A.m) H₁) (he : eval (.Attribute o (Str.ofString "memory") p) c.env = (do
      let v ← eval o c.env
      standAt p.atName
      let r ← holding [v] (getAttr v (Str.ofString "memory") true)
      letTemporaryGo o v r
      pure r) := by with_unfolding_all rfl) : Ev w c (.Attribute o (Str.ofString "memory") p) l H Q :=
  Ev.attr ok (h.mono fun v H₁ ⟨A, lim, f, M, F, e, x, q⟩ => ⟨A.h, 108, A.hd, _, _, e, x.h, x.hd, a_memory P, (by (repeat (first | exact Get.head | (refine Get.tail ?_ ?_; decide)))), rfl, q⟩) he
theorem Ev.start (ok : c.Ok (KK P) lvl) (h : Ev w c o l H fun v H₁ => HpP v H₁ fun _ _ _ => Q (.int 1024) H₁) (he : eval (.Attribute o (Str.ofString "start") p) c.env = (do
      let v ← eval o c.env
      standAt p.atName
      let r ← holding [v] (getAttr v (Str.ofString "start") true)
      letTemporaryGo o v r
      pure r) := by with_unfolding_all rfl) : Ev w c (.Attribute o (Str.ofString "start") p) l H Q :=
  Ev.attr ok (h.mono fun v H₁ ⟨A, lim, f, M, F, e, x, q⟩ => ⟨A.h, 108, A.hd, _, _, e, x.h, x.hd, a_start P, (by (repeat (first | exact Get.head | (refine Get.tail ?_ ?_; decide)))), rfl, q⟩) he
theorem Ev.limit (ok : c.Ok (KK P) lvl) (h : Ev w c o l H fun v H₁ => HpP v H₁ fun _ lim _ => Q (.int lim) H₁) (he : eval (.Attribute o (Str.ofString "limit") p) c.env = (do
      let v ← eval o c.env
      standAt p.atName
      let r ← holding [v] (getAttr v (Str.ofString "limit") true)
      letTemporaryGo o v r
      pure r) := by with_unfolding_all rfl) : Ev w c (.Attribute o (Str.ofString "limit") p) l H Q :=
  Ev.attr ok (h.mono fun v H₁ ⟨A, lim, f, M, F, e, x, q⟩ => ⟨A.h, 108, A.hd, _, _, e, x.h, x.hd, a_limit P, (by (repeat (first | exact Get.head | (refine Get.tail ?_ ?_; decide)))), rfl, q⟩) he
theorem Ev.free (ok : c.Ok (KK P) lvl) (h : Ev w c o l H fun v H₁ => HpP v H₁ fun _ _ f => Q (.ref f) H₁) (he : eval (.Attribute o (Str.ofString "free") p) c.env = (do
      let v ← eval o c.env
      standAt p.atName
      let r ← holding [v] (getAttr v (Str.ofString "free") true)
      letTemporaryGo o v r
      pure r) := by with_unfolding_all rfl) : Ev w c (.Attribute o (Str.ofString "free") p) l H Q :=
  Ev.attr ok (h.mono fun v H₁ ⟨A, lim, f, M, F, e, x, q⟩ => ⟨A.h, 108, A.hd, _, _, e, x.h, x.hd, a_free P, (by (repeat (first | exact Get.head | (refine Get.tail ?_ ?_; decide)))), rfl, q⟩) he

theorem d_place (P : Params) : DefAt P (meAt 35 1) 247 246 "Memory.place" (.str "moduleyard.memory" 529) ["self", "address"] := by (refine ⟨by kernel_rfl, by kernel_rfl, by kernel_rfl, by decide +kernel, by decide, ?_⟩; refine len2 fun a b => ?_; kernel_rfl)
theorem k_place {a : Int} (x : MemAt H A M) (h0 : 0 ≤ a) (h1 : a < 4096) (q : Q (.int (a / 4)) H) : Call w (KK P) (n + 1) (.ref 247) [.ref A.m, .int a] H Q := by
  refine Call.go (d_place P) rfl fun c fn => ?_
  have hn := fn.names (ls := [("self", .local), ("address", .local)]) (by decide +kernel)
  have ok := fn.ok
  simp only [List.zip_cons_cons, List.zip_nil_right]
  refine Exs.cons (Ex.ifs (Tr.or (Tr.cmp ?_)))
  refine Ev.loc ‹_› ‹_› (by rfl) (by rfl) ?_
  refine Ev.int ?_
  show _ ∧ _
  rw [decide_eq_false (by lia)]
  refine ⟨(nomatch ·), fun _ => Tr.or (Tr.cmp ?_)⟩
  refine Ev.loc ‹_› ‹_› (by rfl) (by rfl) ?_
  refine Ev.size ok ?_
  refine Ev.loc ‹_› ‹_› (by rfl) (by rfl) ?_
  refine ⟨A, M, rfl, x, ?_⟩
  show _ ∧ _
  rw [decide_eq_false (by lia)]
  refine ⟨(nomatch ·), fun _ => Tr.or_nil ⟨(nomatch ·), fun _ => Exs.nil (Exs.cons (Ex.ret (Ev.bin ?_)))⟩⟩
  refine Ev.loc ‹_› ‹_› (by rfl) (by rfl) ?_
  exact Ev.int ⟨by decide, q⟩
end

section
variable {w : World} {c : Cx} {l : Loc} {H : AH} {lvl : Nat} {Q : AV → AH → Prop} {p : Pos} {K : Frag} {ls : List (String × NameKind)} {x : String} {gt bt : List (String × Value)}
theorem Ev.gi {i : Int} {t : Tok} (ok : c.Ok K lvl) (g : GlobOk K gt bt) (hn : NamesOk c.env ls) (h1 : assoc x ls = some NameKind.globalImplicit) (h2 : assoc x gt = some (Value.int i t)) (q : Q (.int i) H) : Ev w c (.Name (Str.ofString x) p) l H Q := Ev.glob (v := .int i) ok g hn h1 h2 ⟨_, rfl⟩ q
theorem Ev.gr {a : Addr} (ok : c.Ok K lvl) (g : GlobOk K gt bt) (hn : NamesOk c.env ls) (h1 : assoc x ls = some NameKind.globalImplicit) (h2 : assoc x gt = some (Value.ref a)) (q : Q (.ref a) H) : Ev w c (.Name (Str.ofString x) p) l H Q := Ev.glob (v := .ref a) ok g hn h1 h2 rfl q
/-- a call of a def of the module's, by its name -/
theorem Ev.callf {a : Addr} {es : List PySem.Expr} {p' : Pos} (ok : c.Ok K lvl) (g : GlobOk K gt bt) (hn : NamesOk c.env ls) (h1 : assoc x ls = some NameKind.globalImplicit) (h2 : assoc x gt = some (Value.ref a)) (hk : keepIn K (.ref a) = true)
    (h : Evs w c es l H fun vs H₂ => Call w K lvl (.ref a) vs H₂ Q)
    (hs : noStar es = true := by rfl)
    (he : eval (.Call (.Name (Str.ofString x) p) es [] p') c.env = (do callWith p' (← eval (.Name (Str.ofString x) p) c.env) [] (backTo p' (starEach es c.env)) (backToKw p' (keywordEach [] c.env))) := by rfl) : Ev w c (.Call (.Name (Str.ofString x) p) es [] p') l H Q :=
  Ev.callg ok (Ev.gr ok g hn h1 h2 ⟨a, rfl, hk, h⟩) hs he
end

section
variable {P : Params} {w : World} {c : Cx} {l l' : Loc} {H H' : AH} {s s' : Shared} {lvl n : Nat} {Q : AV → AH → Prop} {A : Ad} {M : Int → Int} {F : List Int} {f : Addr} {lim : Int} {o e e₁ e₂ : PySem.Expr} {ap p p' : Pos} {N : Loc → AH → Prop} {R : AV → AH → Prop}

theorem d_word (P : Params) : DefAt P (meAt 35 2) 254 253 "Memory.word" (.str "moduleyard.memory" 529) ["self", "address"] := by (refine ⟨by kernel_rfl, by kernel_rfl, by kernel_rfl, by decide +kernel, by decide, ?_⟩; refine len2 fun a b => ?_; kernel_rfl)
theorem k_word {a : Int} (x : MemAt H A M) (h0 : 0 ≤ a) (h1 : a < 4096) (q : Q (.int (rd M a)) H) : Call w (KK P) (n + 2) (.ref 254) [.ref A.m, .int a] H Q := by
  refine Call.go (d_word P) rfl fun c fn => ?_
  have hn := fn.names (ls := [("self", .local), ("address", .local)]) (by decide +kernel)
  have ok := fn.ok
  simp only [List.zip_cons_cons, List.zip_nil_right]
  refine Exs.cons (Ex.ret (Ev.dget ok (Ev.words_ ok ?_)))
  refine Ev.loc ‹_› ‹_› (by rfl) (by rfl) ?_
  refine ⟨A, M, rfl, x, A.w, M, rfl, x.w, Ev.meth ok ?_⟩
  refine Ev.loc ‹_› ‹_› (by rfl) (by rfl) ?_
  refine ⟨A.m, 278, A.md, _, 247, rfl, x.m, x.md, m_place P, by simp, ?_⟩
  refine Ev.loc ‹_› ‹_› (by rfl) (by rfl) ?_
  exact k_place x h0 h1 ⟨_, rfl, Ev.int ⟨rfl, M, x.w, q⟩⟩

theorem d_put_word (P : Params) : DefAt P (meAt 35 3) 261 260 "Memory.put_word" (.str "moduleyard.memory" 529) ["self", "address", "value"] := by (refine ⟨by kernel_rfl, by kernel_rfl, by kernel_rfl, by decide +kernel, by decide, ?_⟩; refine len3 fun a b c => ?_; kernel_rfl)
theorem k_put_word {a v : Int} (x : MemAt H A M) (h0 : 0 ≤ a) (h1 : a < 4096) (q : ∀ H', MemAt H' A (wr M a v) → Keep [A.w] H H' → Q .none H') : Call w (KK P) (n + 2) (.ref 261) [.ref A.m, .int a, .int v] H Q := by
  refine Call.go (d_put_word P) rfl fun c fn => ?_
  have hn := fn.names (ls := [("self", .local), ("address", .local), ("value", .local), ("WORD", .globalImplicit)]) (by decide +kernel)
  have ok := fn.ok
  simp only [List.zip_cons_cons, List.zip_nil_right]
  refine Exs.cons (Ex.setwords (Ev.bin ?_))
  refine Ev.loc ‹_› ‹_› (by rfl) (by rfl) ?_
  refine Ev.gi ‹_› (globOk _) ‹_› (by rfl) (by rfl) ?_
  refine ⟨by decide, v % 4294967296, rfl, by lia, Ev.words_ ok ?_⟩
  refine Ev.loc ‹_› ‹_› (by rfl) (by rfl) ?_
  refine ⟨A, M, rfl, x, A.w, rfl, Ev.meth ok ?_⟩
  refine Ev.loc ‹_› ‹_› (by rfl) (by rfl) ?_
  refine ⟨A.m, 278, A.md, _, 247, rfl, x.m, x.md, m_place P, by simp, ?_⟩
  refine Ev.loc ‹_› ‹_› (by rfl) (by rfl) ?_
  refine k_place x h0 h1 ⟨a / 4, M, rfl, by lia, by lia, x.w, Exs.nil (q _ ?_ ?_)⟩
  · exact x.set
  · exact Keep.set (List.mem_cons_self ..)

inductive RdP (A : Ad) (u : AV) (H : AH) (Q : AV → AH → Prop) : Prop
  | mk (a : Int) (M : Int → Int) (e : u = .int a) (x : MemAt H A M) (hr : 0 ≤ a ∧ a < 4096) (q : Q (.int (Mine.rd M a)) H)
inductive WrP (A : Ad) (u z : AV) (l : Loc) (H : AH) (N : Loc → AH → Prop) : Prop
  | mk (a : Int) (M : Int → Int) (b : Int) (e : u = .int a) (e' : z = .int b) (x : MemAt H A M) (hr : 0 ≤ a ∧ a < 4096) (q : ∀ H', MemAt H' A (Mine.wr M a b) → Keep [A.w] H H' → N l H')
/-- m.word(a) -/
theorem Ev.rd (ok : c.Ok (KK P) (n + 2)) (h : Ev w c o l H fun v H₁ => MemP v H₁ fun A => Ev w c e l H₁ fun u H₂ => RdP A u H₂ Q)
    (hn : noStar [e] = true := by rfl)
    (he : eval (.Call (.Attribute o (Str.ofString "word") ap) [e] [] p) c.env = (do
      let ov ← eval o c.env
      standAt ap.atName
      let (f, first) ← holding [ov] (getMethod ov (Str.ofString "word") (do return (← importBound o c.env).getD true))
      callWith p f first (backTo p (starEach [e] c.env)) (backToKw p (keywordEach [] c.env))) := by rfl) : Ev w c (.Call (.Attribute o (Str.ofString "word") ap) [e] [] p) l H Q :=
  Ev.meth ok (h.mono fun v H₁ ⟨A, M₀, e₁, x, q⟩ => ⟨A.m, 278, A.md, _, 254, e₁, x.m, x.md, m_word P, by simp, q.mono fun u H₂ ⟨a, M, e₂, x₂, hr, q₂⟩ => by
    subst e₂; exact k_word x₂ hr.1 hr.2 q₂⟩) hn he
/-- m.put_word(a, v) as a line -/
theorem Ex.wr (ok : c.Ok (KK P) (n + 2)) (h : Ev w c o l H fun v H₁ => MemP v H₁ fun A => Ev w c e₁ l H₁ fun u H₂ => Ev w c e₂ l H₂ fun z H₃ => WrP A u z l H₃ N)
    (hn : noStar [e₁, e₂] = true := by rfl)
    (he : eval (.Call (.Attribute o (Str.ofString "put_word") ap) [e₁, e₂] [] p) c.env = (do
      let ov ← eval o c.env
      standAt ap.atName
      let (f, first) ← holding [ov] (getMethod ov (Str.ofString "put_word") (do return (← importBound o c.env).getD true))
      callWith p f first (backTo p (starEach [e₁, e₂] c.env)) (backToKw p (keywordEach [] c.env))) := by rfl)
    (hs : swapsWith (.Call (.Attribute o (Str.ofString "put_word") ap) [e₁, e₂] [] p) none p'.line c.env = pure false := by rfl) : Ex w c (.Expr (.Call (.Attribute o (Str.ofString "put_word") ap) [e₁, e₂] [] p) p') l H N R :=
  Ex.expr (Ev.meth ok (h.mono fun v H₁ ⟨A, M₀, e₁, x, q⟩ => ⟨A.m, 278, A.md, _, 261, e₁, x.m, x.md, m_put_word P, by simp, q.mono fun u H₂ q₂ => q₂.mono fun z H₃ ⟨a, M, b, e₂, e₃, x₃, hr, q₃⟩ => by
    subst e₂; subst e₃; exact k_put_word x₃ hr.1 hr.2 fun H' y k => ⟨trivial, q₃ H' y k⟩⟩) hn he) (inter ok) hs
theorem Ex.set {x : String} {ls : List (String × NameKind)} (ok : c.Ok (KK P) lvl) (hn : NamesOk c.env ls) (hc : c.comp = none) (h1 : assoc x ls = some NameKind.local) (h : Ev w c e l H fun v H₁ => N (l.put x v) H₁)
    (hs : swapsWith e (some (.Name (Str.ofString x) p')) p.line c.env = pure false := by rfl) : Ex w c (.Assign [.Name (Str.ofString x) p'] e p) l H N R := Ex.assign ok hc hn h1 h hs
theorem Ex.inc {x : String} {i : Int} {ls : List (String × NameKind)} (ok : c.Ok (KK P) lvl) (hn : NamesOk c.env ls) (hc : c.comp = none) (h1 : assoc x ls = some NameKind.local) (h2 : assoc x l = some (.int i))
    (h : Ev w c e l H fun v H₁ => IntP v fun j => N (l.put x (.int (i + j))) H₁) : Ex w c (.AugAssign (.Name (Str.ofString x) p') .Add e p) l H N R := Ex.aug ok hc hn h1 h2 h

/-! the plain functions -/
noncomputable def ln (n : Int) : Int := if n < 32 then 0 else if n < 64 then 1 else if n < 128 then 2 else 3
theorem d_number (P : Params) : DefAt P (stAt 6) 35 34 "list_number" (.str "moduleyard.heap" 194) ["size"] := by (refine ⟨by kernel_rfl, by kernel_rfl, by kernel_rfl, by decide +kernel, by decide, ?_⟩; refine len1 fun a => ?_; kernel_rfl)
theorem k_number {a : Int} (q : Q (.int (ln a)) H) : Call w (KK P) (n + 1) (.ref 35) [.int a] H Q := by
  refine Call.go (d_number P) rfl fun c fn => ?_
  have hn := fn.names (ls := [("size", .local)]) (by decide +kernel)
  have ok := fn.ok
  simp only [List.zip_cons_cons, List.zip_nil_right]
  unfold ln at q
  refine Exs.cons (Ex.ifs (Tr.cmp ?_))
  refine Ev.loc ‹_› ‹_› (by rfl) (by rfl) ?_
  refine Ev.int ⟨fun h => Exs.cons (Ex.ret (Ev.int ?_)), fun h => Exs.nil (Exs.cons (Ex.ifs (Tr.cmp ?_)))⟩
  · rw [if_pos (by simpa using h)] at q; exact q
  rw [if_neg (by simpa using h)] at q
  refine Ev.loc ‹_› ‹_› (by rfl) (by rfl) ?_
  refine Ev.int ⟨fun h => Exs.cons (Ex.ret (Ev.int ?_)), fun h => Exs.nil (Exs.cons (Ex.ifs (Tr.cmp ?_)))⟩
  · rw [if_pos (by simpa using h)] at q; exact q
  rw [if_neg (by simpa using h)] at q
  refine Ev.loc ‹_› ‹_› (by rfl) (by rfl) ?_
  refine Ev.int ⟨fun h => Exs.cons (Ex.ret (Ev.int ?_)), fun h => Exs.nil (Exs.cons (Ex.ret (Ev.int ?_)))⟩
  · rw [if_pos (by simpa using h)] at q; exact q
  rw [if_neg (by simpa using h)] at q
  exact q
noncomputable def bs (r : Int) : Int := (r + 8 + 16 - 1) / 16 * 16
theorem d_bs (P : Params) : DefAt P (stAt 5) 28 27 "block_size" (.str "moduleyard.heap" 194) ["record_size"] := by (refine ⟨by kernel_rfl, by kernel_rfl, by kernel_rfl, by decide +kernel, by decide, ?_⟩; refine len1 fun a => ?_; kernel_rfl)
theorem k_bs {a : Int} (q : Q (.int (bs a)) H) : Call w (KK P) (n + 1) (.ref 28) [.int a] H Q := by
  refine Call.go (d_bs P) rfl fun c fn => ?_
  have hn := fn.names (ls := [("record_size", .local), ("GRAIN", .globalImplicit), ("HEADER", .globalImplicit)]) (by decide +kernel)
  have ok := fn.ok
  simp only [List.zip_cons_cons, List.zip_nil_right]
  refine Exs.cons (Ex.ret (Ev.bin (Ev.bin (Ev.bin (Ev.bin (Ev.bin ?_))))))
  refine Ev.loc ‹_› ‹_› (by rfl) (by rfl) ?_
  refine Ev.gi ‹_› (globOk _) ‹_› (by rfl) (by rfl) ?_
  show Ev _ _ _ _ _ _
  refine Ev.gi ‹_› (globOk _) ‹_› (by rfl) (by rfl) ?_
  refine Ev.int ?_
  refine Ev.gi ‹_› (globOk _) ‹_› (by rfl) (by rfl) ?_
  refine ⟨by decide, ?_⟩
  refine Ev.gi ‹_› (globOk _) ‹_› (by rfl) (by rfl) ?_
  exact ⟨.inr (by decide), q⟩
end


section
variable {P : Params} {w : World} {c : Cx} {l l' : Loc} {H H' : AH} {s s' : Shared} {lvl n : Nat} {Q : AV → AH → Prop} {A : Ad} {M : Int → Int} {F : List Int} {f : Addr} {lim : Int} {o e e₁ e₂ : PySem.Expr} {ap p p' : Pos} {N : Loc → AH → Prop} {R : AV → AH → Prop}
theorem m_put_free (P : Params) : MethOk (KK P) 108 "put_free" 56 := ⟨by kernel_rfl, by kernel_rfl, by kernel_rfl, by kernel_rfl⟩
theorem m_is_free (P : Params) : MethOk (KK P) 108 "is_free" 63 := ⟨by kernel_rfl, by kernel_rfl, by kernel_rfl, by kernel_rfl⟩
theorem m_descriptor (P : Params) : MethOk (KK P) 108 "descriptor" 70 := ⟨by kernel_rfl, by kernel_rfl, by kernel_rfl, by kernel_rfl⟩
theorem m_size_of (P : Params) : MethOk (KK P) 108 "size_of" 77 := ⟨by kernel_rfl, by kernel_rfl, by kernel_rfl, by kernel_rfl⟩
theorem m_take_free (P : Params) : MethOk (KK P) 108 "take_free" 84 := ⟨by kernel_rfl, by kernel_rfl, by kernel_rfl, by kernel_rfl⟩
theorem m_alloc (P : Params) : MethOk (KK P) 108 "alloc" 91 := ⟨by kernel_rfl, by kernel_rfl, by kernel_rfl, by kernel_rfl⟩
theorem m_blocks (P : Params) : MethOk (KK P) 108 "blocks" 98 := ⟨by kernel_rfl, by kernel_rfl, by kernel_rfl, by kernel_rfl⟩
theorem m_block_of (P : Params) : MethOk (KK P) 108 "block_of" 105 := ⟨by kernel_rfl, by kernel_rfl, by kernel_rfl, by kernel_rfl⟩
theorem d_put_free (P : Params) : DefAt P (meAt 7 1) 56 55 "Heap.put_free" (.str "moduleyard.heap" 194) ["self", "block", "size"] := by (refine ⟨by kernel_rfl, by kernel_rfl, by kernel_rfl, by decide +kernel, by decide, ?_⟩; refine len3 fun a b c => ?_; kernel_rfl)
theorem d_is_free (P : Params) : DefAt P (meAt 7 2) 63 62 "Heap.is_free" (.str "moduleyard.heap" 194) ["self", "block"] := by (refine ⟨by kernel_rfl, by kernel_rfl, by kernel_rfl, by decide +kernel, by decide, ?_⟩; refine len2 fun a b => ?_; kernel_rfl)
theorem d_descriptor (P : Params) : DefAt P (meAt 7 3) 70 69 "Heap.descriptor" (.str "moduleyard.heap" 194) ["self", "block"] := by (refine ⟨by kernel_rfl, by kernel_rfl, by kernel_rfl, by decide +kernel, by decide, ?_⟩; refine len2 fun a b => ?_; kernel_rfl)
theorem d_size_of (P : Params) : DefAt P (meAt 7 4) 77 76 "Heap.size_of" (.str "moduleyard.heap" 194) ["self", "block"] := by (refine ⟨by kernel_rfl, by kernel_rfl, by kernel_rfl, by decide +kernel, by decide, ?_⟩; refine len2 fun a b => ?_; kernel_rfl)
theorem d_take_free (P : Params) : DefAt P (meAt 7 5) 84 83 "Heap.take_free" (.str "moduleyard.heap" 194) ["self", "size"] := by (refine ⟨by kernel_rfl, by kernel_rfl, by kernel_rfl, by decide +kernel, by decide, ?_⟩; refine len2 fun a b => ?_; kernel_rfl)
theorem d_alloc (P : Params) : DefAt P (meAt 7 6) 91 90 "Heap.alloc" (.str "moduleyard.heap" 194) ["self", "descriptor"] := by (refine ⟨by kernel_rfl, by kernel_rfl, by kernel_rfl, by decide +kernel, by decide, ?_⟩; refine len2 fun a b => ?_; kernel_rfl)
theorem d_blocks (P : Params) : DefAt P (meAt 7 7) 98 97 "Heap.blocks" (.str "moduleyard.heap" 194) ["self"] := by (refine ⟨by kernel_rfl, by kernel_rfl, by kernel_rfl, by decide +kernel, by decide, ?_⟩; refine len1 fun a => ?_; kernel_rfl)
theorem d_block_of (P : Params) : DefAt P (meAt 7 8) 105 104 "Heap.block_of" (.str "moduleyard.heap" 194) ["self", "address"] := by (refine ⟨by kernel_rfl, by kernel_rfl, by kernel_rfl, by decide +kernel, by decide, ?_⟩; refine len2 fun a b => ?_; kernel_rfl)

/-- a method of the heap's -/
theorem Ev.hmeth {x : String} {g : Addr} {es : List PySem.Expr} (ok : c.Ok (KK P) n) (hm : MethOk (KK P) 108 x g) (hne : ∀ p ∈ [("memory", AV.none), ("start", AV.none), ("limit", AV.none), ("free", AV.none)], p.1 ≠ x)
    (h : Ev w c o l H fun v H₁ => HpP v H₁ fun A _ _ => Evs w c es l H₁ fun vs H₂ => Call w (KK P) n (.ref g) (.ref A.h :: vs) H₂ Q)
    (hn : noStar es = true := by rfl)
    (he : eval (.Call (.Attribute o (Str.ofString x) ap) es [] p) c.env = (do
      let ov ← eval o c.env
      standAt ap.atName
      let (f, first) ← holding [ov] (getMethod ov (Str.ofString x) (do return (← importBound o c.env).getD true))
      callWith p f first (backTo p (starEach es c.env)) (backToKw p (keywordEach [] c.env))) := by rfl) : Ev w c (.Call (.Attribute o (Str.ofString x) ap) es [] p) l H Q :=
  Ev.meth ok (h.mono fun v H₁ ⟨A, lim, f, M, F, e, hp, q⟩ => ⟨A.h, 108, A.hd, _, g, e, hp.h, hp.hd, hm, by simpa using hne, q⟩) hn he

theorem ln_lo (a : Int) : 0 ≤ ln a ∧ ln a < 4 := by unfold ln; split <;> (try split) <;> (try split) <;> lia
theorem map_get {F : List Int} {k : Nat} {v : Int} (h : F[k]? = some v) : (F.map AV.int)[k]? = some (.int v) := by rw [List.getElem?_map, h]; rfl
theorem HpAt.setf (x : HpAt H A lim f M F) (F' : List Int) : HpAt (H.set f (.list (F'.map .int))) A lim f M F' := by
  have h1 : A.m ≠ f := fun e => by have := x.mem.m; rw [e, x.f] at this; cases this
  have h2 : A.md ≠ f := fun e => by have := x.mem.md; rw [e, x.f] at this; cases this
  have h3 : A.w ≠ f := fun e => by have := x.mem.w; rw [e, x.f] at this; cases this
  have h4 : A.h ≠ f := fun e => by have := x.h; rw [e, x.f] at this; cases this
  have h5 : A.hd ≠ f := fun e => by have := x.hd; rw [e, x.f] at this; cases this
  exact ⟨⟨by rw [AH.set_ne h1]; exact x.mem.m, by rw [AH.set_ne h2]; exact x.mem.md, by rw [AH.set_ne h3]; exact x.mem.w⟩, by rw [AH.set_ne h4]; exact x.h, by rw [AH.set_ne h5]; exact x.hd, AH.set_self ..⟩

theorem k_put_free {b z : Int} (x : HpAt H A lim f M F) (h4 : F.length = 4) (h0 : 0 ≤ b) (h1 : b + 4 < 4096) (q : ∀ H', HpAt H' A lim f (wr (wr M b (z + 1)) (b + 4) (F.getD (ln z).toNat 0)) (F.set (ln z).toNat b) → Keep [A.w, f] H H' → Q .none H') : Call w (KK P) (n + 3) (.ref 56) [.ref A.h, .int b, .int z] H Q := by
  refine Call.go (d_put_free P) rfl fun c fn => ?_
  have hn := fn.names (ls := [("self", .local), ("block", .local), ("size", .local), ("number", .local), ("list_number", .globalImplicit)]) (by decide +kernel)
  have ok := fn.ok
  have hc := fn.comp
  simp only [List.zip_cons_cons, List.zip_nil_right]
  have hln := ln_lo z
  refine Exs.cons (Ex.set ok hn hc (by rfl) (Ev.callf ok (globOk _) hn (by rfl) (by rfl) (d_number P).keep ?_))
  refine Ev.loc ‹_› ‹_› (by rfl) (by rfl) ?_
  refine k_number ?_
  refine Exs.cons (Ex.wr ok (Ev.memory ok ?_))
  refine Ev.loc ‹_› ‹_› (by rfl) (by rfl) ?_
  refine ⟨A, lim, f, M, F, rfl, x, A, M, rfl, x.mem, ?_⟩
  refine Ev.loc ‹_› ‹_› (by rfl) (by rfl) ?_
  refine Ev.bin ?_
  refine Ev.loc ‹_› ‹_› (by rfl) (by rfl) ?_
  refine Ev.int ⟨b, M, z + 1, rfl, rfl, x.mem, by lia, fun H₁ y₁ k₁ => ?_⟩
  have x₁ := x.kept k₁ y₁
  refine Exs.cons (Ex.wr ok (Ev.memory ok ?_))
  refine Ev.loc ‹_› ‹_› (by rfl) (by rfl) ?_
  refine ⟨A, lim, f, _, F, rfl, x₁, A, _, rfl, x₁.mem, Ev.bin ?_⟩
  refine Ev.loc ‹_› ‹_› (by rfl) (by rfl) ?_
  refine Ev.int (Ev.item (Ev.free ok ?_))
  refine Ev.loc ‹_› ‹_› (by rfl) (by rfl) ?_
  refine ⟨A, lim, f, _, F, rfl, x₁, ?_⟩
  refine Ev.loc ‹_› ‹_› (by rfl) (by rfl) ?_
  have hg : F[(ln z).toNat]? = some (F.getD (ln z).toNat 0) := by
    rw [List.getD_eq_getElem?_getD, List.getElem?_eq_getElem (by lia)]; rfl
  refine ⟨_, .list x₁.f (by lia) (map_get hg) (by lia), b + 4, _, _, rfl, rfl, x₁.mem, by lia, fun H₂ y₂ k₂ => ?_⟩
  have x₂ := x₁.kept k₂ y₂
  refine Exs.cons (Ex.setlist ?_)
  refine Ev.loc ‹_› ‹_› (by rfl) (by rfl) ?_
  refine Ev.free ok ?_
  refine Ev.loc ‹_› ‹_› (by rfl) (by rfl) ?_
  refine ⟨A, lim, f, _, F, rfl, x₂, f, rfl, ?_⟩
  refine Ev.loc ‹_› ‹_› (by rfl) (by rfl) ?_
  refine ⟨ln z, F.map .int, rfl, x₂.f, by omega, by rw [List.length_map, h4]; lia, by rw [List.length_map]; lia, Exs.nil (q _ ?_ ?_)⟩
  · have := x₂.setf (F.set (ln z).toNat b)
    rw [List.map_set] at this
    exact this
  · exact ((k₁.mono (by simp)).trans (k₂.mono (by simp))).trans (Keep.set (by simp))

theorem k_is_free {b : Int} (x : HpAt H A lim f M F) (h0 : 0 ≤ b) (h1 : b < 4096) (q : Q (.bool (decide (rd M b % 2 = 1))) H) : Call w (KK P) (n + 3) (.ref 63) [.ref A.h, .int b] H Q := by
  refine Call.go (d_is_free P) rfl fun c fn => ?_
  have hn := fn.names (ls := [("self", .local), ("block", .local)]) (by decide +kernel)
  have ok := fn.ok
  simp only [List.zip_cons_cons, List.zip_nil_right]
  refine Exs.cons (Ex.ret (Ev.cmp (Ev.bin (Ev.rd ok (Ev.memory ok ?_)))))
  refine Ev.loc ‹_› ‹_› (by rfl) (by rfl) ?_
  refine ⟨A, lim, f, M, F, rfl, x, A, M, rfl, x.mem, ?_⟩
  refine Ev.loc ‹_› ‹_› (by rfl) (by rfl) ?_
  exact ⟨b, M, rfl, x.mem, ⟨h0, h1⟩, Ev.int ⟨by decide, Ev.int q⟩⟩
theorem k_descriptor {b : Int} (x : HpAt H A lim f M F) (h0 : 0 ≤ b) (h1 : b < 4096) (q : Q (.int (rd M b)) H) : Call w (KK P) (n + 3) (.ref 70) [.ref A.h, .int b] H Q := by
  refine Call.go (d_descriptor P) rfl fun c fn => ?_
  have hn := fn.names (ls := [("self", .local), ("block", .local)]) (by decide +kernel)
  have ok := fn.ok
  simp only [List.zip_cons_cons, List.zip_nil_right]
  refine Exs.cons (Ex.ret (Ev.rd ok (Ev.memory ok ?_)))
  refine Ev.loc ‹_› ‹_› (by rfl) (by rfl) ?_
  refine ⟨A, lim, f, M, F, rfl, x, A, M, rfl, x.mem, ?_⟩
  refine Ev.loc ‹_› ‹_› (by rfl) (by rfl) ?_
  exact ⟨b, M, rfl, x.mem, ⟨h0, h1⟩, q⟩
noncomputable def sz (M : Int → Int) (b : Int) : Int := if rd M b % 2 = 1 then rd M b - 1 else bs (rd M (rd M b))
theorem k_size_of {b : Int} (x : HpAt H A lim f M F) (h0 : 0 ≤ b) (h1 : b < 4096) (h2 : rd M b % 2 ≠ 1 → 0 ≤ rd M b ∧ rd M b < 4096) (q : Q (.int (sz M b)) H) : Call w (KK P) (n + 3) (.ref 77) [.ref A.h, .int b] H Q := by
  refine Call.go (d_size_of P) rfl fun c fn => ?_
  have hn := fn.names (ls := [("self", .local), ("block", .local), ("first", .local), ("block_size", .globalImplicit)]) (by decide +kernel)
  have ok := fn.ok
  have hc := fn.comp
  simp only [List.zip_cons_cons, List.zip_nil_right]
  refine Exs.cons (Ex.set ok hn hc (by rfl) (Ev.rd ok (Ev.memory ok ?_)))
  refine Ev.loc ‹_› ‹_› (by rfl) (by rfl) ?_
  refine ⟨A, lim, f, M, F, rfl, x, A, M, rfl, x.mem, ?_⟩
  refine Ev.loc ‹_› ‹_› (by rfl) (by rfl) ?_
  refine ⟨b, M, rfl, x.mem, ⟨h0, h1⟩, Exs.cons (Ex.ifs (Tr.cmp (Ev.bin ?_)))⟩
  refine Ev.loc ‹_› ‹_› (by rfl) (by rfl) ?_
  unfold sz at q
  refine Ev.int ⟨by decide, Ev.int ⟨fun h => Exs.cons (Ex.ret (Ev.bin ?_)), fun h => Exs.nil (Exs.cons (Ex.ret (Ev.callg ok ?_)))⟩⟩
  · rw [if_pos (by simpa using h)] at q
    refine Ev.loc ‹_› ‹_› (by rfl) (by rfl) ?_
    exact Ev.int q
  · have h' : rd M b % 2 ≠ 1 := by simpa using h
    rw [if_neg h'] at q
    refine Ev.gr ‹_› (globOk _) ‹_› (by rfl) (by rfl) ?_
    refine ⟨28, rfl, (d_bs P).keep, Ev.rd ok (Ev.memory ok ?_)⟩
    refine Ev.loc ‹_› ‹_› (by rfl) (by rfl) ?_
    refine ⟨A, lim, f, M, F, rfl, x, A, M, rfl, x.mem, ?_⟩
    refine Ev.loc ‹_› ‹_› (by rfl) (by rfl) ?_
    exact ⟨_, M, rfl, x.mem, h2 h', k_bs q⟩
end


section
variable {P : Params} {w : World} {c : Cx} {l l' : Loc} {H H' : AH} {s s' : Shared} {lvl n : Nat} {Q : AV → AH → Prop} {A : Ad} {M : Int → Int} {F : List Int} {f : Addr} {lim : Int} {o e e₁ e₂ : PySem.Expr} {ap p p' : Pos} {N : Loc → AH → Prop} {R : AV → AH → Prop}
theorem from_1 {r : Addr} {x y : Int} (h : H r = some (.pred (isRange x y 1))) (hx : x ≤ y) (h0 : -1000000 ≤ x) (h1 : y ≤ 1000000) : (Src.range x 1 (y - x).toNat).from H (.ref r) := by
  have e : Builtin.Range.rangeSize x y 1 = y - x := by rw [range_size1]; split <;> lia
  refine Src.range_from h ?_ (by rw [e]; lia)
  unfold Builtin.Range.small
  rw [e]
  unfold Builtin.Range.rangeFitsLong
  simp
  (clear h e; omega)
theorem from_4 {r : Addr} {x : Int} {k : Nat} (h : H r = some (.pred (isRange x (x + 4 * k) 4))) (h0 : -1000000 ≤ x) (h1 : x ≤ 1000000) (h2 : k ≤ 1000000) : (Src.range x 4 k).from H (.ref r) := by
  have e : Builtin.Range.rangeSize x (x + 4 * k) 4 = k := range_size4
  refine Src.range_from h ?_ e
  unfold Builtin.Range.small
  rw [e]
  unfold Builtin.Range.rangeFitsLong
  simp
  lia
theorem HpAt.new (x : HpAt H A lim f M F) {a : Addr} {o : AO} (h : H a = none) : HpAt (H.set a o) A lim f M F := x.mono (Keep.new h)
/-- the free lists with one block of R bytes at t -/
noncomputable def fl (t R : Int) : List Int := if R ≤ 0 then [0, 0, 0, 0] else [0, 0, 0, 0].set (ln R).toNat t
theorem fl_length (t R : Int) : (fl t R).length = 4 := by unfold fl; split <;> simp
theorem fl_get (t R : Int) (k : Nat) (hk : k < 4) : (fl t R)[k]? = some (if 0 < R ∧ (ln R).toNat = k then t else 0) := by
  unfold fl
  have z : ∀ k < 4, ([0, 0, 0, 0] : List Int)[k]? = some 0 := by decide
  split
  · rw [if_neg (by lia)]; exact z k hk
  · rw [List.getElem?_set]
    by_cases h : (ln R).toNat = k
    · rw [if_pos h, if_pos (by have := ln_lo R; simp; lia), if_pos ⟨by lia, h⟩]
    · rw [if_neg h, if_neg (fun x => h x.2)]; exact z k hk
theorem fl_clear (t R : Int) : (fl t R).set (ln R).toNat 0 = [0, 0, 0, 0] := by
  have h := ln_lo R
  have hk : ∃ k, (ln R).toNat = k ∧ k < 4 := ⟨_, rfl, by lia⟩
  unfold fl
  obtain ⟨k, e, hk⟩ := hk
  rw [e]
  match k, hk with
  | 0, _ => split <;> rfl
  | 1, _ => split <;> rfl
  | 2, _ => split <;> rfl
  | 3, _ => split <;> rfl
theorem k_take_free {t R z : Int} (x : HpAt H A lim f M (fl t R)) (hz : z = 16 ∨ z = 32) (hR : 0 ≤ R ∧ R % 16 = 0) (ht : 0 < t ∧ (0 < R → t + 4 < 4096)) (fb : 0 < R → rd M t = R + 1 ∧ rd M (t + 4) = 0)
    (q1 : z ≤ R → ∀ H', HpAt H' A lim f M [0, 0, 0, 0] → Keep [A.w, f] H H' → Q (.int t) H') (q0 : R < z → ∀ H', HpAt H' A lim f M (fl t R) → Keep [A.w, f] H H' → Q (.int 0) H') : Call w (KK P) (n + 4) (.ref 84) [.ref A.h, .int z] H Q := by
  refine Call.go (d_take_free P) rfl fun c fn => ?_
  have hn := fn.names (ls := [("self", .local), ("size", .local), ("number", .local), ("before", .local), ("block", .local), ("following", .local), ("list_number", .globalImplicit), ("LISTS", .globalImplicit), ("range", .globalImplicit)]) (by decide +kernel)
  have ok := fn.ok
  have hc := fn.comp
  simp only [List.zip_cons_cons, List.zip_nil_right]
  have hk : 0 ≤ ln z ∧ ln z < 2 := by rcases hz with rfl | rfl <;> decide
  refine Exs.cons (Ex.for_ fn (Ev.range2 (by exact Bi.of ‹_› (globOk _) ‹_› (by rfl) (by rfl)) ?_))
  refine Ev.callf ok (globOk _) hn (by rfl) (by rfl) (d_number P).keep ?_
  refine Ev.loc ‹_› ‹_› (by rfl) (by rfl) ?_
  refine k_number ⟨_, rfl, ?_⟩
  refine Ev.gi ‹_› (globOk _) ‹_› (by rfl) (by rfl) ?_
  refine ⟨_, rfl, fun r fr => ⟨.range (ln z) 1 (4 - ln z).toNat, fun i l' H' => l' = [("self", .ref A.h), ("size", .int z)] ∧ HpAt H' A lim f M (fl t R) ∧ Keep [A.w, f] H H' ∧ ∀ j : Nat, j < i → (fl t R)[(ln z).toNat + j]? = some 0,
    from_1 (AH.set_self ..) (by lia) (by lia) (by lia), ⟨rfl, x.new fr, Keep.new fr, fun j h => by lia⟩, fun _ _ _ _ => trivial, ?_, ?_⟩⟩
  · rintro c NN fn i v l H₁ hi hv hN ⟨rfl, x, kp, hz0⟩
    have hi : (i : Int) < 4 - ln z := by have : i < (4 - ln z).toNat := hi; (clear hz hR ht fb q1 q0 hn ok hc hk fr fn hi hv hN x kp hz0; omega)
    cases hv
    have hn := fn.names (ls := [("self", .local), ("size", .local), ("number", .local), ("before", .local), ("block", .local), ("following", .local), ("list_number", .globalImplicit), ("LISTS", .globalImplicit), ("range", .globalImplicit)]) (by decide +kernel)
    have ok := fn.ok
    have hc := fn.comp
    refine Asg.name ok hc hn (by rfl) ?_
    refine Exs.cons (Ex.set ok hn hc (by rfl) (Ev.int ?_))
    refine Exs.cons (Ex.set ok hn hc (by rfl) (Ev.item (Ev.free ok ?_)))
    refine Ev.loc ‹_› ‹_› (by rfl) (by rfl) ?_
    refine ⟨A, lim, f, M, _, rfl, x, ?_⟩
    refine Ev.loc ‹_› ‹_› (by rfl) (by rfl) ?_
    have ek : (ln z + (i : Int) * 1).toNat = (ln z).toNat + i := by lia
    have hg := fl_get t R ((ln z).toNat + i) (by lia)
    refine ⟨_, .list x.f (by lia) (by rw [ek]; exact map_get hg) (by lia), ?_⟩
    by_cases hb : 0 < R ∧ (ln R).toNat = (ln z).toNat + i
    · rw [if_pos hb] at hg ⊢
      obtain ⟨hR0, hlk⟩ := hb
      have hzR : z ≤ R := by
        rcases hz with rfl | rfl
        · lia
        · have : ln 32 = 1 := by decide
          unfold ln at hlk
          split at hlk
          · lia
          · (clear hR ht fb fr fn x kp hn ok hc hR0 q1 q0 hk hN hz0 hi ek hg this hlk; lia)
      obtain ⟨f1, f2⟩ := fb hR0
      have t4 := ht.2 hR0
      have hsz : sz M t = R := by unfold sz; rw [f1, if_pos (by lia)]; lia
      refine Exs.cons (Ex.while2 (fun _ l' H' => l' = Loc.put "block" (.int t) (Loc.put "before" (.int 0) (Loc.put "number" (.int (ln z + (i : Int) * 1)) [("self", .ref A.h), ("size", .int z)])) ∧ H' = H₁) ⟨0, rfl, rfl⟩ ?_)
      rintro _ _ _ _ _ ⟨rfl, rfl⟩
      refine Tr.cmp ?_
      refine Ev.loc ‹_› ‹_› (by rfl) (by rfl) ?_
      refine Ev.int ⟨fun _ => Exs.cons (Ex.set ok hn hc (by rfl) (Ev.rd ok (Ev.memory ok ?_))), fun h => by simp at h; (clear hz hR fb q1 q0 hk fr fn hN hz0 hi hn ok hc ek hg hR0 hlk hzR f1 f2 t4 hsz x kp; omega)⟩
      refine Ev.loc ‹_› ‹_› (by rfl) (by rfl) ?_
      refine ⟨A, lim, f, M, _, rfl, x, A, M, rfl, x.mem, Ev.bin ?_⟩
      refine Ev.loc ‹_› ‹_› (by rfl) (by rfl) ?_
      refine Ev.int ⟨t + 4, M, rfl, x.mem, by lia, Exs.cons (Ex.ifs (Tr.cmp (Ev.hmeth ok (m_size_of P) (by simp) ?_)))⟩
      refine Ev.loc ‹_› ‹_› (by rfl) (by rfl) ?_
      refine ⟨A, lim, f, M, _, rfl, x, ?_⟩
      refine Ev.loc ‹_› ‹_› (by rfl) (by rfl) ?_
      refine k_size_of x (by lia) (by (clear hz hR ht fb q1 q0 hk fr fn hN hz0 hi hn ok hc ek hg hR0 hlk hzR f1 f2 hsz x kp; omega)) (fun h => by rw [f1] at h; lia) ?_
      refine Ev.loc ‹_› ‹_› (by rfl) (by rfl) ?_
      rw [hsz]
      refine ⟨fun _ => Exs.cons (Ex.ifs (Tr.cmp ?_)), fun h => by simp at h; (clear hz hR ht fb q1 q0 hk fr fn hN hz0 hi hn ok hc ek hg hR0 hlk f1 f2 t4 hsz x kp; omega)⟩
      refine Ev.loc ‹_› ‹_› (by rfl) (by rfl) ?_
      refine Ev.int ⟨fun _ => Exs.cons (Ex.setlist ?_), fun h => by simp at h⟩
      refine Ev.loc ‹_› ‹_› (by rfl) (by rfl) ?_
      refine Ev.free ok ?_
      refine Ev.loc ‹_› ‹_› (by rfl) (by rfl) ?_
      refine ⟨A, lim, f, M, _, rfl, x, f, rfl, ?_⟩
      refine Ev.loc ‹_› ‹_› (by rfl) (by rfl) ?_
      refine ⟨_, _, rfl, x.f, by lia, by rw [List.length_map, fl_length]; lia, by rw [List.length_map, fl_length]; lia, Exs.nil (Exs.cons (Ex.ret ?_))⟩
      refine Ev.loc ‹_› ‹_› (by rfl) (by rfl) ?_
      refine q1 hzR _ ?_ (kp.trans (Keep.set (by simp)))
      have y := x.setf ((fl t R).set (ln R).toNat 0)
      rw [fl_clear] at y
      have e2 : ((fl t R).map AV.int).set (ln z + (i : Int) * 1).toNat (.int (rd M (t + 4))) = [0, 0, 0, 0].map AV.int := by
        rw [f2, ek, ← hlk, ← fl_clear t R, List.map_set]
      rw [e2]; exact y
    · rw [if_neg hb] at hg ⊢
      refine Exs.cons (Ex.while2 (fun _ l' H' => l' = Loc.put "block" (.int 0) (Loc.put "before" (.int 0) (Loc.put "number" (.int (ln z + (i : Int) * 1)) [("self", .ref A.h), ("size", .int z)])) ∧ H' = H₁) ⟨0, rfl, rfl⟩ ?_)
      rintro _ _ _ _ _ ⟨rfl, rfl⟩
      refine Tr.cmp ?_
      refine Ev.loc ‹_› ‹_› (by rfl) (by rfl) ?_
      refine Ev.int ⟨fun h => by simp at h, fun h => Exs.nil (hN _ (by rfl) ⟨rfl, x, kp, ?_⟩)⟩
      · intro j hj
        by_cases e : j = i
        · rw [e]; exact hg
        · exact hz0 j (by lia)
  · rintro l H₁ ⟨rfl, x, kp, hz0⟩
    refine Exs.cons (Ex.ret (Ev.int (q0 ?_ _ x kp)))
    rcases Int.lt_or_le R z with h | h
    · exact h
    · exfalso
      have hR0 : 0 < R := by (clear hR ht fb q1 q0 fn hn ok hc hk fr x kp hz0; lia)
      have hmono : ln z ≤ ln R := by
        rcases hz with rfl | rfl
        · have : ln 16 = 0 := by decide
          have := ln_lo R; lia
        · have : ln 32 = 1 := by decide
          unfold ln
          split
          · lia
          · split <;> (try split) <;> lia
      have h4 := ln_lo R
      have := hz0 ((ln R).toNat - (ln z).toNat) (by show _ < (4 - ln z).toNat; (clear hz hR ht fb q1 q0 fn hn ok hc fr x kp hz0 h hR0 hmono; omega))
      rw [fl_get t R _ (by (clear hz hR ht fb q1 q0 fn hn ok hc fr x kp hz0 h hR0 hmono this; omega)), if_pos ⟨hR0, by lia⟩] at this
      have := Option.some.inj this
      (clear hz hR fb q1 q0 fn hn ok hc hk fr x kp hz0 h hR0 hmono h4; omega)
end


section
variable {P : Params} {w : World} {c : Cx} {l l' : Loc} {H H' : AH} {s s' : Shared} {lvl n : Nat} {Q : AV → AH → Prop} {A : Ad} {M : Int → Int} {F : List Int} {f : Addr} {lim : Int} {o e e₁ e₂ : PySem.Expr} {ap p p' : Pos} {N : Loc → AH → Prop} {R : AV → AH → Prop}
/-- what alloc leaves -/
structure AllocPost (M M' : Int → Int) (t R z d : Int) : Prop where
  head : M' (t / 4) = d
  body : ∀ j : Int, 1 ≤ j → j < z / 4 → M' (t / 4 + j) = 0
  rest : z < R → M' ((t + z) / 4) = R - z + 1 ∧ M' ((t + z) / 4 + 1) = 0
  old : ∀ k, k < t / 4 → M' k = M k
theorem setM_self (M : Int → Int) (k v : Int) : setM M k v k = v := if_pos rfl
theorem setM_ne {M : Int → Int} {k j v : Int} (h : j ≠ k) : setM M k v j = M j := if_neg h
theorem k_alloc {t R z d : Int} (x : HpAt H A lim f M (fl t R)) (hz : z = 16 ∨ z = 32) (hR : 0 ≤ R ∧ R % 16 = 0 ∧ R < 4000) (ht : 0 < t ∧ t % 16 = 0 ∧ t + R + 8 < 4096) (fb : 0 < R → rd M t = R + 1 ∧ rd M (t + 4) = 0)
    (hd : 0 ≤ d ∧ d < 4096) (hdz : bs (rd M d) = z)
    (q1 : z ≤ R → ∀ H' M', HpAt H' A lim f M' (fl (t + z) (R - z)) → Keep [A.w, f] H H' → AllocPost M M' t R z d → Q (.int (t + 8)) H')
    (q0 : R < z → ∀ H', HpAt H' A lim f M (fl t R) → Keep [A.w, f] H H' → Q (.int 0) H') : Call w (KK P) (n + 5) (.ref 91) [.ref A.h, .int d] H Q := by
  refine Call.go (d_alloc P) rfl fun c fn => ?_
  have hn := fn.names (ls := [("self", .local), ("descriptor", .local), ("size", .local), ("block", .local), ("rest", .local), ("address", .local), ("block_size", .globalImplicit), ("HEADER", .globalImplicit), ("range", .globalImplicit)]) (by decide +kernel)
  have ok := fn.ok
  have hc := fn.comp
  simp only [List.zip_cons_cons, List.zip_nil_right]
  refine Exs.cons (Ex.set ok hn hc (by rfl) (Ev.callf ok (globOk _) hn (by rfl) (by rfl) (d_bs P).keep ?_))
  refine Ev.rd ok (Ev.memory ok ?_)
  refine Ev.loc ‹_› ‹_› (by rfl) (by rfl) ?_
  refine ⟨A, lim, f, M, _, rfl, x, A, M, rfl, x.mem, ?_⟩
  refine Ev.loc ‹_› ‹_› (by rfl) (by rfl) ?_
  refine ⟨d, M, rfl, x.mem, hd, k_bs ?_⟩
  rw [hdz]
  refine Exs.cons (Ex.set ok hn hc (by rfl) (Ev.hmeth ok (m_take_free P) (by simp) ?_))
  refine Ev.loc ‹_› ‹_› (by rfl) (by rfl) ?_
  refine ⟨A, lim, f, M, _, rfl, x, ?_⟩
  refine Ev.loc ‹_› ‹_› (by rfl) (by rfl) ?_
  refine k_take_free x hz ⟨hR.1, hR.2.1⟩ ⟨ht.1, fun _ => by (clear x hz hR fb hd hdz q1 q0 fn hn ok hc; lia)⟩ fb ?_ ?_
  rotate_left
  · intro hlt H₁ x₁ k₁
    refine Exs.cons (Ex.ifs (Tr.cmp ?_))
    refine Ev.loc ‹_› ‹_› (by rfl) (by rfl) ?_
    refine Ev.int ⟨fun _ => Exs.cons (Ex.ret (Ev.int (q0 hlt _ x₁ k₁))), fun h => by simp at h⟩
  intro hzR H₁ x₁ k₁
  have hR0 : 0 < R := by rcases hz with rfl | rfl <;> lia
  obtain ⟨f1, f2⟩ := fb hR0
  have hsz : sz M t = R := by unfold sz; rw [f1, if_pos (by lia)]; lia
  refine Exs.cons (Ex.ifs (Tr.cmp ?_))
  refine Ev.loc ‹_› ‹_› (by rfl) (by rfl) ?_
  refine Ev.int ⟨fun h => by simp at h; (clear x hz hR fb hd hdz q1 q0 fn hn ok hc hzR x₁ k₁ hR0 f1 f2 hsz; omega), fun _ => Exs.nil (Exs.cons (Ex.set ok hn hc (by rfl) (Ev.bin (Ev.hmeth ok (m_size_of P) (by simp) ?_))))⟩
  refine Ev.loc ‹_› ‹_› (by rfl) (by rfl) ?_
  refine ⟨A, lim, f, M, _, rfl, x₁, ?_⟩
  refine Ev.loc ‹_› ‹_› (by rfl) (by rfl) ?_
  refine k_size_of x₁ (by lia) (by lia) (fun h => by rw [f1] at h; lia) ?_
  rw [hsz]
  refine Ev.loc ‹_› ‹_› (by rfl) (by rfl) ?_
  -- the rest goes back to the lists
  have zz : z / 4 = 4 ∨ z / 4 = 8 := by rcases hz with rfl | rfl <;> decide
  have tail : ∀ M₁ H₂, HpAt H₂ A lim f M₁ (fl (t + z) (R - z)) → Keep [A.w, f] H H₂ → (z < R → M₁ ((t + z) / 4) = R - z + 1 ∧ M₁ ((t + z) / 4 + 1) = 0) → (∀ k, k < t / 4 → M₁ k = M k) →
      Exs w c ((fnBody (meAt 7 6)).drop 5) (Loc.put "rest" (.int (R - z)) (Loc.put "block" (.int t) (Loc.put "size" (.int z) [("self", .ref A.h), ("descriptor", .int d)]))) H₂ (fun _ H' => Q .none H') Q := by
    intro M₁ H₂ x₂ k₂ hr ho
    refine Exs.cons (Ex.wr ok (Ev.memory ok ?_))
    refine Ev.loc ‹_› ‹_› (by rfl) (by rfl) ?_
    refine ⟨A, lim, f, _, _, rfl, x₂, A, _, rfl, x₂.mem, ?_⟩
    refine Ev.loc ‹_› ‹_› (by rfl) (by rfl) ?_
    refine Ev.loc ‹_› ‹_› (by rfl) (by rfl) ?_
    refine ⟨t, M₁, d, rfl, rfl, x₂.mem, by (clear x hz fb hd hdz q1 q0 fn hn ok hc hzR x₁ k₁ hR0 f1 f2 hsz zz x₂ k₂ hr ho; omega), fun H₃ y₃ k₃ => ?_⟩
    have x₃ := x₂.kept k₃ y₃
    have hd' : d % 4294967296 = d := by lia
    have e1 : ∀ k, k ≠ t / 4 → wr M₁ t d k = M₁ k := fun k h => setM_ne h
    have e0 : wr M₁ t d (t / 4) = d := by show setM M₁ (t / 4) (d % 4294967296) (t / 4) = d; rw [setM_self, hd']
    refine Exs.weaken [("self", .ref A.h), ("block", .int t), ("size", .int z)] H₃ (by rfl) (fun _ _ e => e) ?_
    refine Exs.cons (Ex.for_ fn (Ev.range3 (by exact Bi.of ‹_› (globOk _) ‹_› (by rfl) (by rfl)) ?_))
    refine Ev.bin ?_
    refine Ev.loc ‹_› ‹_› (by rfl) (by rfl) ?_
    refine Ev.int ⟨_, rfl, Ev.bin ?_⟩
    refine Ev.loc ‹_› ‹_› (by rfl) (by rfl) ?_
    refine Ev.loc ‹_› ‹_› (by rfl) (by rfl) ?_
    refine ⟨_, rfl, Ev.int ⟨rfl, fun r fr => ⟨.range (t + 4) 4 (z / 4 - 1).toNat, fun i l' H' => l' = [("self", .ref A.h), ("block", .int t), ("size", .int z)] ∧ ∃ M', HpAt H' A lim f M' (fl (t + z) (R - z)) ∧ Keep [A.w, f] H H' ∧
        M' (t / 4) = d ∧ (∀ j : Int, 1 ≤ j → j ≤ i → M' (t / 4 + j) = 0) ∧ (z < R → M' ((t + z) / 4) = R - z + 1 ∧ M' ((t + z) / 4 + 1) = 0) ∧ (∀ k, k < t / 4 → M' k = M k),
      from_4 (by rw [AH.set_self, show t + 4 + 4 * ((z / 4 - 1).toNat : Int) = t + z by lia]) (by lia) (by lia) (by lia), ?_, fun _ _ _ _ => trivial, ?_, ?_⟩⟩⟩
    · refine ⟨rfl, _, x₃.new fr, ((k₂.trans (k₃.mono (by simp))).trans (Keep.new fr)), e0, fun j h1 h2 => by lia, fun h => ?_, fun k hk => ?_⟩
      · rw [e1 _ (by (clear x hz hR ht fb hd hdz q1 q0 fn hn ok hc hzR x₁ k₁ hR0 f1 f2 hsz x₂ k₂ hr ho y₃ k₃ x₃ hd' e1 e0 fr h; lia)), e1 _ (by (clear x hz hR ht fb hd hdz q1 q0 fn hn ok hc hzR x₁ k₁ hR0 f1 f2 hsz x₂ k₂ hr ho y₃ k₃ x₃ hd' e1 e0 fr h; lia))]; exact hr h
      · rw [e1 _ (by (clear x hz hR ht fb hd hdz q1 q0 fn hn ok hc hzR x₁ k₁ hR0 f1 f2 hsz zz x₂ k₂ hr ho y₃ k₃ x₃ hd' e1 e0 fr; lia))]; exact ho k hk
    · rintro c NN fn i v l H₄ hi hv hN ⟨rfl, M₄, x₄, k₄, g1, g2, g3, g4⟩
      have hi : (i : Int) < z / 4 - 1 := by have : i < (z / 4 - 1).toNat := hi; (clear x hz hR ht fb hd hdz q1 q0 hn ok hc hzR x₁ k₁ hR0 f1 f2 hsz zz x₂ k₂ hr ho y₃ k₃ x₃ hd' e1 e0 fr fn hi hv hN x₄ k₄ g1 g2 g3 g4; omega)
      cases hv
      have hn := fn.names (ls := [("self", .local), ("descriptor", .local), ("size", .local), ("block", .local), ("rest", .local), ("address", .local), ("block_size", .globalImplicit), ("HEADER", .globalImplicit), ("range", .globalImplicit)]) (by decide +kernel)
      have ok := fn.ok
      have hc := fn.comp
      refine Asg.name ok hc hn (by rfl) ?_
      refine Exs.cons (Ex.wr ok (Ev.memory ok ?_))
      refine Ev.loc ‹_› ‹_› (by rfl) (by rfl) ?_
      refine ⟨A, lim, f, _, _, rfl, x₄, A, _, rfl, x₄.mem, ?_⟩
      refine Ev.loc ‹_› ‹_› (by rfl) (by rfl) ?_
      refine Ev.int ⟨_, M₄, 0, rfl, rfl, x₄.mem, by (clear x hz hR fb hd hdz q1 q0 x₁ k₁ hR0 f1 f2 hsz zz x₂ k₂ hr ho y₃ k₃ x₃ hd' e1 e0 fr fn hN x₄ k₄ g1 g2 g3 g4 hn ok hc; lia), fun H₅ y₅ k₅ => Exs.nil (hN _ (by rfl) ⟨rfl, _, x₄.kept k₅ y₅, k₄.trans (k₅.mono (by simp)), ?_, ?_, fun h => ?_, ?_⟩)⟩
      · show setM M₄ _ _ _ = _
        rw [setM_ne (by (clear x hz hR ht fb hd hdz q1 q0 hzR x₁ k₁ hR0 f1 f2 hsz zz x₂ k₂ hr ho y₃ k₃ x₃ hd' e1 e0 fr fn hN x₄ k₄ g1 g2 g3 g4 hi hn ok hc y₅ k₅; lia))]; exact g1
      · intro j h1 h2
        show setM M₄ ((t + 4 + (i : Int) * 4) / 4) (0 % 4294967296) _ = _
        by_cases hj : j = i + 1
        · rw [show t / 4 + j = (t + 4 + (i : Int) * 4) / 4 by (clear x hz hR ht fb hd hdz q1 q0 hzR x₁ k₁ hR0 f1 f2 hsz zz x₂ k₂ hr ho y₃ k₃ x₃ hd' e1 e0 fr fn hN x₄ k₄ g1 g2 g3 g4 hi hn ok hc y₅ k₅ h1 h2; lia), setM_self]; rfl
        · rw [setM_ne (by (clear x hz hR ht fb hd hdz q1 q0 hzR x₁ k₁ hR0 f1 f2 hsz zz x₂ k₂ hr ho y₃ k₃ x₃ hd' e1 e0 fr fn hN x₄ k₄ g1 g2 g3 g4 hi hn ok hc y₅ k₅ h1 h2; lia))]; exact g2 j h1 (by lia)
      · have := g3 h
        show setM M₄ _ _ _ = _ ∧ setM M₄ _ _ _ = _
        rw [setM_ne (by (clear x hz hR ht fb hd hdz q1 q0 hzR x₁ k₁ hR0 f1 f2 hsz zz x₂ k₂ hr ho y₃ k₃ x₃ hd' e1 e0 fr fn hN x₄ k₄ g1 g2 g3 g4 hn ok hc y₅ k₅ h this; lia)), setM_ne (by (clear x hz hR ht fb hd hdz q1 q0 hzR x₁ k₁ hR0 f1 f2 hsz zz x₂ k₂ hr ho y₃ k₃ x₃ hd' e1 e0 fr fn hN x₄ k₄ g1 g2 g3 g4 hn ok hc y₅ k₅ h this; lia))]; exact this
      · intro k hk
        show setM M₄ _ _ _ = _
        rw [setM_ne (by (clear x hz hR ht fb hd hdz q1 q0 hzR x₁ k₁ hR0 f1 f2 hsz zz x₂ k₂ hr ho y₃ k₃ x₃ hd' e1 e0 fr fn hN x₄ k₄ g1 g2 g3 g4 hi hn ok hc y₅ k₅; lia))]; exact g4 k hk
    · rintro l H₄ ⟨rfl, M₄, x₄, k₄, g1, g2, g3, g4⟩
      refine Exs.cons (Ex.ret (Ev.bin ?_))
      refine Ev.loc ‹_› ‹_› (by rfl) (by rfl) ?_
      refine Ev.gi ‹_› (globOk _) ‹_› (by rfl) (by rfl) ?_
      refine q1 hzR _ M₄ x₄ k₄ ⟨g1, fun j h1 h2 => g2 j h1 (by show j ≤ ((z / 4 - 1).toNat : Int); (clear x hz hR ht fb hd hdz q1 q0 fn hn ok hc hzR x₁ k₁ hR0 f1 f2 hsz zz x₂ k₂ hr ho y₃ k₃ x₃ hd' e1 e0 fr x₄ k₄ g1 g2 g3 g4; omega)), g3, g4⟩
  refine Exs.cons (Ex.ifs (Tr.cmp ?_))
  refine Ev.loc ‹_› ‹_› (by rfl) (by rfl) ?_
  refine Ev.int ⟨fun h => ?_, fun h => Exs.nil ?_⟩
  · have h : z < R := by simp at h; (clear x hz hR ht fb hd hdz q1 q0 fn hn ok hc hzR x₁ k₁ hR0 f1 f2 hsz zz tail; lia)
    refine Exs.cons (Ex.expr (Ev.hmeth ok (m_put_free P) (by simp) ?_) (inter ok))
    refine Ev.loc ‹_› ‹_› (by rfl) (by rfl) ?_
    refine ⟨A, lim, f, M, _, rfl, x₁, Ev.bin ?_⟩
    refine Ev.loc ‹_› ‹_› (by rfl) (by rfl) ?_
    refine Ev.loc ‹_› ‹_› (by rfl) (by rfl) ?_
    refine (?_ : Ev _ _ _ _ _ _)
    refine Ev.loc ‹_› ‹_› (by rfl) (by rfl) ?_
    refine k_put_free x₁ rfl (by lia) (by (clear x hz hR fb hd hdz q1 q0 fn hn ok hc hzR x₁ k₁ hR0 f1 f2 hsz zz tail h; lia)) fun H₂ x₂ k₂ => ⟨trivial, Exs.nil ?_⟩
    have ez : ∀ k < 4, ([0, 0, 0, 0] : List Int).getD k 0 = 0 := by decide
    have hl := ln_lo (R - z)
    have efl : ([0, 0, 0, 0] : List Int).set (ln (R - z)).toNat (t + z) = fl (t + z) (R - z) := by unfold fl; rw [if_neg (by (clear x hz hR ht fb hd hdz q1 q0 fn hn ok hc hzR x₁ k₁ hR0 f1 f2 hsz zz tail h x₂ k₂ ez hl; lia))]
    rw [ez _ (by (clear x hz hR ht fb hd hdz q1 q0 fn hn ok hc hzR x₁ k₁ hR0 f1 f2 hsz zz tail h x₂ k₂ ez efl; omega)), efl] at x₂
    refine tail _ _ x₂ (k₁.trans k₂) (fun _ => ?_) fun k hk => ?_
    · constructor
      · show setM (setM M ((t + z) / 4) ((R - z + 1) % 4294967296)) ((t + z + 4) / 4) (0 % 4294967296) _ = _
        rw [setM_ne (by (clear x hz hR ht fb hd hdz q1 q0 fn hn ok hc hzR x₁ k₁ hR0 f1 f2 hsz zz tail h x₂ k₂ ez hl efl; lia)), setM_self]; (clear x hz ht fb hd hdz q1 q0 fn hn ok hc hzR x₁ k₁ hR0 f1 f2 hsz tail h x₂ k₂ ez hl efl; lia)
      · show setM (setM M ((t + z) / 4) ((R - z + 1) % 4294967296)) ((t + z + 4) / 4) (0 % 4294967296) _ = _
        rw [show (t + z) / 4 + 1 = (t + z + 4) / 4 by (clear x hz hR ht fb hd hdz q1 q0 fn hn ok hc hzR x₁ k₁ hR0 f1 f2 hsz zz tail h x₂ k₂ ez hl efl; lia), setM_self]; rfl
    · show setM (setM M ((t + z) / 4) ((R - z + 1) % 4294967296)) ((t + z + 4) / 4) (0 % 4294967296) _ = _
      rw [setM_ne (by (clear x hz hR ht fb hd hdz q1 q0 fn hn ok hc hzR x₁ k₁ hR0 f1 f2 hsz tail h x₂ k₂ ez hl efl; lia)), setM_ne (by (clear x hz hR ht fb hd hdz q1 q0 fn hn ok hc hzR x₁ k₁ hR0 f1 f2 hsz tail h x₂ k₂ ez hl efl; lia))]
  · have h : R = z := by simp at h; (clear x hz hR ht fb hd hdz q1 q0 fn hn ok hc x₁ k₁ hR0 f1 f2 hsz zz tail; lia)
    have efl : ([0, 0, 0, 0] : List Int) = fl (t + z) (R - z) := by unfold fl; rw [if_pos (by (clear x hz hR ht fb hd hdz q1 q0 fn hn ok hc hzR x₁ k₁ hR0 f1 f2 hsz zz tail h; lia))]
    rw [efl] at x₁
    exact tail M _ x₁ k₁ (fun h' => by (clear x hz hR ht fb hd hdz q1 q0 fn hn ok hc hzR x₁ k₁ hR0 f1 f2 hsz zz tail h efl; lia)) fun k hk => rfl
end


section
variable {P : Params} {w : World} {c : Cx} {l l' : Loc} {H H' : AH} {s s' : Shared} {lvl n : Nat} {Q : AV → AH → Prop} {A : Ad} {M : Int → Int} {F : List Int} {f : Addr} {lim : Int} {o e e₁ e₂ : PySem.Expr} {ap p p' : Pos} {N : Loc → AH → Prop} {R : AV → AH → Prop}
set_option genInjectivity false in
structure Blk where
  b : Int
  z : Int
  d : Option Int
/-- from b to lim the words lie in these blocks -/
inductive Tiles (M : Int → Int) (lim : Int) : Int → List Blk → Prop
  | nil : Tiles M lim lim []
  | free {b z r} : rd M b = z + 1 → 0 < z → z % 2 = 0 → 0 ≤ b → b + z ≤ 4096 → Tiles M lim (b + z) r → Tiles M lim b (⟨b, z, none⟩ :: r)
  | used {b z d r} : rd M b = d → d % 2 = 0 → 0 ≤ d → d < 4096 → bs (rd M d) = z → 0 < z → 0 ≤ b → b + z ≤ 4096 → Tiles M lim (b + z) r → Tiles M lim b (⟨b, z, some d⟩ :: r)
theorem Tiles.le {b : Int} {bs : List Blk} (h : Tiles M lim b bs) : b ≤ lim := by
  induction h <;> lia
theorem Tiles.cons_inv {b : Int} {x : Blk} {r : List Blk} (h : Tiles M lim b (x :: r)) : x.b = b ∧ 0 < x.z ∧ 0 ≤ b ∧ b + x.z ≤ 4096 ∧ b < 4096 ∧ Tiles M lim (b + x.z) r ∧ sz M b = x.z ∧ (rd M b % 2 ≠ 1 → 0 ≤ rd M b ∧ rd M b < 4096) ∧ (rd M b % 2 = 1 ↔ x.d = none) ∧ (∀ d, x.d = some d → rd M b = d) := by
  cases h with
  | free h1 h2 h3 h4 h5 h6 => exact ⟨rfl, h2, h4, h5, by (clear h3 h1 h4 h6; lia), h6, by unfold sz; rw [if_pos (by lia)]; dsimp only; lia, fun h => by lia, ⟨fun _ => rfl, fun _ => by omega⟩, fun d h => nomatch h⟩
  | used h1 h2 h3 h4 h5 h6 h7 h8 h9 => exact ⟨rfl, h6, h7, h8, by lia, h9, by unfold sz; rw [if_neg (by lia), h1]; exact h5, fun _ => by (clear h2 h5 h6 h7 h8 h9; omega), ⟨fun h => by omega, fun h => nomatch h⟩, fun d h => by cases h; exact h1⟩
noncomputable def oInt : Option Int → AV
  | none => .none
  | some d => .int d
inductive Tups (H : AH) : List AV → List Blk → Prop
  | nil : Tups H [] []
  | cons {t x ts bs} : H t = some (.tuple [.int x.b, .int x.z, oInt x.d]) → Tups H ts bs → Tups H (.ref t :: ts) (x :: bs)
theorem Tups.mono {S : List Addr} {ts : List AV} {bs : List Blk} (h : Tups H ts bs) (k : ∀ b o, H b = some o → H' b = some o) : Tups H' ts bs := by
  induction h with
  | nil => exact .nil
  | cons a _ ih => exact .cons (k _ _ a) ih
theorem Tups.snoc {ts : List AV} {bs : List Blk} {t : Addr} {x : Blk} (h : Tups H ts bs) (a : H t = some (.tuple [.int x.b, .int x.z, oInt x.d])) : Tups H (ts ++ [.ref t]) (bs ++ [x]) := by
  induction h with
  | nil => exact .cons a .nil
  | cons b _ ih => exact .cons b ih
theorem Tups.length {ts : List AV} {bs : List Blk} (h : Tups H ts bs) : ts.length = bs.length := by
  induction h with
  | nil => rfl
  | cons _ _ ih => simp [ih]
/-- a keep that names one list that is new -/
theorem Tups.but {a : Addr} {xs : List AV} {ts : List AV} {bs : List Blk} (h : Tups H ts bs) (ha : H a = some (.list xs)) {o : AO} : Tups (H.set a o) ts bs := by
  induction h with
  | nil => exact .nil
  | @cons t x ts bs b _ ih => exact .cons (by rw [AH.set_ne (fun e => by rw [e, ha] at b; cases b)]; exact b) ih
theorem HpAt.other (x : HpAt H A lim f M F) {a : Addr} {o : AO} (h1 : a ≠ A.m) (h2 : a ≠ A.md) (h3 : a ≠ A.w) (h4 : a ≠ A.h) (h5 : a ≠ A.hd) (h6 : a ≠ f) : HpAt (H.set a o) A lim f M F :=
  ⟨⟨by rw [AH.set_ne h1.symm]; exact x.mem.m, by rw [AH.set_ne h2.symm]; exact x.mem.md, by rw [AH.set_ne h3.symm]; exact x.mem.w⟩, by rw [AH.set_ne h4.symm]; exact x.h, by rw [AH.set_ne h5.symm]; exact x.hd, by rw [AH.set_ne h6.symm]; exact x.f⟩
theorem HpAt.apart (x : HpAt H A lim f M F) {a : Addr} (ha : H a = none) : a ≠ A.m ∧ a ≠ A.md ∧ a ≠ A.w ∧ a ≠ A.h ∧ a ≠ A.hd ∧ a ≠ f :=
  ⟨fun e => (by rw [e, x.mem.m] at ha; cases ha), fun e => (by rw [e, x.mem.md] at ha; cases ha), fun e => (by rw [e, x.mem.w] at ha; cases ha), fun e => (by rw [e, x.h] at ha; cases ha), fun e => (by rw [e, x.hd] at ha; cases ha), fun e => (by rw [e, x.f] at ha; cases ha)⟩
theorem Keep.late {S : List Addr} {a : Addr} {o : AO} (k : Keep S H H') (ha : H a = none) : Keep S H (H'.set a o) := fun b hb x e => by
  rw [AH.set_ne (fun q => by rw [q, ha] at e; cases e)]; exact k b hb x e

theorem k_blocks {bl : List Blk} (x : HpAt H A lim f M F) (T : Tiles M lim 1024 bl) (hlen : bl.length ≤ 800) (q : ∀ H' a ts, H a = none → Keep [] H H' → H' a = some (.list ts) → Tups H' ts bl → Q (.ref a) H') : Call w (KK P) (n + 4) (.ref 98) [.ref A.h] H Q := by
  refine Call.go (d_blocks P) rfl fun c fn => ?_
  have hn := fn.names (ls := [("self", .local), ("found", .local), ("block", .local), ("size", .local)]) (by decide +kernel)
  have ok := fn.ok
  have hc := fn.comp
  simp only [List.zip_cons_cons, List.zip_nil_right]
  refine Exs.cons (Ex.set ok hn hc (by rfl) (Ev.list ⟨by decide, fun a ha => ?_⟩))
  refine Exs.cons (Ex.set ok hn hc (by rfl) (Ev.start ok ?_))
  refine Ev.loc ‹_› ‹_› (by rfl) (by rfl) ?_
  have ap := x.apart ha
  refine ⟨A, lim, f, M, F, rfl, x.new ha, ?_⟩
  refine Exs.weaken [("self", .ref A.h), ("found", .ref a), ("block", .int 1024)] _ (by rfl) (fun _ _ e => e) ?_
  refine Exs.cons (Ex.while2 (fun m l' H' => ∃ done rest ts b, m = rest.length ∧ l' = [("self", .ref A.h), ("found", .ref a), ("block", .int b)] ∧ bl = done ++ rest ∧ Tiles M lim b rest ∧ HpAt H' A lim f M F ∧ Keep [] H H' ∧ H' a = some (.list ts) ∧ Tups H' ts done)
    ⟨_, [], bl, [], 1024, rfl, rfl, rfl, T, x.new ha, Keep.new ha, AH.set_self .., .nil⟩ ?_)
  rintro NN m l H₁ hN ⟨done, rest, ts, b, rfl, rfl, e, T', x₁, k₁, ha₁, tp⟩
  refine Tr.cmp ?_
  refine Ev.loc ‹_› ‹_› (by rfl) (by rfl) ?_
  refine Ev.limit ok ?_
  refine Ev.loc ‹_› ‹_› (by rfl) (by rfl) ?_
  refine ⟨A, lim, f, M, F, rfl, x₁, ?_⟩
  cases rest with
  | nil =>
    cases T'
    refine ⟨fun h => by simp at h, fun _ => Exs.cons (Ex.ret ?_)⟩
    refine Ev.loc ‹_› ‹_› (by rfl) (by rfl) ?_
    rw [List.append_nil] at e
    exact q _ a ts ha k₁ ha₁ (e ▸ tp)
  | cons y r =>
    have T'' := T'
    obtain ⟨e1, e2, e3, e4, e4', e5, e6, e7, e8, e9⟩ := T''.cons_inv
    have hle := e5.le
    refine ⟨fun _ => ?_, fun h => by simp at h; lia⟩
    refine Exs.cons (Ex.set ok hn hc (by rfl) (Ev.hmeth ok (m_size_of P) (by simp) ?_))
    refine Ev.loc ‹_› ‹_› (by rfl) (by rfl) ?_
    refine ⟨A, lim, f, M, F, rfl, x₁, ?_⟩
    refine Ev.loc ‹_› ‹_› (by rfl) (by rfl) ?_
    refine k_size_of x₁ e3 e4' e7 ?_
    rw [e6]
    have tslen := tp.length
    have dl : done.length + r.length + 1 = bl.length := by rw [e]; simp; lia
    -- the end of a turn
    have fin : ∀ (p1 p2 p3 : Pos) (t : Addr), H₁ t = none → Ex w c (.AugAssign (.Name (Str.ofString "block") p1) .Add (.Name (Str.ofString "size") p2) p3) (Loc.put "size" (.int y.z) [("self", .ref A.h), ("found", .ref a), ("block", .int b)]) ((H₁.set t (.tuple [.int y.b, .int y.z, oInt y.d])).set a (.list (ts ++ [.ref t])))
        (fun l' H' => ∃ m l'', m < (y :: r).length ∧ Loc.sub l'' l' ∧ ∃ done rest ts b, m = rest.length ∧ l'' = [("self", .ref A.h), ("found", .ref a), ("block", .int b)] ∧ bl = done ++ rest ∧ Tiles M lim b rest ∧ HpAt H' A lim f M F ∧ Keep [] H H' ∧ H' a = some (.list ts) ∧ Tups H' ts done) Q := by
      intro p1 p2 p3 t ht
      have hta : a ≠ t := fun q => by rw [q] at ha₁; rw [ha₁] at ht; cases ht
      refine Ex.inc ok hn hc (by rfl) (by rfl) ?_
      refine Ev.loc ‹_› ‹_› (by rfl) (by rfl) ?_
      refine ⟨y.z, rfl, r.length, [("self", .ref A.h), ("found", .ref a), ("block", .int (b + y.z))], by simp, (by rfl), done ++ [y], r, ts ++ [.ref t], b + y.z, rfl, rfl, by rw [e]; simp, e5, ?_, ?_, AH.set_self .., ?_⟩
      · have x₂ := x₁.new (o := .tuple [.int y.b, .int y.z, oInt y.d]) ht
        exact x₂.other ap.1 ap.2.1 ap.2.2.1 ap.2.2.2.1 ap.2.2.2.2.1 ap.2.2.2.2.2
      · exact (k₁.trans (Keep.new ht)).late ha
      · have h1 : (H₁.set t (.tuple [.int y.b, .int y.z, oInt y.d])) a = some (.list ts) := by rw [AH.set_ne hta]; exact ha₁
        refine Tups.but (xs := ts) (Tups.snoc (tp.mono (S := []) fun b o h => by rw [AH.set_ne (fun q => by rw [q, ht] at h; cases h)]; exact h) (AH.set_self ..)) h1
    have app : ∀ (t : Addr), H₁ t = none → (H₁.set t (.tuple [.int y.b, .int y.z, oInt y.d])) a = some (.list ts) := fun t ht => by
      rw [AH.set_ne (fun q => by rw [← q, ha₁] at ht; cases ht)]; exact ha₁
    refine Exs.cons (Ex.ifs (Tr.plain (Ev.hmeth ok (m_is_free P) (by simp) ?_)))
    refine Ev.loc ‹_› ‹_› (by rfl) (by rfl) ?_
    refine ⟨A, lim, f, M, F, rfl, x₁, ?_⟩
    refine Ev.loc ‹_› ‹_› (by rfl) (by rfl) ?_
    refine k_is_free x₁ e3 e4' ⟨_, rfl, fun h => ?_, fun h => ?_⟩
    · have hd : y.d = none := e8.mp (by simpa using h)
      refine Exs.cons (Ex.expr (Ev.append ?_) (inter ok))
      refine Ev.loc ‹_› ‹_› (by rfl) (by rfl) ?_
      refine ⟨a, ts, rfl, ha₁, Ev.tuple ?_⟩
      refine (?_ : Ev _ _ _ _ _ _)
      refine Ev.loc ‹_› ‹_› (by rfl) (by rfl) ?_
      refine (?_ : Ev _ _ _ _ _ _)
      refine Ev.loc ‹_› ‹_› (by rfl) (by rfl) ?_
      refine Ev.none ⟨by simp, fun t ht => ⟨ts, ?_, by lia, trivial, Exs.nil (Exs.cons ?_)⟩⟩
      · have := app t ht
        rw [hd, e1] at this
        exact this
      · rw [hd, e1] at fin
        exact Ex.mono (fin _ _ _ t ht) (fun _ _ ⟨_, _, a, b, d⟩ => Exs.nil (hN _ _ a b d)) fun _ _ h => h
    · obtain ⟨dd, hd⟩ : ∃ d, y.d = some d := by
        cases hy : y.d with
        | none => exact absurd (e8.mpr hy) (by simpa using h)
        | some d => exact ⟨d, rfl⟩
      refine Exs.cons (Ex.expr (Ev.append ?_) (inter ok))
      refine Ev.loc ‹_› ‹_› (by rfl) (by rfl) ?_
      refine ⟨a, ts, rfl, ha₁, Ev.tuple ?_⟩
      refine (?_ : Ev _ _ _ _ _ _)
      refine Ev.loc ‹_› ‹_› (by rfl) (by rfl) ?_
      refine (?_ : Ev _ _ _ _ _ _)
      refine Ev.loc ‹_› ‹_› (by rfl) (by rfl) ?_
      refine Ev.hmeth ok (m_descriptor P) (by simp) ?_
      refine Ev.loc ‹_› ‹_› (by rfl) (by rfl) ?_
      refine ⟨A, lim, f, M, F, rfl, x₁, ?_⟩
      refine Ev.loc ‹_› ‹_› (by rfl) (by rfl) ?_
      refine k_descriptor x₁ e3 e4' ⟨by simp, fun t ht => ⟨ts, ?_, by omega, trivial, Exs.nil (Exs.cons ?_)⟩⟩
      · rw [e9 _ hd]
        have := app t ht
        rw [hd, e1] at this
        exact this
      · rw [hd, e1] at fin
        rw [e9 _ hd]
        exact Ex.mono (fin _ _ _ t ht) (fun _ _ ⟨_, _, a, b, d⟩ => Exs.nil (hN _ _ a b d)) fun _ _ h => h

/-- the record that an address lies in, by the blocks -/
noncomputable def bof : List Blk → Int → Int
  | [], _ => 0
  | x :: r, a => if a < x.b + x.z then (if x.d = none ∨ a < x.b + 8 then 0 else x.b + 8) else bof r a
theorem bof_cons (x : Blk) (r : List Blk) (a : Int) : bof (x :: r) a = if a < x.b + x.z then (if x.d = none ∨ a < x.b + 8 then 0 else x.b + 8) else bof r a := rfl
noncomputable def inH (lim : Int) (bl : List Blk) (a : Int) : Int := if a < 1024 ∨ lim ≤ a then 0 else bof bl a
theorem k_block_of {bl : List Blk} {a : Int} (x : HpAt H A lim f M F) (T : Tiles M lim 1024 bl) (q : Q (.int (inH lim bl a)) H) : Call w (KK P) (n + 4) (.ref 105) [.ref A.h, .int a] H Q := by
  refine Call.go (d_block_of P) rfl fun c fn => ?_
  have hn := fn.names (ls := [("self", .local), ("address", .local), ("block", .local), ("size", .local), ("HEADER", .globalImplicit)]) (by decide +kernel)
  have ok := fn.ok
  have hc := fn.comp
  simp only [List.zip_cons_cons, List.zip_nil_right]
  have go : (a < 1024 ∨ lim ≤ a → Exs w c [.Return (some (.Constant (.int 0) 0 ⟨89, 19, 89, 20⟩)) ⟨89, 12, 89, 20⟩] [("self", .ref A.h), ("address", .int a)] H (fun l' H' => Exs w c ((fnBody (meAt 7 8)).drop 1) l' H' (fun _ H' => Q .none H') Q) Q) ∧
      (¬ (a < 1024 ∨ lim ≤ a) → Exs w c ((fnBody (meAt 7 8)).drop 1) [("self", .ref A.h), ("address", .int a)] H (fun _ H' => Q .none H') Q) := by
    unfold inH at q
    constructor
    · intro h
      rw [if_pos h] at q
      exact Exs.cons (Ex.ret (Ev.int q))
    · intro h
      rw [if_neg h] at q
      refine Exs.cons (Ex.set ok hn hc (by rfl) (Ev.start ok ?_))
      refine Ev.loc ‹_› ‹_› (by rfl) (by rfl) ?_
      refine ⟨A, lim, f, M, F, rfl, x, ?_⟩
      refine Exs.weaken [("self", .ref A.h), ("address", .int a), ("block", .int 1024)] H (by rfl) (fun _ _ e => e) ?_
      refine Exs.cons (Ex.while2 (fun m l' H' => ∃ rest b, m = rest.length ∧ l' = [("self", AV.ref A.h), ("address", AV.int a), ("block", AV.int b)] ∧ Tiles M lim b rest ∧ Q (.int (bof rest a)) H' ∧ H' = H) ⟨_, bl, 1024, rfl, rfl, T, q, rfl⟩ ?_)
      rintro NN m l H₁ hN ⟨rest, b, rfl, rfl, T', q, rfl⟩
      refine Tr.cmp (Ev.loc ok hn (by rfl) (by rfl) (Ev.limit ok (Ev.loc ok hn (by rfl) (by rfl) ⟨A, lim, f, M, F, rfl, x, ?_⟩)))
      cases rest with
      | nil =>
        cases T'
        exact ⟨fun h => by simp at h, fun _ => Exs.cons (Ex.ret (Ev.int q))⟩
      | cons y r =>
        have T'' := T'
        obtain ⟨e1, e2, e3, e4, e4', e5, e6, e7, e8, e9⟩ := T''.cons_inv
        have hle := e5.le
        refine ⟨fun _ => ?_, fun h => by simp at h; lia⟩
        refine Exs.cons (Ex.set ok hn hc (by rfl) (Ev.hmeth ok (m_size_of P) (by simp) (Ev.loc ok hn (by rfl) (by rfl) ⟨A, lim, f, M, F, rfl, x, Ev.loc ok hn (by rfl) (by rfl) (k_size_of x e3 e4' e7 ?_)⟩)))
        rw [e6]
        refine Exs.weaken [("self", .ref A.h), ("address", .int a), ("block", .int b), ("size", .int y.z)] _ ?_ (fun _ _ e => e) ?_
        · rfl
        refine Exs.cons (Ex.ifs (Tr.cmp ?_))
        refine Ev.loc ‹_› ‹_› (by rfl) (by rfl) ?_
        refine Ev.bin ?_
        refine Ev.loc ‹_› ‹_› (by rfl) (by rfl) ?_
        refine Ev.loc ‹_› ‹_› (by rfl) (by rfl) ?_
        rw [bof_cons] at q
        refine ⟨fun h => ?_, fun h => Exs.nil (Exs.cons (Ex.inc ok hn hc (by rfl) (by rfl) ?_))⟩
        · have h : a < b + y.z := by simpa using h
          rw [if_pos (by rw [e1]; exact h)] at q
          refine Exs.cons (Ex.ifs (Tr.or (Tr.plain (Ev.hmeth ok (m_is_free P) (by simp) ?_))))
          refine Ev.loc ‹_› ‹_› (by rfl) (by rfl) ?_
          refine ⟨A, lim, f, M, F, rfl, x, ?_⟩
          refine Ev.loc ‹_› ‹_› (by rfl) (by rfl) ?_
          refine k_is_free x e3 e4' ⟨_, rfl, fun h => ⟨fun _ => Exs.cons (Ex.ret (Ev.int ?_)), (nomatch ·)⟩, fun h => Tr.or (Tr.cmp ?_)⟩
          · rw [if_pos (.inl (e8.mp (by simpa using h)))] at q; exact q
          · refine Ev.loc ‹_› ‹_› (by rfl) (by rfl) ?_
            refine Ev.bin ?_
            refine Ev.loc ‹_› ‹_› (by rfl) (by rfl) ?_
            refine Ev.gi ‹_› (globOk _) ‹_› (by rfl) (by rfl) ?_
            have hnd : y.d ≠ none := fun e => by have := e8.mpr e; simp at h; lia
            refine ⟨fun h => ⟨fun _ => Exs.cons (Ex.ret (Ev.int ?_)), (nomatch ·)⟩, fun h => Tr.or_nil ⟨(nomatch ·), fun _ => Exs.nil (Exs.cons (Ex.ret (Ev.bin ?_)))⟩⟩
            · rw [if_pos (.inr (by rw [e1]; simpa using h))] at q; exact q
            · refine Ev.loc ‹_› ‹_› (by rfl) (by rfl) ?_
              refine Ev.gi ‹_› (globOk _) ‹_› (by rfl) (by rfl) ?_
              rw [if_neg (by rintro (h' | h'); exact hnd h'; simp at h; lia), e1] at q
              exact q
        · have h : ¬ a < b + y.z := by simpa using h
          rw [if_neg (by rw [e1]; exact h)] at q
          refine Ev.loc ‹_› ‹_› (by rfl) (by rfl) ?_
          exact ⟨y.z, rfl, Exs.nil (hN r.length _ (by simp) (by rfl) ⟨r, b + y.z, rfl, rfl, e5, q, rfl⟩)⟩
  refine Exs.cons (Ex.ifs (Tr.or (Tr.cmp ?_)))
  refine Ev.loc ‹_› ‹_› (by rfl) (by rfl) ?_
  refine Ev.start ok ?_
  refine Ev.loc ‹_› ‹_› (by rfl) (by rfl) ?_
  refine ⟨A, lim, f, M, F, rfl, x, fun h => ⟨fun _ => ?_, (nomatch ·)⟩, fun h => Tr.or (Tr.cmp ?_)⟩
  · exact go.1 (.inl (by simpa using h))
  · refine Ev.loc ‹_› ‹_› (by rfl) (by rfl) ?_
    refine Ev.limit ok ?_
    refine Ev.loc ‹_› ‹_› (by rfl) (by rfl) ?_
    refine ⟨A, lim, f, M, F, rfl, x, fun h' => ⟨fun _ => go.1 (.inr (by simpa using h')), (nomatch ·)⟩, fun h' => Tr.or_nil ⟨(nomatch ·), fun _ => Exs.nil (go.2 ?_)⟩⟩
    simp at h h'
    lia
end

/-! marking, in plain words -/
structure Rec where
  a : Int
  z : Int
  d : Int
  offs : List Int
theorem rd_wr (M : Int → Int) (x v y : Int) : rd (wr M x v) y = if y / 4 = x / 4 then v % 4294967296 else rd M y := rfl
theorem rd_same {M M' : Int → Int} {y : Int} (h : M' (y / 4) = M (y / 4)) : rd M' y = rd M y := h
structure Sta (recs : List Rec) (M : Int → Int) (lim : Int) : Prop where
  rng : ∀ r ∈ recs, 1032 ≤ r.a ∧ r.a % 4 = 0 ∧ r.a - 8 + r.z ≤ lim ∧ 16 ≤ r.z ∧ lim ≤ 4000
  dis : ∀ r ∈ recs, ∀ r' ∈ recs, r = r' ∨ r.a + r.z ≤ r'.a ∨ r'.a + r'.z ≤ r.a
  dsc : ∀ r ∈ recs, 0 ≤ r.d ∧ r.d % 4 = 0 ∧ r.d + 24 + 4 * r.offs.length ≤ 1024
  head : ∀ r ∈ recs, rd M (r.a - 8) = r.d
  tab : ∀ r ∈ recs, ∀ (k : Nat) o, r.offs[k]? = some o → rd M (r.d + 20 + 4 * k) = o
  tend : ∀ r ∈ recs, rd M (r.d + 20 + 4 * r.offs.length) = 4294967295
  off : ∀ r ∈ recs, ∀ (k : Nat) o, r.offs[k]? = some o → 0 ≤ o ∧ o % 4 = 0 ∧ o + 12 ≤ r.z
  nd : ∀ r ∈ recs, ∀ (k k' : Nat) o, r.offs[k]? = some o → r.offs[k']? = some o → k = k'
  ptr : ∀ r ∈ recs, ∀ (k : Nat) o, r.offs[k]? = some o → rd M (r.a + o) = 0 ∨ ∃ r' ∈ recs, rd M (r.a + o) = r'.a
/-- a word of the pointed-to kind: none, or a marked record -/
noncomputable def Hit (M : Int → Int) (t : Int) : Prop := t = 0 ∨ rd M (t - 4) ≠ 0
noncomputable def wt (M : Int → Int) (r : Rec) : Nat := if rd M (r.a - 4) = 0 then r.offs.length + 1 else ((r.d + 20 + 4 * r.offs.length - rd M (r.a - 4)) / 4).toNat
noncomputable def mu (recs : List Rec) (M : Int → Int) : Nat := (recs.map (wt M)).sum
theorem sum_lt {α : Type} {f g : α → Nat} : ∀ {l : List α}, (∀ x ∈ l, f x ≤ g x) → (∃ x ∈ l, f x < g x) → (l.map f).sum < (l.map g).sum
  | [], _, ⟨_, h, _⟩ => nomatch h
  | x :: r, h, ⟨y, hy, hlt⟩ => by
    have hx := h x (List.mem_cons_self ..)
    have hr : (r.map f).sum ≤ (r.map g).sum := by
      clear hy hlt
      have h' := fun y hy => h y (List.mem_cons_of_mem x hy)
      clear h
      induction r with
      | nil => exact Nat.le_refl _
      | cons z r ih =>
        have := h' z (List.mem_cons_self ..)
        have := ih fun y hy => h' y (List.mem_cons_of_mem _ hy)
        simp only [List.map_cons, List.sum_cons]; lia
    simp only [List.map_cons, List.sum_cons]
    rcases List.mem_cons.mp hy with rfl | hy
    · (clear h hy hx; lia)
    · have := sum_lt (fun y hy => h y (List.mem_cons_of_mem x hy)) ⟨y, hy, hlt⟩
      lia
inductive Chain (recs : List Rec) (M0 M : Int → Int) : Int → List (Rec × Nat) → Int → Prop
  | nil {h} : Chain recs M0 M h [] 0
  | cons {h : Int} {r : Rec} {k : Nat} {o : Int} {st : List (Rec × Nat)} : r ∈ recs → r.offs[k]? = some o → rd M (r.a - 4) = r.d + 20 + 4 * k → rd M0 (r.a + o) = h → Chain recs M0 M r.a st (rd M (r.a + o)) → Chain recs M0 M h ((r, k) :: st) r.a
structure SW (recs : List Rec) (M0 M : Int → Int) (G : Int → Prop) (st : List (Rec × Nat)) (here : Rec) (k : Nat) (back : Int) : Prop where
  mem : here ∈ recs
  kle : k ≤ here.offs.length
  mkw : rd M (here.a - 4) = here.d + 20 + 4 * k
  ch : Chain recs M0 M here.a st back
  nh : ∀ p ∈ st, p.1 ≠ here
  nst : (st.map Prod.fst).Nodup
  same : ∀ x, (∀ r ∈ recs, x ≠ (r.a - 4) / 4) → (∀ p ∈ st, ∀ o, p.1.offs[p.2]? = some o → x ≠ (p.1.a + o) / 4) → M x = M0 x
  ok : ∀ r ∈ recs, rd M (r.a - 4) = 0 ∨ ∃ k : Nat, k ≤ r.offs.length ∧ rd M (r.a - 4) = r.d + 20 + 4 * k
  blk : ∀ r ∈ recs, rd M (r.a - 4) ≠ 0 → r ≠ here → (∀ p ∈ st, r ≠ p.1) → ∀ (j : Nat) o, r.offs[j]? = some o → Hit M (rd M0 (r.a + o))
  hr : ∀ (j : Nat) o, j < k → here.offs[j]? = some o → Hit M (rd M0 (here.a + o))
  sr : ∀ p ∈ st, ∀ (j : Nat) o, j < p.2 → p.1.offs[j]? = some o → Hit M (rd M0 (p.1.a + o))
  gm : ∀ r ∈ recs, rd M (r.a - 4) ≠ 0 → G r.a
/-- between the marks: no record is open -/
structure Mkd (recs : List Rec) (M0 M : Int → Int) (G : Int → Prop) : Prop where
  same : ∀ x, (∀ r ∈ recs, x ≠ (r.a - 4) / 4) → M x = M0 x
  ok : ∀ r ∈ recs, rd M (r.a - 4) = 0 ∨ ∃ k : Nat, k ≤ r.offs.length ∧ rd M (r.a - 4) = r.d + 20 + 4 * k
  blk : ∀ r ∈ recs, rd M (r.a - 4) ≠ 0 → ∀ (j : Nat) o, r.offs[j]? = some o → Hit M (rd M0 (r.a + o))
  gm : ∀ r ∈ recs, rd M (r.a - 4) ≠ 0 → G r.a
noncomputable def GClo (recs : List Rec) (M0 : Int → Int) (G : Int → Prop) : Prop := ∀ r ∈ recs, G r.a → ∀ (j : Nat) o, r.offs[j]? = some o → rd M0 (r.a + o) ≠ 0 → G (rd M0 (r.a + o))

section
variable {recs : List Rec} {M0 M : Int → Int} {lim : Int} {G : Int → Prop} {st : List (Rec × Nat)} {here : Rec} {k : Nat} {back : Int}
theorem Sta.kmm (S : Sta recs M0 lim) {r r' : Rec} (h : r ∈ recs) (h' : r' ∈ recs) (e : (r.a - 4) / 4 = (r'.a - 4) / 4) : r = r' := by
  have := S.rng r h; have := S.rng r' h'
  rcases S.dis r h r' h' with e | e | e
  · exact e
  · (clear S h h' this; omega)
  · omega
theorem Sta.kpm (S : Sta recs M0 lim) {r r' : Rec} {j : Nat} {o : Int} (h : r ∈ recs) (h' : r' ∈ recs) (ho : r.offs[j]? = some o) : (r.a + o) / 4 ≠ (r'.a - 4) / 4 := by
  have := S.rng r h; have := S.rng r' h'; have := S.off r h j o ho
  rcases S.dis r h r' h' with rfl | e | e <;> omega
theorem Sta.kpp (S : Sta recs M0 lim) {r r' : Rec} {j j' : Nat} {o o' : Int} (h : r ∈ recs) (h' : r' ∈ recs) (ho : r.offs[j]? = some o) (ho' : r'.offs[j']? = some o') (e : (r.a + o) / 4 = (r'.a + o') / 4) : r = r' ∧ j = j' := by
  have := S.rng r h; have := S.rng r' h'; have := S.off r h j o ho; have := S.off r' h' j' o' ho'
  rcases S.dis r h r' h' with rfl | e | e
  · have e : o = o' := by lia
    subst e
    exact ⟨rfl, S.nd r h j j' o ho ho'⟩
  · omega
  · omega
theorem Sta.khm (S : Sta recs M0 lim) {r r' : Rec} (h : r ∈ recs) (h' : r' ∈ recs) : (r.a - 8) / 4 ≠ (r'.a - 4) / 4 := by
  have := S.rng r h; have := S.rng r' h'
  rcases S.dis r h r' h' with rfl | e | e <;> omega
theorem Sta.khp (S : Sta recs M0 lim) {r r' : Rec} {j : Nat} {o : Int} (h : r ∈ recs) (h' : r' ∈ recs) (ho : r'.offs[j]? = some o) : (r.a - 8) / 4 ≠ (r'.a + o) / 4 := by
  have := S.rng r h; have := S.rng r' h'; have := S.off r' h' j o ho
  rcases S.dis r h r' h' with rfl | e | e <;> omega
theorem Chain.mems (h : Chain recs M0 M here.a st back) : ∀ p ∈ st, p.1 ∈ recs ∧ (∃ o, p.1.offs[p.2]? = some o) ∧ rd M (p.1.a - 4) = p.1.d + 20 + 4 * p.2 := by
  generalize here.a = x at h
  induction h with
  | nil => intro p hp; cases hp
  | cons h1 h2 h3 h4 h5 ih =>
    intro p hp
    rcases List.mem_cons.mp hp with rfl | hp
    · exact ⟨h1, ⟨_, h2⟩, h3⟩
    · exact ih p hp
theorem Chain.keep {M' : Int → Int} {x : Int} (h : Chain recs M0 M x st back) (h1 : ∀ p ∈ st, rd M' (p.1.a - 4) = rd M (p.1.a - 4)) (h2 : ∀ p ∈ st, ∀ o, p.1.offs[p.2]? = some o → rd M' (p.1.a + o) = rd M (p.1.a + o)) : Chain recs M0 M' x st back := by
  induction h with
  | nil => exact .nil
  | @cons h r k o st a1 a2 a3 a4 a5 ih =>
    refine .cons a1 a2 ?_ a4 ?_
    · rw [h1 _ (List.mem_cons_self ..)]; exact a3
    · rw [h2 _ (List.mem_cons_self ..) o a2]
      exact ih (fun p hp => h1 p (List.mem_cons_of_mem _ hp)) fun p hp => h2 p (List.mem_cons_of_mem _ hp)
/-- words that no mark and no turned pointer touches -/
theorem SW.tabword (S : Sta recs M0 lim) (W : SW recs M0 M G st here k back) {x : Int} (hx : x / 4 < 256) : rd M x = rd M0 x := by
  refine W.same _ (fun r hr => ?_) fun p hp o ho => ?_
  · have := S.rng r hr; omega
  · have hm := (W.ch.mems p hp).1
    have := S.rng _ hm; have := S.off _ hm _ _ ho; lia
theorem SW.headword (S : Sta recs M0 lim) (W : SW recs M0 M G st here k back) {r : Rec} (hr : r ∈ recs) : rd M (r.a - 8) = r.d := by
  rw [← S.head r hr]
  refine W.same _ (fun r' hr' => S.khm hr hr') fun p hp o ho => S.khp hr (W.ch.mems p hp).1 ho
theorem SW.ptrword (S : Sta recs M0 lim) (W : SW recs M0 M G st here k back) {r : Rec} {j : Nat} {o : Int} (hr : r ∈ recs) (ho : r.offs[j]? = some o) (hn : ∀ p ∈ st, p.1 = r → p.2 ≠ j) : rd M (r.a + o) = rd M0 (r.a + o) := by
  refine W.same _ (fun r' hr' => S.kpm hr hr' ho) fun p hp o' ho' e => ?_
  obtain ⟨e1, e2⟩ := S.kpp hr (W.ch.mems p hp).1 ho ho' e
  exact hn p hp e1.symm e2.symm

theorem Hit.wr {x v t : Int} (h : Hit M t) (hv : v % 4294967296 ≠ 0) : Hit (wr M x v) t := by
  rcases h with h | h
  · exact .inl h
  · right
    rw [rd_wr]
    split
    · exact hv
    · exact h
theorem Hit.wr' {x v t : Int} (h : Hit M t) (hx : t ≠ 0 → (t - 4) / 4 ≠ x / 4) : Hit (Mine.wr M x v) t := by
  rcases h with h | h
  · exact .inl h
  · by_cases ht : t = 0
    · exact .inl ht
    · right
      rw [rd_wr, if_neg (hx ht)]
      exact h

/-- on to the next pointer -/
theorem SW.skip (S : Sta recs M0 lim) (W : SW recs M0 M G st here k back) {o : Int} (ho : here.offs[k]? = some o) (ht : Hit M (rd M0 (here.a + o))) :
    SW recs M0 (wr M (here.a - 4) (here.d + 20 + 4 * k + 4)) G st here (k + 1) back ∧ mu recs (wr M (here.a - 4) (here.d + 20 + 4 * k + 4)) < mu recs M := by
  have hk : k < here.offs.length := by
    rcases Nat.lt_or_ge k here.offs.length with h | h
    · exact h
    · rw [List.getElem?_eq_none h] at ho; cases ho
  have hd := S.dsc _ W.mem
  have hv : (here.d + 20 + 4 * k + 4) % 4294967296 = here.d + 20 + 4 * ((k + 1 : Nat) : Int) := by lia
  have hv0 : (here.d + 20 + 4 * (k : Int) + 4) % 4294967296 ≠ 0 := by lia
  have self : rd (wr M (here.a - 4) (here.d + 20 + 4 * k + 4)) (here.a - 4) = here.d + 20 + 4 * ((k + 1 : Nat) : Int) := by rw [rd_wr, if_pos rfl, hv]
  have other : ∀ r ∈ recs, r ≠ here → rd (wr M (here.a - 4) (here.d + 20 + 4 * k + 4)) (r.a - 4) = rd M (r.a - 4) := fun r hr ne => by
    rw [rd_wr, if_neg fun e => ne (S.kmm hr W.mem e)]
  refine ⟨⟨W.mem, hk, self, ?_, W.nh, W.nst, ?_, ?_, ?_, ?_, ?_, ?_⟩, ?_⟩
  · refine W.ch.keep (fun p hp => other _ (W.ch.mems p hp).1 (W.nh p hp)) fun p hp o' ho' => ?_
    rw [rd_wr, if_neg (S.kpm (W.ch.mems p hp).1 W.mem ho')]
  · intro x h1 h2
    show setM M _ _ _ = _
    unfold setM
    rw [if_neg (h1 _ W.mem)]
    exact W.same x h1 h2
  · intro r hr
    by_cases e : r = here
    · subst e; exact .inr ⟨k + 1, hk, self⟩
    · rw [other r hr e]; exact W.ok r hr
  · intro r hr hm ne hst j o' ho'
    rw [other r hr ne] at hm
    exact (W.blk r hr hm ne hst j o' ho').wr hv0
  · intro j o' hj ho'
    by_cases e : j = k
    · subst e
      rw [ho] at ho'; cases ho'
      exact ht.wr hv0
    · exact (W.hr j o' (by lia) ho').wr hv0
  · intro p hp j o' hj ho'
    exact (W.sr p hp j o' hj ho').wr hv0
  · intro r hr hm
    by_cases e : r = here
    · subst e; exact W.gm r hr (by rw [W.mkw]; lia)
    · rw [other r hr e] at hm; exact W.gm r hr hm
  · refine sum_lt (fun r hr => ?_) ⟨here, W.mem, ?_⟩
    · by_cases e : r = here
      · subst e
        unfold wt
        rw [self, W.mkw, if_neg (by (clear S hr W ho ht hk hv hv0 self other; omega)), if_neg (by omega)]; (clear S hr W ho ht hk hd hv hv0 self other; omega)
      · unfold wt; rw [other r hr e]; exact Nat.le_refl _
    · unfold wt
      rw [self, W.mkw, if_neg (by (clear S W ho ht hk hv hv0 self other; omega)), if_neg (by lia)]; (clear S W ho ht hd hv hv0 self other; omega)

/-- down into a fresh record -/
theorem SW.push (S : Sta recs M0 lim) (Gc : GClo recs M0 G) (W : SW recs M0 M G st here k back) {o : Int} {t : Rec} (ho : here.offs[k]? = some o) (ht : t ∈ recs) (he : rd M0 (here.a + o) = t.a) (hf : rd M (t.a - 4) = 0) (hb : 0 ≤ back ∧ back < 4096) :
    SW recs M0 (wr (wr M (here.a + o) back) (t.a - 4) (t.d + 20)) G ((here, k) :: st) t 0 here.a ∧ mu recs (wr (wr M (here.a + o) back) (t.a - 4) (t.d + 20)) < mu recs M := by
  have hd := S.dsc _ W.mem
  have hdt := S.dsc _ ht
  have hh := S.rng _ W.mem
  have tn : t ≠ here := fun e => by subst e; rw [W.mkw] at hf; lia
  have tst : ∀ p ∈ st, p.1 ≠ t := fun p hp e => by
    have := (W.ch.mems p hp).2.2
    rw [e, hf] at this; lia
  have hv : (t.d + 20) % 4294967296 = t.d + 20 := by lia
  have hv0 : (t.d + 20) % 4294967296 ≠ 0 := by lia
  have self : rd (wr (wr M (here.a + o) back) (t.a - 4) (t.d + 20)) (t.a - 4) = t.d + 20 := by rw [rd_wr, if_pos rfl, hv]
  have other : ∀ r ∈ recs, r ≠ t → rd (wr (wr M (here.a + o) back) (t.a - 4) (t.d + 20)) (r.a - 4) = rd M (r.a - 4) := fun r hr ne => by
    rw [rd_wr, if_neg fun e => ne (S.kmm hr ht e), rd_wr, if_neg fun e => S.kpm W.mem hr ho e.symm]
  have ptrs : ∀ r ∈ recs, ∀ (j : Nat) o', r.offs[j]? = some o' → (r ≠ here ∨ j ≠ k) → rd (wr (wr M (here.a + o) back) (t.a - 4) (t.d + 20)) (r.a + o') = rd M (r.a + o') := fun r hr j o' ho' hne => by
    rw [rd_wr, if_neg (S.kpm hr ht ho'), rd_wr, if_neg fun e => by
      obtain ⟨e1, e2⟩ := S.kpp hr W.mem ho' ho e
      rcases hne with h | h
      · exact h e1
      · exact h e2]
  have hit : ∀ x, Hit M x → (x = 0 ∨ ∃ r ∈ recs, x = r.a) → Hit (wr (wr M (here.a + o) back) (t.a - 4) (t.d + 20)) x := fun x h hx => by
    refine Hit.wr (h.wr' fun h0 => ?_) hv0
    rcases hx with hx | ⟨r, hr, rfl⟩
    · exact absurd hx h0
    · exact fun e => S.kpm W.mem hr ho e.symm
  refine ⟨⟨ht, Nat.zero_le _, by rw [self]; lia, ?_, ?_, ?_, ?_, ?_, ?_, ?_, ?_, ?_⟩, ?_⟩
  · refine .cons W.mem ho ?_ he ?_
    · rw [other _ W.mem (fun e => tn e.symm)]; exact W.mkw
    · have e1 : rd (wr (wr M (here.a + o) back) (t.a - 4) (t.d + 20)) (here.a + o) = back := by
        rw [rd_wr, if_neg (S.kpm W.mem ht ho), rd_wr, if_pos rfl]; lia
      rw [e1]
      exact W.ch.keep (fun p hp => other _ (W.ch.mems p hp).1 (tst p hp)) fun p hp o' ho' => ptrs _ (W.ch.mems p hp).1 _ _ ho' (.inl (W.nh p hp))
  · intro p hp
    rcases List.mem_cons.mp hp with rfl | hp
    · exact fun e => tn e.symm
    · exact tst p hp
  · rw [List.map_cons, List.nodup_cons]
    refine ⟨fun h => ?_, W.nst⟩
    obtain ⟨p, hp, e⟩ := List.mem_map.mp h
    exact W.nh p hp e
  · intro x h1 h2
    have n1 : x ≠ (here.a + o) / 4 := h2 (here, k) (List.mem_cons_self ..) o ho
    show setM (setM M _ _) _ _ _ = _
    unfold setM
    rw [if_neg (h1 _ ht), if_neg n1]
    exact W.same x h1 fun p hp => h2 p (List.mem_cons_of_mem _ hp)
  · intro r hr
    by_cases e : r = t
    · subst e; exact .inr ⟨0, Nat.zero_le _, by rw [self]; omega⟩
    · rw [other r hr e]; exact W.ok r hr
  · intro r hr hm ne hst j o' ho'
    rw [other r hr ne] at hm
    refine hit _ (W.blk r hr hm (hst (here, k) (List.mem_cons_self ..)) (fun p hp => hst p (List.mem_cons_of_mem _ hp)) j o' ho') ?_
    rcases S.ptr r hr j o' ho' with h | ⟨r', h, e⟩
    · exact .inl h
    · exact .inr ⟨r', h, e⟩
  · intro j o' hj; lia
  · intro p hp j o' hj ho'
    rcases List.mem_cons.mp hp with rfl | hp
    · refine hit _ (W.hr j o' hj ho') ?_
      rcases S.ptr _ W.mem j o' ho' with h | ⟨r', h, e⟩
      · exact .inl h
      · exact .inr ⟨r', h, e⟩
    · refine hit _ (W.sr p hp j o' hj ho') ?_
      rcases S.ptr _ (W.ch.mems p hp).1 j o' ho' with h | ⟨r', h, e⟩
      · exact .inl h
      · exact .inr ⟨r', h, e⟩
  · intro r hr hm
    by_cases e : r = t
    · subst e
      rw [← he]
      exact Gc _ W.mem (W.gm _ W.mem (by rw [W.mkw]; (clear S Gc W ho hb hh hr ht he hf hdt tn tst hv hv0 self other ptrs hit hm; omega))) k o ho (by rw [he]; have := S.rng _ ht; (clear S Gc W ho hb hd hh hr ht he hf hdt tn tst hv hv0 self other ptrs hit hm; omega))
    · rw [other r hr e] at hm; exact W.gm r hr hm
  · refine sum_lt (fun r hr => ?_) ⟨t, ht, ?_⟩
    · by_cases e : r = t
      · subst e
        unfold wt
        rw [self, hf, if_pos rfl, if_neg (by (clear S Gc W ho hb hd hh hr ht he hf tn tst hv hv0 self other ptrs hit; omega))]; lia
      · unfold wt; rw [other r hr e]; exact Nat.le_refl _
    · unfold wt
      rw [self, hf, if_pos rfl, if_neg (by omega)]; lia

/-- back up: the turned pointer is set right again -/
theorem SW.pop (S : Sta recs M0 lim) {r : Rec} {k' : Nat} {o : Int} (W : SW recs M0 M G ((r, k') :: st) here k r.a) (hk : k = here.offs.length) (ho : r.offs[k']? = some o) :
    SW recs M0 (wr (wr M (r.a + o) here.a) (r.a - 4) (r.d + 20 + 4 * k' + 4)) G st r (k' + 1) (rd M (r.a + o)) ∧ mu recs (wr (wr M (r.a + o) here.a) (r.a - 4) (r.d + 20 + 4 * k' + 4)) < mu recs M ∧ rd M (r.a - 4) = r.d + 20 + 4 * k' := by
  have hch := W.ch
  have hin := hch.mems (r, k') (List.mem_cons_self ..)
  have hr : r ∈ recs := hin.1
  have hm : rd M (r.a - 4) = r.d + 20 + 4 * k' := hin.2.2
  have hlt : k' < r.offs.length := by
    rcases Nat.lt_or_ge k' r.offs.length with h | h
    · exact h
    · rw [List.getElem?_eq_none h] at ho; cases ho
  have hd := S.dsc _ hr
  have hh := S.rng _ W.mem
  have hne : r ≠ here := W.nh (r, k') (List.mem_cons_self ..)
  have hv : (r.d + 20 + 4 * k' + 4) % 4294967296 = r.d + 20 + 4 * ((k' + 1 : Nat) : Int) := by (clear S W hk ho hch hin hr hm hh hne; omega)
  have hv0 : (r.d + 20 + 4 * (k' : Int) + 4) % 4294967296 ≠ 0 := by (clear S W hk ho hch hin hr hm hlt hh hne; omega)
  have self : rd (wr (wr M (r.a + o) here.a) (r.a - 4) (r.d + 20 + 4 * k' + 4)) (r.a - 4) = r.d + 20 + 4 * ((k' + 1 : Nat) : Int) := by rw [rd_wr, if_pos rfl, hv]
  have other : ∀ q ∈ recs, q ≠ r → rd (wr (wr M (r.a + o) here.a) (r.a - 4) (r.d + 20 + 4 * k' + 4)) (q.a - 4) = rd M (q.a - 4) := fun q hq ne => by
    rw [rd_wr, if_neg fun e => ne (S.kmm hq hr e), rd_wr, if_neg fun e => S.kpm hr hq ho e.symm]
  have nd := W.nst
  rw [List.map_cons, List.nodup_cons] at nd
  have rst : ∀ p ∈ st, p.1 ≠ r := fun p hp e => nd.1 (List.mem_map.mpr ⟨p, hp, e⟩)
  have hit : ∀ x, Hit M x → (x = 0 ∨ ∃ r ∈ recs, x = r.a) → Hit (wr (wr M (r.a + o) here.a) (r.a - 4) (r.d + 20 + 4 * k' + 4)) x := fun x h hx => by
    refine Hit.wr (h.wr' fun h0 => ?_) hv0
    rcases hx with hx | ⟨q, hq, rfl⟩
    · exact absurd hx h0
    · exact fun e => S.kpm hr hq ho e.symm
  have ptrOr : ∀ q ∈ recs, ∀ (j : Nat) o', q.offs[j]? = some o' → rd M0 (q.a + o') = 0 ∨ ∃ r ∈ recs, rd M0 (q.a + o') = r.a := S.ptr
  have target : rd M0 (r.a + o) = here.a ∧ Chain recs M0 M r.a st (rd M (r.a + o)) := by
    generalize hx : here.a = x at hch
    cases hch with
    | cons b1 b2 b3 b4 b5 =>
      rw [ho] at b2; cases b2
      exact ⟨b4, b5⟩
  have bl : ∀ p ∈ st, p ∈ (r, k') :: st := fun p hp => List.mem_cons_of_mem _ hp
  refine ⟨⟨hr, hlt, self, ?_, rst, nd.2, ?_, ?_, ?_, ?_, ?_, ?_⟩, ?_, hm⟩
  · refine target.2.keep (fun p hp => other _ (hch.mems p (bl p hp)).1 (rst p hp)) fun p hp o' ho' => ?_
    have hp1 := (hch.mems p (bl p hp)).1
    rw [rd_wr, if_neg (S.kpm hp1 hr ho'), rd_wr, if_neg fun e => rst p hp (S.kpp hp1 hr ho' ho e).1]
  · intro x h1 h2
    show setM (setM M _ _) _ _ _ = _
    unfold setM
    rw [if_neg (h1 _ hr)]
    split
    · rename_i e
      have t := target.1
      unfold rd at t
      rw [← e] at t
      rw [t]; lia
    · rename_i e
      refine W.same x h1 fun p hp o' ho' => ?_
      rcases List.mem_cons.mp hp with rfl | hp
      · rw [ho] at ho'; cases ho'; exact e
      · exact h2 p hp o' ho'
  · intro q hq
    by_cases e : q = r
    · subst e; exact .inr ⟨k' + 1, hlt, self⟩
    · rw [other q hq e]; exact W.ok q hq
  · intro q hq hmq ne hst j o' ho'
    rw [other q hq ne] at hmq
    refine hit _ ?_ (ptrOr q hq j o' ho')
    by_cases e : q = here
    · subst e
      refine W.hr j o' ?_ ho'
      rcases Nat.lt_or_ge j q.offs.length with h | h
      · lia
      · rw [List.getElem?_eq_none h] at ho'; cases ho'
    · refine W.blk q hq hmq e (fun p hp => ?_) j o' ho'
      rcases List.mem_cons.mp hp with rfl | hp
      · exact ne
      · exact hst p hp
  · intro j o' hj ho'
    by_cases e : j = k'
    · subst e
      rw [ho] at ho'; cases ho'
      rw [target.1]
      refine hit _ (.inr ?_) (.inr ⟨here, W.mem, rfl⟩)
      rw [W.mkw]
      have := S.dsc _ W.mem; (clear S hk hr hd hh hne rst ptrOr target W ho hch hin hm hlt hv hv0 self other nd hit bl hj; omega)
    · exact hit _ (W.sr (r, k') (List.mem_cons_self ..) j o' (by show j < k'; lia) ho') (ptrOr r hr j o' ho')
  · intro p hp j o' hj ho'
    exact hit _ (W.sr p (bl p hp) j o' hj ho') (ptrOr _ (hch.mems p (bl p hp)).1 j o' ho')
  · intro q hq hmq
    by_cases e : q = r
    · subst e; exact W.gm q hq (by rw [hm]; (clear S hk hh ptrOr hq W ho hch hin hr hm hlt hne hv hv0 self other nd rst hit target bl hmq; omega))
    · rw [other q hq e] at hmq; exact W.gm q hq hmq
  · refine sum_lt (fun q hq => ?_) ⟨r, hr, ?_⟩
    · by_cases e : q = r
      · subst e
        unfold wt
        rw [self, hm, if_neg (by (clear S hk hh ptrOr hq W ho hch hin hr hm hlt hne hv hv0 self other nd rst hit target bl; omega)), if_neg (by omega)]; (clear S hk hh ptrOr hq W ho hch hin hr hm hlt hd hne hv hv0 self other nd rst hit target bl; omega)
      · unfold wt; rw [other q hq e]; exact Nat.le_refl _
    · unfold wt
      rw [self, hm, if_neg (by (clear S W hk ho hch hin hr hm hlt hh hne hv hv0 self other nd rst hit ptrOr target bl; omega)), if_neg (by (clear S W hk ho hch hin hr hm hlt hh hne hv hv0 self other nd rst hit ptrOr target bl; omega))]; (clear S W hk ho hch hin hr hm hd hh hne hv hv0 self other nd rst hit ptrOr target bl; omega)
/-- a fresh record is opened -/
theorem Mkd.open_ (S : Sta recs M0 lim) (W : Mkd recs M0 M G) {t : Rec} (ht : t ∈ recs) (hf : rd M (t.a - 4) = 0) (hg : G t.a) : SW recs M0 (wr M (t.a - 4) (t.d + 20)) G [] t 0 0 := by
  have hdt := S.dsc _ ht
  have hv : (t.d + 20) % 4294967296 = t.d + 20 := by lia
  have hv0 : (t.d + 20) % 4294967296 ≠ 0 := by lia
  have self : rd (wr M (t.a - 4) (t.d + 20)) (t.a - 4) = t.d + 20 := by rw [rd_wr, if_pos rfl, hv]
  have other : ∀ r ∈ recs, r ≠ t → rd (wr M (t.a - 4) (t.d + 20)) (r.a - 4) = rd M (r.a - 4) := fun r hr ne => by
    rw [rd_wr, if_neg fun e => ne (S.kmm hr ht e)]
  refine ⟨ht, Nat.zero_le _, by rw [self]; lia, .nil, (by intro p hp; cases hp), List.nodup_nil, ?_, ?_, ?_, (by intro j o hj; lia), (by intro p hp; cases hp), ?_⟩
  · intro x h1 _
    show setM M _ _ _ = _
    unfold setM
    rw [if_neg (h1 _ ht)]
    exact W.same x h1
  · intro r hr
    by_cases e : r = t
    · subst e; exact .inr ⟨0, Nat.zero_le _, by rw [self]; omega⟩
    · rw [other r hr e]; exact W.ok r hr
  · intro r hr hm ne _ j o ho
    rw [other r hr ne] at hm
    exact (W.blk r hr hm j o ho).wr hv0
  · intro r hr hm
    by_cases e : r = t
    · subst e; exact hg
    · rw [other r hr e] at hm; exact W.gm r hr hm
theorem SW.close (W : SW recs M0 M G st here k 0) (S : Sta recs M0 lim) (hk : k = here.offs.length) : st = [] ∧ Mkd recs M0 M G := by
  have e : st = [] := by
    have h := W.ch
    cases st with
    | nil => rfl
    | cons p r =>
      generalize hb : (0 : Int) = b at h
      cases h with
      | cons b1 _ _ _ _ => have := S.rng _ b1; (clear S hk b1 W; omega)
  subst e
  refine ⟨rfl, fun x h => W.same x h (by intro p hp; cases hp), W.ok, fun r hr hm j o ho => ?_, W.gm⟩
  by_cases e : r = here
  · subst e
    refine W.hr j o ?_ ho
    rcases Nat.lt_or_ge j r.offs.length with h | h
    · lia
    · rw [List.getElem?_eq_none h] at ho; cases ho
  · exact W.blk r hr hm e (by intro p hp; cases hp) j o ho
set_option genInjectivity false in
/-- marks stay -/
noncomputable def Grow (recs : List Rec) (M M' : Int → Int) : Prop := ∀ r ∈ recs, rd M (r.a - 4) ≠ 0 → rd M' (r.a - 4) ≠ 0
theorem Grow.mark {M' : Int → Int} (g : Grow recs M M') {x v : Int} (hv : v % 4294967296 ≠ 0) : Grow recs M (wr M' x v) := fun r hr h => by
  rw [rd_wr]
  split
  · exact hv
  · exact g r hr h
theorem Grow.ptr {M' : Int → Int} (S : Sta recs M0 lim) (g : Grow recs M M') {q : Rec} {j : Nat} {o v : Int} (hq : q ∈ recs) (ho : q.offs[j]? = some o) : Grow recs M (wr M' (q.a + o) v) := fun r hr h => by
  rw [rd_wr, if_neg fun e => S.kpm hq hr ho e.symm]
  exact g r hr h
theorem Chain.bnd {x : Int} (S : Sta recs M0 lim) (h : Chain recs M0 M x st back) : 0 ≤ back ∧ back < 4096 := by
  cases h with
  | nil => lia
  | cons b1 _ _ _ _ => have := S.rng _ b1; omega
end


section
variable {P : Params} {w : World} {c : Cx} {l l' : Loc} {H H' : AH} {s s' : Shared} {lvl n : Nat} {Q : AV → AH → Prop} {A : Ad} {M : Int → Int} {F : List Int} {f : Addr} {lim : Int} {o e e₁ e₂ : PySem.Expr} {ap p p' : Pos} {N : Loc → AH → Prop} {R : AV → AH → Prop}
theorem d_first (P : Params) : DefAt P (stAt 13) 119 118 "first_offset" (.str "moduleyard.marker" 329) ["heap", "record"] := by (refine ⟨by kernel_rfl, by kernel_rfl, by kernel_rfl, by decide +kernel, by decide, ?_⟩; refine len2 fun a b => ?_; kernel_rfl)
theorem d_fresh (P : Params) : DefAt P (stAt 14) 126 125 "is_fresh" (.str "moduleyard.marker" 329) ["heap", "record"] := by (refine ⟨by kernel_rfl, by kernel_rfl, by kernel_rfl, by decide +kernel, by decide, ?_⟩; refine len2 fun a b => ?_; kernel_rfl)
theorem d_mark_from (P : Params) : DefAt P (stAt 15) 133 132 "mark_from" (.str "moduleyard.marker" 329) ["heap", "record"] := by (refine ⟨by kernel_rfl, by kernel_rfl, by kernel_rfl, by decide +kernel, by decide, ?_⟩; refine len2 fun a b => ?_; kernel_rfl)
theorem d_mark (P : Params) : DefAt P (stAt 16) 140 139 "mark" (.str "moduleyard.marker" 329) ["heap", "roots"] := by (refine ⟨by kernel_rfl, by kernel_rfl, by kernel_rfl, by decide +kernel, by decide, ?_⟩; refine len2 fun a b => ?_; kernel_rfl)
theorem k_first {a : Int} (x : HpAt H A lim f M F) (h0 : 8 ≤ a) (h1 : a < 4096) (q : Q (.int (rd M (a - 8) + 20)) H) : Call w (KK P) (n + 3) (.ref 119) [.ref A.h, .int a] H Q := by
  refine Call.go (d_first P) rfl fun c fn => ?_
  have hn := fn.names (ls := [("heap", .local), ("record", .local), ("TAG", .globalImplicit), ("OFFSETS_marker", .globalImplicit)]) (by decide +kernel)
  have ok := fn.ok
  simp only [List.zip_cons_cons, List.zip_nil_right]
  refine Exs.cons (Ex.ret (Ev.bin (Ev.rd ok (Ev.memory ok ?_))))
  refine Ev.loc ‹_› ‹_› (by rfl) (by rfl) ?_
  refine ⟨A, lim, f, M, F, rfl, x, A, M, rfl, x.mem, Ev.bin ?_⟩
  refine Ev.loc ‹_› ‹_› (by rfl) (by rfl) ?_
  refine Ev.gi ‹_› (globOk _) ‹_› (by rfl) (by rfl) ?_
  refine ⟨a - 8, M, rfl, x.mem, by (clear x q fn hn ok; lia), ?_⟩
  refine Ev.gi ‹_› (globOk _) ‹_› (by rfl) (by rfl) ?_
  exact q
theorem k_fresh {a : Int} (x : HpAt H A lim f M F) (hl : lim ≤ 4000) (q : Q (.bool (decide (1024 < a ∧ a < lim ∧ rd M (a - 4) = 0))) H) : Call w (KK P) (n + 3) (.ref 126) [.ref A.h, .int a] H Q := by
  refine Call.go (d_fresh P) rfl fun c fn => ?_
  have hn := fn.names (ls := [("heap", .local), ("record", .local), ("MARK_marker", .globalImplicit)]) (by decide +kernel)
  have ok := fn.ok
  simp only [List.zip_cons_cons, List.zip_nil_right]
  refine Exs.cons (Ex.ifs (Tr.or (Tr.cmp ?_)))
  refine Ev.loc ‹_› ‹_› (by rfl) (by rfl) ?_
  refine Ev.start ok ?_
  refine Ev.loc ‹_› ‹_› (by rfl) (by rfl) ?_
  refine ⟨A, lim, f, M, F, rfl, x, fun h => ⟨fun _ => Exs.cons (Ex.ret (Ev.bool ?_)), (nomatch ·)⟩, fun h => Tr.or (Tr.cmp ?_)⟩
  · have h : a ≤ 1024 := by simpa using h
    rw [decide_eq_false (by omega)] at q; exact q
  refine Ev.loc ‹_› ‹_› (by rfl) (by rfl) ?_
  refine Ev.limit ok ?_
  refine Ev.loc ‹_› ‹_› (by rfl) (by rfl) ?_
  refine ⟨A, lim, f, M, F, rfl, x, fun h => ⟨fun _ => Exs.cons (Ex.ret (Ev.bool ?_)), (nomatch ·)⟩, fun h' => Tr.or_nil ⟨(nomatch ·), fun _ => Exs.nil (Exs.cons (Ex.ret (Ev.cmp (Ev.rd ok (Ev.memory ok ?_)))))⟩⟩
  · have h : lim ≤ a := by simpa using h
    rw [decide_eq_false (by omega)] at q; exact q
  have h : ¬ a ≤ 1024 := by simpa using h
  have h' : ¬ lim ≤ a := by simpa using h'
  refine Ev.loc ‹_› ‹_› (by rfl) (by rfl) ?_
  refine ⟨A, lim, f, M, F, rfl, x, A, M, rfl, x.mem, Ev.bin ?_⟩
  refine Ev.loc ‹_› ‹_› (by rfl) (by rfl) ?_
  refine Ev.gi ‹_› (globOk _) ‹_› (by rfl) (by rfl) ?_
  refine ⟨a - 4, M, rfl, x.mem, by (clear x q fn hn ok h h'; lia), Ev.int ?_⟩
  have e : decide (1024 < a ∧ a < lim ∧ rd M (a - 4) = 0) = decide (rd M (a - 4) = 0) := by
    by_cases h0 : rd M (a - 4) = 0
    · rw [decide_eq_true h0, decide_eq_true (by lia)]
    · rw [decide_eq_false h0, decide_eq_false (fun x => h0 x.2.2)]
  rw [e] at q
  exact q
theorem fresh_iff {recs : List Rec} {M0 : Int → Int} {t : Int} (S : Sta recs M0 lim) (ht : t = 0 ∨ ∃ r ∈ recs, t = r.a) : (1024 < t ∧ t < lim ∧ rd M (t - 4) = 0) ↔ ¬ Hit M t := by
  unfold Hit
  rcases ht with rfl | ⟨r, hr, rfl⟩
  · simp
  · have := S.rng r hr
    constructor
    · rintro ⟨_, _, h⟩ (h' | h')
      · (clear S hr this h; lia)
      · exact h' h
    · intro h
      refine ⟨by omega, by omega, ?_⟩
      rcases Decidable.em (rd M (r.a - 4) = 0) with e | e
      · exact e
      · exact absurd (.inr e) h

theorem k_mark_from {recs : List Rec} {M0 : Int → Int} {G : Int → Prop} {t : Rec} (x : HpAt H A lim f M F) (S : Sta recs M0 lim) (Gc : GClo recs M0 G) (W : Mkd recs M0 M G) (ht : t ∈ recs) (hg : G t.a)
    (q : ∀ H' M' v, HpAt H' A lim f M' F → Keep [A.w] H H' → Mkd recs M0 M' G → Grow recs M M' → rd M' (t.a - 4) ≠ 0 → Q (.int v) H') : Call w (KK P) (n + 4) (.ref 133) [.ref A.h, .int t.a] H Q := by
  refine Call.go (d_mark_from P) rfl fun c fn => ?_
  have hn := fn.names (ls := [("heap", .local), ("record", .local), ("memory", .local), ("count", .local), ("back", .local), ("here", .local), ("at", .local), ("offset", .local), ("target", .local), ("before", .local), ("is_fresh", .globalImplicit), ("first_offset", .globalImplicit), ("MARK_marker", .globalImplicit), ("END_marker", .globalImplicit)]) (by decide +kernel)
  have ok := fn.ok
  have hc := fn.comp
  simp only [List.zip_cons_cons, List.zip_nil_right]
  have hrt := S.rng t ht
  refine Exs.cons (Ex.ifs (Tr.not (Tr.plain (Ev.callf ok (globOk _) hn (by rfl) (by rfl) (d_fresh P).keep ?_))))
  refine Ev.loc ‹_› ‹_› (by rfl) (by rfl) ?_
  refine Ev.loc ‹_› ‹_› (by rfl) (by rfl) ?_
  refine k_fresh x hrt.2.2.2.2 ⟨_, rfl, fun h => ?_, fun h => ?_⟩
  · have h : ¬ (1024 < t.a ∧ t.a < lim ∧ rd M (t.a - 4) = 0) := fun y => by rw [decide_eq_true y] at h; cases h
    rw [fresh_iff S (.inr ⟨t, ht, rfl⟩)] at h
    have h : Hit M t.a := Classical.byContradiction h
    refine Exs.cons (Ex.ret (Ev.int (q _ M _ x Keep.refl W (fun _ _ h => h) ?_)))
    rcases h with h | h
    · omega
    · exact h
  have h : 1024 < t.a ∧ t.a < lim ∧ rd M (t.a - 4) = 0 := by simpa using h
  have hf := h.2.2
  have hdt := S.dsc t ht
  refine Exs.nil (Exs.cons (Ex.set ok hn hc (by rfl) (Ev.memory ok ?_)))
  refine Ev.loc ‹_› ‹_› (by rfl) (by rfl) ?_
  refine ⟨A, lim, f, M, F, rfl, x, ?_⟩
  refine Exs.cons (Ex.set ok hn hc (by rfl) (Ev.int ?_))
  refine Exs.cons (Ex.set ok hn hc (by rfl) (Ev.int ?_))
  refine Exs.cons (Ex.set ok hn hc (by rfl) ?_)
  refine Ev.loc ‹_› ‹_› (by rfl) (by rfl) ?_
  refine Exs.cons (Ex.wr ok ?_)
  refine Ev.loc ‹_› ‹_› (by rfl) (by rfl) ?_
  refine ⟨A, M, rfl, x.mem, Ev.bin ?_⟩
  refine Ev.loc ‹_› ‹_› (by rfl) (by rfl) ?_
  refine Ev.gi ‹_› (globOk _) ‹_› (by rfl) (by rfl) ?_
  refine Ev.callf ok (globOk _) hn (by rfl) (by rfl) (d_first P).keep ?_
  refine Ev.loc ‹_› ‹_› (by rfl) (by rfl) ?_
  refine Ev.loc ‹_› ‹_› (by rfl) (by rfl) ?_
  refine k_first x (by (clear x S Gc W ht hg q fn hn ok hc hrt h hf hdt; lia)) (by (clear x S Gc W ht hg q fn hn ok hc hf hdt; omega)) ⟨t.a - 4, M, _, rfl, rfl, x.mem, by (clear x S Gc W ht hg q fn hn ok hc hf hdt; omega), fun H₁ y₁ k₁ => ?_⟩
  have x₁ := x.kept k₁ y₁
  have hhead : rd M (t.a - 8) = t.d := by
    rw [← S.head t ht]
    exact W.same _ fun r hr => S.khm ht hr
  rw [hhead] at x₁ y₁
  have W₁ := W.open_ S ht hf hg
  have g₁ : Grow recs M (wr M (t.a - 4) (t.d + 20)) := Grow.mark (fun _ _ h => h) (by lia)
  have m₁ : rd (wr M (t.a - 4) (t.d + 20)) (t.a - 4) ≠ 0 := by rw [rd_wr, if_pos rfl]; omega
  refine Exs.weaken [("heap", .ref A.h), ("memory", .ref A.m), ("count", .int 1), ("back", .int 0), ("here", .int t.a)] _ (by rfl) (fun _ _ e => e) ?_
  refine Exs.cons (Ex.while2 (fun m l' H' => ∃ M' st here k back cnt, m = mu recs M' ∧ l' = [("heap", .ref A.h), ("memory", .ref A.m), ("count", .int cnt), ("back", .int back), ("here", .int here.a)] ∧ HpAt H' A lim f M' F ∧ Keep [A.w] H H' ∧ SW recs M0 M' G st here k back ∧ Grow recs M M' ∧ rd M' (t.a - 4) ≠ 0)
    ⟨_, _, [], t, 0, 0, 1, rfl, rfl, x₁, k₁, W₁, g₁, m₁⟩ ?_)
  rintro NN m l H₂ hN ⟨M₂, st, here, k, back, cnt, rfl, rfl, x₂, k₂, W₂, g₂, m₂⟩
  refine Tr.plain (Ev.bool ⟨true, rfl, fun _ => ?_, (nomatch ·)⟩)
  have hh := S.rng _ W₂.mem
  have hd := S.dsc _ W₂.mem
  have hkle := W₂.kle
  refine Exs.cons (Ex.set ok hn hc (by rfl) (Ev.rd ok ?_))
  refine Ev.loc ‹_› ‹_› (by rfl) (by rfl) ?_
  refine ⟨A, M₂, rfl, x₂.mem, Ev.bin ?_⟩
  refine Ev.loc ‹_› ‹_› (by rfl) (by rfl) ?_
  refine Ev.gi ‹_› (globOk _) ‹_› (by rfl) (by rfl) ?_
  refine ⟨here.a - 4, M₂, rfl, x₂.mem, by (clear x S Gc W ht hg q fn hn ok hc hrt h hf hdt y₁ k₁ x₁ hhead W₁ g₁ m₁ hN x₂ k₂ W₂ g₂ m₂ hd hkle; omega), ?_⟩
  rw [W₂.mkw]
  refine Exs.cons (Ex.set ok hn hc (by rfl) (Ev.rd ok ?_))
  refine Ev.loc ‹_› ‹_› (by rfl) (by rfl) ?_
  refine ⟨A, M₂, rfl, x₂.mem, ?_⟩
  refine Ev.loc ‹_› ‹_› (by rfl) (by rfl) ?_
  refine ⟨_, M₂, rfl, x₂.mem, by lia, ?_⟩
  have htab : rd M₂ (here.d + 20 + 4 * k) = rd M0 (here.d + 20 + 4 * k) := W₂.tabword S (by lia)
  rw [htab]
  refine Exs.cons (Ex.ifs (Tr.cmp ?_))
  refine Ev.loc ‹_› ‹_› (by rfl) (by rfl) ?_
  refine Ev.gi ‹_› (globOk _) ‹_› (by rfl) (by rfl) ?_
  refine ⟨fun hoff => ?_, fun hoff => ?_⟩
  · have hoff : rd M0 (here.d + 20 + 4 * k) ≠ 4294967295 := by simpa using hoff
    have hlt : k < here.offs.length := by
      rcases Nat.lt_or_ge k here.offs.length with h | h
      · exact h
      · have e : k = here.offs.length := by lia
        rw [e] at hoff
        exact absurd (S.tend _ W₂.mem) hoff
    obtain ⟨o, ho⟩ : ∃ o, here.offs[k]? = some o := ⟨_, List.getElem?_eq_getElem hlt⟩
    rw [S.tab _ W₂.mem k o ho]
    have hoo := S.off _ W₂.mem k o ho
    have hptr : rd M₂ (here.a + o) = rd M0 (here.a + o) := W₂.ptrword S W₂.mem ho fun p hp e => absurd e (W₂.nh p hp)
    have hpo := S.ptr _ W₂.mem k o ho
    have hback := W₂.ch.bnd S
    refine Exs.cons (Ex.set ok hn hc (by rfl) (Ev.rd ok ?_))
    refine Ev.loc ‹_› ‹_› (by rfl) (by rfl) ?_
    refine ⟨A, M₂, rfl, x₂.mem, Ev.bin ?_⟩
    refine Ev.loc ‹_› ‹_› (by rfl) (by rfl) ?_
    refine Ev.loc ‹_› ‹_› (by rfl) (by rfl) ?_
    refine ⟨_, M₂, rfl, x₂.mem, by (clear x S Gc W ht hg q fn hn ok hc hrt h hf hdt y₁ k₁ x₁ hhead W₁ g₁ m₁ hN x₂ k₂ W₂ g₂ m₂ hd hkle htab hoff hlt ho hptr hpo hback; omega), ?_⟩
    rw [hptr]
    refine Exs.cons (Ex.ifs (Tr.plain (Ev.callf ok (globOk _) hn (by rfl) (by rfl) (d_fresh P).keep ?_)))
    refine Ev.loc ‹_› ‹_› (by rfl) (by rfl) ?_
    refine Ev.loc ‹_› ‹_› (by rfl) (by rfl) ?_
    refine k_fresh x₂ hh.2.2.2.2 ⟨_, rfl, fun hfr => ?_, fun hfr => ?_⟩
    · have hfr : 1024 < rd M0 (here.a + o) ∧ rd M0 (here.a + o) < lim ∧ rd M₂ (rd M0 (here.a + o) - 4) = 0 := by simpa using hfr
      obtain ⟨u, hu, eu⟩ : ∃ r ∈ recs, rd M0 (here.a + o) = r.a := by
        rcases hpo with h | h
        · (clear x S Gc W ht hg q fn hn ok hc hrt hf hdt y₁ k₁ x₁ hhead W₁ g₁ m₁ hN x₂ k₂ W₂ g₂ m₂ hh hd hkle htab hoff hlt ho hoo hptr hback; omega)
        · exact h
      rw [eu] at hfr ⊢
      have W₃ := W₂.push S Gc ho hu eu hfr.2.2 hback
      have hru := S.rng u hu
      have hdu := S.dsc u hu
      have un : u ≠ here := fun e => by have := W₂.mkw; rw [e] at hfr; (clear x S Gc W ht hg q fn hn ok hc hrt h hf hdt y₁ k₁ x₁ hhead W₁ g₁ m₁ hN x₂ k₂ W₂ g₂ m₂ hh hkle htab hoff hlt ho hoo hptr hpo hback hu eu W₃ hru hdu e; omega)
      refine Exs.cons (Ex.wr ok ?_)
      refine Ev.loc ‹_› ‹_› (by rfl) (by rfl) ?_
      refine ⟨A, M₂, rfl, x₂.mem, Ev.bin ?_⟩
      refine Ev.loc ‹_› ‹_› (by rfl) (by rfl) ?_
      refine Ev.loc ‹_› ‹_› (by rfl) (by rfl) ?_
      refine (?_ : Ev _ _ _ _ _ _)
      refine Ev.loc ‹_› ‹_› (by rfl) (by rfl) ?_
      refine ⟨_, M₂, _, rfl, rfl, x₂.mem, by (clear x S Gc W ht hg q fn hn ok hc hrt h hf hdt y₁ k₁ x₁ hhead W₁ g₁ m₁ hN x₂ k₂ W₂ g₂ m₂ hd hkle htab hoff hlt ho hptr hpo hback hfr hu eu W₃ hru hdu un; omega), fun H₃ y₃ k₃ => ?_⟩
      have x₃ := x₂.kept k₃ y₃
      refine Exs.cons (Ex.set ok hn hc (by rfl) ?_)
      refine Ev.loc ‹_› ‹_› (by rfl) (by rfl) ?_
      refine Exs.cons (Ex.set ok hn hc (by rfl) ?_)
      refine Ev.loc ‹_› ‹_› (by rfl) (by rfl) ?_
      refine Exs.cons (Ex.wr ok ?_)
      refine Ev.loc ‹_› ‹_› (by rfl) (by rfl) ?_
      refine ⟨A, _, rfl, x₃.mem, Ev.bin ?_⟩
      refine Ev.loc ‹_› ‹_› (by rfl) (by rfl) ?_
      refine Ev.gi ‹_› (globOk _) ‹_› (by rfl) (by rfl) ?_
      refine Ev.callf ok (globOk _) hn (by rfl) (by rfl) (d_first P).keep ?_
      refine Ev.loc ‹_› ‹_› (by rfl) (by rfl) ?_
      refine Ev.loc ‹_› ‹_› (by rfl) (by rfl) ?_
      refine k_first x₃ (by (clear x S Gc W ht hg q fn hn ok hc hrt h hf hdt y₁ k₁ x₁ hhead W₁ g₁ m₁ hN x₂ k₂ W₂ g₂ m₂ hh hd hkle htab hoff hlt ho hoo hptr hpo hback hfr hu eu W₃ hdu un y₃ k₃ x₃; omega)) (by (clear x S Gc W ht hg q fn hn ok hc h hf hdt y₁ k₁ x₁ hhead W₁ g₁ m₁ hN x₂ k₂ W₂ g₂ m₂ hh hd hkle htab hoff hlt ho hoo hptr hpo hback hu eu W₃ hru hdu un y₃ k₃ x₃; omega)) ⟨u.a - 4, _, _, rfl, rfl, x₃.mem, by (clear x S Gc W ht hg q fn hn ok hc h hf hdt y₁ k₁ x₁ hhead W₁ g₁ m₁ hN x₂ k₂ W₂ g₂ m₂ hh hd hkle htab hoff hlt ho hoo hptr hpo hback hu eu W₃ hru hdu un y₃ k₃ x₃; omega), fun H₄ y₄ k₄ => ?_⟩
      have x₄ := x₃.kept k₄ y₄
      have hud : rd (wr M₂ (here.a + o) back) (u.a - 8) = u.d := by
        rw [rd_wr, if_neg fun e => S.khp hu W₂.mem ho e]
        exact W₂.headword S hu
      rw [hud] at x₄ y₄
      refine Exs.cons (Ex.inc ok hn hc (by rfl) (by rfl) (Ev.int ⟨1, rfl, Exs.nil (Exs.nil (Exs.nil (hN _ _ W₃.2 ?_ ⟨_, (here, k) :: st, u, 0, here.a, cnt + 1, rfl, rfl, x₄, (k₂.trans k₃).trans k₄, W₃.1, ?_, ?_⟩)))⟩))
      · rfl
      · exact Grow.mark (Grow.ptr S g₂ W₂.mem ho) (by lia)
      · exact Grow.mark (Grow.ptr (v := back) S (fun _ _ h => h) W₂.mem ho) (by omega) t ht m₂
    · have hfr : ¬ (1024 < rd M0 (here.a + o) ∧ rd M0 (here.a + o) < lim ∧ rd M₂ (rd M0 (here.a + o) - 4) = 0) := fun y => by rw [decide_eq_true y] at hfr; cases hfr
      rw [fresh_iff S hpo] at hfr
      have W₃ := W₂.skip S ho (Classical.byContradiction hfr)
      refine Exs.cons (Ex.wr ok ?_)
      refine Ev.loc ‹_› ‹_› (by rfl) (by rfl) ?_
      refine ⟨A, M₂, rfl, x₂.mem, Ev.bin ?_⟩
      refine Ev.loc ‹_› ‹_› (by rfl) (by rfl) ?_
      refine Ev.gi ‹_› (globOk _) ‹_› (by rfl) (by rfl) ?_
      refine (?_ : Ev _ _ _ _ _ _)
      refine Ev.bin ?_
      refine Ev.loc ‹_› ‹_› (by rfl) (by rfl) ?_
      refine Ev.int ⟨here.a - 4, M₂, _, rfl, rfl, x₂.mem, by (clear x S Gc W ht hg q fn hn ok hc hrt h hf hdt y₁ k₁ x₁ hhead W₁ g₁ m₁ hN x₂ k₂ W₂ g₂ m₂ hd hkle htab hoff hlt ho hoo hptr hpo hback hfr W₃; omega), fun H₃ y₃ k₃ => Exs.nil (Exs.nil (Exs.nil (hN _ _ W₃.2 ?_ ⟨_, st, here, k + 1, back, cnt, rfl, rfl, x₂.kept k₃ y₃, k₂.trans k₃, W₃.1, Grow.mark g₂ (by lia), Grow.mark (fun _ _ h => h) (by omega) t ht m₂⟩)))⟩
      rfl
  · have hoff : rd M0 (here.d + 20 + 4 * k) = 4294967295 := by simpa using hoff
    have hk : k = here.offs.length := by
      rcases Nat.lt_or_ge k here.offs.length with h | h
      · obtain ⟨o, ho⟩ : ∃ o, here.offs[k]? = some o := ⟨_, List.getElem?_eq_getElem h⟩
        have h1 := S.tab _ W₂.mem k o ho
        have h2 := S.off _ W₂.mem k o ho
        lia
      · omega
    refine Exs.cons (Ex.ifs (Tr.cmp ?_))
    refine Ev.loc ‹_› ‹_› (by rfl) (by rfl) ?_
    refine Ev.int ⟨fun hb => ?_, fun hb => ?_⟩
    · have hb : back = 0 := by simpa using hb
      subst hb
      refine Exs.cons (Ex.ret ?_)
      refine Ev.loc ‹_› ‹_› (by rfl) (by rfl) ?_
      exact q _ M₂ _ x₂ k₂ (W₂.close S hk).2 g₂ m₂
    · have hb : back ≠ 0 := by simpa using hb
      have hch := W₂.ch
      obtain ⟨r, k', st', e1, e2⟩ : ∃ r k' st', st = (r, k') :: st' ∧ back = r.a := by
        cases hch with
        | nil => exact absurd rfl hb
        | cons b1 b2 b3 b4 b5 => exact ⟨_, _, _, rfl, rfl⟩
      subst e1; subst e2
      obtain ⟨hr, ⟨o, ho⟩, hmr⟩ := hch.mems (r, k') (List.mem_cons_self ..)
      have hr : r ∈ recs := hr
      have ho : r.offs[k']? = some o := ho
      have hmr : rd M₂ (r.a - 4) = r.d + 20 + 4 * k' := hmr
      have W₃ := W₂.pop S hk ho
      have hrr := S.rng r hr
      have hdr := S.dsc r hr
      have hor := S.off r hr k' o ho
      have hk'lt : k' < r.offs.length := by
        rcases Nat.lt_or_ge k' r.offs.length with h | h
        · exact h
        · rw [List.getElem?_eq_none h] at ho; cases ho
      refine Exs.cons (Ex.set ok hn hc (by rfl) (Ev.rd ok ?_))
      refine Ev.loc ‹_› ‹_› (by rfl) (by rfl) ?_
      refine ⟨A, M₂, rfl, x₂.mem, Ev.bin ?_⟩
      refine Ev.loc ‹_› ‹_› (by rfl) (by rfl) ?_
      refine Ev.gi ‹_› (globOk _) ‹_› (by rfl) (by rfl) ?_
      refine ⟨r.a - 4, M₂, rfl, x₂.mem, by (clear x S Gc W ht hg q fn hn ok hc hrt h hf hdt y₁ k₁ x₁ hhead W₁ g₁ m₁ hN x₂ k₂ g₂ m₂ hh hd hkle htab hoff hk hb W₂ hch hr ho hmr W₃ hdr hor hk'lt; omega), ?_⟩
      rw [hmr]
      refine Exs.cons (Ex.set ok hn hc (by rfl) (Ev.rd ok ?_))
      refine Ev.loc ‹_› ‹_› (by rfl) (by rfl) ?_
      refine ⟨A, M₂, rfl, x₂.mem, ?_⟩
      refine Ev.loc ‹_› ‹_› (by rfl) (by rfl) ?_
      refine ⟨_, M₂, rfl, x₂.mem, by (clear x S Gc W ht hg q fn hn ok hc hrt h hf hdt y₁ k₁ x₁ hhead W₁ g₁ m₁ hN x₂ k₂ g₂ m₂ hh hd hkle htab hoff hk hb W₂ hch hr ho hmr W₃ hrr hor; omega), ?_⟩
      have htab' : rd M₂ (r.d + 20 + 4 * k') = o := by rw [W₂.tabword S (by (clear x S Gc W ht hg q fn hn ok hc hrt h hf hdt y₁ k₁ x₁ hhead W₁ g₁ m₁ hN x₂ k₂ g₂ m₂ hh hd hkle htab hoff hk hb W₂ hch hr ho hmr W₃ hrr hor; omega))]; exact S.tab r hr k' o ho
      rw [htab']
      refine Exs.cons (Ex.set ok hn hc (by rfl) (Ev.rd ok ?_))
      refine Ev.loc ‹_› ‹_› (by rfl) (by rfl) ?_
      refine ⟨A, M₂, rfl, x₂.mem, Ev.bin ?_⟩
      refine Ev.loc ‹_› ‹_› (by rfl) (by rfl) ?_
      refine Ev.loc ‹_› ‹_› (by rfl) (by rfl) ?_
      refine ⟨_, M₂, rfl, x₂.mem, by (clear x S Gc W ht hg q fn hn ok hc hrt h hf hdt y₁ k₁ x₁ hhead W₁ g₁ m₁ hN x₂ k₂ g₂ m₂ hh hd hkle htab hoff hk hb W₂ hch hr ho hmr W₃ hdr hk'lt htab'; omega), ?_⟩
      refine Exs.cons (Ex.wr ok ?_)
      refine Ev.loc ‹_› ‹_› (by rfl) (by rfl) ?_
      refine ⟨A, M₂, rfl, x₂.mem, Ev.bin ?_⟩
      refine Ev.loc ‹_› ‹_› (by rfl) (by rfl) ?_
      refine Ev.loc ‹_› ‹_› (by rfl) (by rfl) ?_
      refine (?_ : Ev _ _ _ _ _ _)
      refine Ev.loc ‹_› ‹_› (by rfl) (by rfl) ?_
      refine ⟨_, M₂, _, rfl, rfl, x₂.mem, by omega, fun H₃ y₃ k₃ => ?_⟩
      have x₃ := x₂.kept k₃ y₃
      refine Exs.cons (Ex.wr ok ?_)
      refine Ev.loc ‹_› ‹_› (by rfl) (by rfl) ?_
      refine ⟨A, _, rfl, x₃.mem, Ev.bin ?_⟩
      refine Ev.loc ‹_› ‹_› (by rfl) (by rfl) ?_
      refine Ev.gi ‹_› (globOk _) ‹_› (by rfl) (by rfl) ?_
      refine (?_ : Ev _ _ _ _ _ _)
      refine Ev.bin ?_
      refine Ev.loc ‹_› ‹_› (by rfl) (by rfl) ?_
      refine Ev.int ⟨r.a - 4, _, _, rfl, rfl, x₃.mem, by omega, fun H₄ y₄ k₄ => ?_⟩
      have x₄ := x₃.kept k₄ y₄
      refine Exs.cons (Ex.set ok hn hc (by rfl) ?_)
      refine Ev.loc ‹_› ‹_› (by rfl) (by rfl) ?_
      refine Exs.cons (Ex.set ok hn hc (by rfl) ?_)
      refine Ev.loc ‹_› ‹_› (by rfl) (by rfl) ?_
      refine Exs.nil (Exs.nil (Exs.nil (hN _ _ W₃.2.1 ?_ ⟨_, st', r, k' + 1, _, cnt, rfl, rfl, x₄, (k₂.trans k₃).trans k₄, W₃.1, Grow.mark (Grow.ptr S g₂ hr ho) (by (clear x S Gc W ht hg q fn hn ok hc hrt h hf hdt y₁ k₁ x₁ hhead W₁ g₁ m₁ hN x₂ k₂ g₂ m₂ hh hd hkle htab hoff hk hb W₂ hch hr ho hmr W₃ hrr hor htab' y₃ k₃ x₃ y₄ k₄ x₄; omega)), Grow.mark (Grow.ptr (v := here.a) S (fun _ _ h => h) hr ho) (by omega) t ht m₂⟩)))
      rfl
end


section
variable {P : Params} {w : World} {c : Cx} {l l' : Loc} {H H' : AH} {s s' : Shared} {lvl n : Nat} {Q : AV → AH → Prop} {A : Ad} {M : Int → Int} {F : List Int} {f : Addr} {lim : Int} {o e e₁ e₂ : PySem.Expr} {ap p p' : Pos} {N : Loc → AH → Prop} {R : AV → AH → Prop}
theorem k_mark {recs : List Rec} {M0 : Int → Int} {G : Int → Prop} {bl : List Blk} {rt : Addr} {ws : List Int} (x : HpAt H A lim f M0 F) (S : Sta recs M0 lim) (Gc : GClo recs M0 G) (h0 : ∀ r ∈ recs, rd M0 (r.a - 4) = 0)
    (T : ∀ M, Mkd recs M0 M G → Tiles M lim 1024 bl) (hrt : H rt = some (.list (ws.map .int))) (hlen : ws.length ≤ 800) (hws : ∀ w ∈ ws, inH lim bl w = 0 ∨ ∃ r ∈ recs, inH lim bl w = r.a ∧ G r.a)
    (q : ∀ H' M' v, HpAt H' A lim f M' F → Keep [A.w] H H' → Mkd recs M0 M' G → (∀ w ∈ ws, ∀ r ∈ recs, inH lim bl w = r.a → rd M' (r.a - 4) ≠ 0) → Q (.int v) H') : Call w (KK P) (n + 5) (.ref 140) [.ref A.h, .ref rt] H Q := by
  refine Call.go (d_mark P) rfl fun c fn => ?_
  have hn := fn.names (ls := [("heap", .local), ("roots", .local), ("count", .local), ("word", .local), ("record", .local), ("mark_from", .globalImplicit)]) (by decide +kernel)
  have ok := fn.ok
  have hc := fn.comp
  simp only [List.zip_cons_cons, List.zip_nil_right]
  have hrw : rt ∉ [A.w] := by simp; intro e; rw [e, x.mem.w] at hrt; cases hrt
  refine Exs.cons (Ex.set ok hn hc (by rfl) (Ev.int ?_))
  refine Exs.weaken [("heap", .ref A.h), ("roots", .ref rt), ("count", .int 0)] _ (by rfl) (fun _ _ e => e) ?_
  refine Exs.cons (Ex.for_ fn ?_)
  refine Ev.loc ‹_› ‹_› (by rfl) (by rfl) ?_
  refine ⟨.list rt (ws.map .int), fun i l' H' => ∃ M' cnt, l' = [("heap", .ref A.h), ("roots", .ref rt), ("count", .int cnt)] ∧ HpAt H' A lim f M' F ∧ Keep [A.w] H H' ∧ Mkd recs M0 M' G ∧ ∀ j w, j < i → ws[j]? = some w → ∀ r ∈ recs, inH lim bl w = r.a → rd M' (r.a - 4) ≠ 0,
    ⟨rfl, hrt, by rw [List.length_map]; lia⟩, ⟨M0, 0, rfl, x, Keep.refl, ⟨fun _ _ => rfl, fun r hr => .inl (h0 r hr), fun r hr h => absurd (h0 r hr) h, fun r hr h => absurd (h0 r hr) h⟩, fun j w h => by lia⟩, ?_, ?_, ?_⟩
  · rintro i l H₁ ⟨M₁, cnt, rfl, x₁, k₁, W, hm⟩
    exact k₁.get hrw hrt
  · rintro c NN fn i v l H₁ hi hv hN ⟨M₁, cnt, rfl, x₁, k₁, W, hm⟩
    have hn := fn.names (ls := [("heap", .local), ("roots", .local), ("count", .local), ("word", .local), ("record", .local), ("mark_from", .globalImplicit)]) (by decide +kernel)
    have ok := fn.ok
    have hc := fn.comp
    obtain ⟨wd, hwd, rfl⟩ : ∃ wd, ws[i]? = some wd ∧ v = .int wd := by
      have hv : (ws.map AV.int)[i]? = some v := hv
      rw [List.getElem?_map] at hv
      cases e : ws[i]? with
      | none => rw [e] at hv; cases hv
      | some wd => rw [e] at hv; cases hv; exact ⟨wd, rfl, rfl⟩
    refine Asg.name ok hc hn (by rfl) ?_
    refine Exs.cons (Ex.set ok hn hc (by rfl) (Ev.hmeth ok (m_block_of P) (by simp) ?_))
    refine Ev.loc ‹_› ‹_› (by rfl) (by rfl) ?_
    refine ⟨A, lim, f, M₁, F, rfl, x₁, ?_⟩
    refine Ev.loc ‹_› ‹_› (by rfl) (by rfl) ?_
    refine k_block_of x₁ (T _ W) ?_
    refine Exs.cons (Ex.ifs (Tr.cmp ?_))
    refine Ev.loc ‹_› ‹_› (by rfl) (by rfl) ?_
    refine Ev.int ⟨fun h => ?_, fun h => ?_⟩
    · have h : inH lim bl wd ≠ 0 := by simpa using h
      obtain ⟨r, hr, er, hg⟩ := (hws wd (List.mem_of_getElem? hwd)).resolve_left h
      rw [er]
      refine Exs.cons (Ex.inc ok hn hc (by rfl) (by rfl) (Ev.callf ok (globOk _) hn (by rfl) (by rfl) (d_mark_from P).keep ?_))
      refine Ev.loc ‹_› ‹_› (by rfl) (by rfl) ?_
      refine Ev.loc ‹_› ‹_› (by rfl) (by rfl) ?_
      refine k_mark_from x₁ S Gc W hr hg fun H₂ M₂ v x₂ k₂ W₂ g₂ m₂ => ⟨v, rfl, Exs.nil (Exs.nil (hN _ (by rfl) ⟨M₂, _, rfl, x₂, k₁.trans k₂, W₂, fun j w' hj hw' r' hr' e' => ?_⟩))⟩
      by_cases hji : j = i
      · subst hji
        rw [hwd] at hw'; cases hw'
        rw [e'] at er
        rw [er]; exact m₂
      · exact g₂ r' hr' (hm j w' (by lia) hw' r' hr' e')
    · have h : inH lim bl wd = 0 := by simpa using h
      refine Exs.nil (Exs.nil (hN _ (by rfl) ⟨M₁, _, rfl, x₁, k₁, W, fun j w' hj hw' r' hr' e' => ?_⟩))
      by_cases hji : j = i
      · subst hji
        rw [hwd] at hw'; cases hw'
        have := S.rng r' hr'
        (clear x S Gc h0 T hrt hlen hws q hrw fn x₁ k₁ W hn ok hc hr' hi hN hm hwd hv hj; omega)
      · exact hm j w' (by lia) hw' r' hr' e'
  · rintro l H₁ ⟨M₁, cnt, rfl, x₁, k₁, W, hm⟩
    refine Exs.cons (Ex.ret ?_)
    refine Ev.loc ‹_› ‹_› (by rfl) (by rfl) ?_
    refine q _ M₁ _ x₁ k₁ W fun wd hwd r hr e => ?_
    obtain ⟨j, hj⟩ := List.getElem?_of_mem hwd
    refine hm j wd ?_ hj r hr e
    show j < (ws.map AV.int).length
    rw [List.length_map]
    rcases Nat.lt_or_ge j ws.length with h | h
    · exact h
    · rw [List.getElem?_eq_none h] at hj; cases hj

theorem d_places (P : Params) : DefAt P (stAt 20) 147 146 "pointer_places" (.str "moduleyard.records" 384) ["heap", "record"] := by (refine ⟨by kernel_rfl, by kernel_rfl, by kernel_rfl, by decide +kernel, by decide, ?_⟩; refine len2 fun a b => ?_; kernel_rfl)
theorem d_isrec (P : Params) : DefAt P (stAt 21) 154 153 "is_record" (.str "moduleyard.records" 384) ["heap", "address"] := by (refine ⟨by kernel_rfl, by kernel_rfl, by kernel_rfl, by decide +kernel, by decide, ?_⟩; refine len2 fun a b => ?_; kernel_rfl)
theorem d_kept (P : Params) : DefAt P (stAt 24) 161 160 "kept_blocks" (.str "moduleyard.compact" 410) ["heap"] := by (refine ⟨by kernel_rfl, by kernel_rfl, by kernel_rfl, by decide +kernel, by decide, ?_⟩; refine len1 fun a => ?_; kernel_rfl)
theorem d_targets (P : Params) : DefAt P (stAt 25) 168 167 "set_targets" (.str "moduleyard.compact" 410) ["heap", "kept"] := by (refine ⟨by kernel_rfl, by kernel_rfl, by kernel_rfl, by decide +kernel, by decide, ?_⟩; refine len2 fun a b => ?_; kernel_rfl)
theorem d_moved (P : Params) : DefAt P (stAt 26) 175 174 "moved_word" (.str "moduleyard.compact" 410) ["heap", "word"] := by (refine ⟨by kernel_rfl, by kernel_rfl, by kernel_rfl, by decide +kernel, by decide, ?_⟩; refine len2 fun a b => ?_; kernel_rfl)
theorem d_alter (P : Params) : DefAt P (stAt 27) 182 181 "alter_pointers" (.str "moduleyard.compact" 410) ["heap", "kept"] := by (refine ⟨by kernel_rfl, by kernel_rfl, by kernel_rfl, by decide +kernel, by decide, ?_⟩; refine len2 fun a b => ?_; kernel_rfl)
theorem d_slide (P : Params) : DefAt P (stAt 28) 189 188 "slide" (.str "moduleyard.compact" 410) ["heap", "kept"] := by (refine ⟨by kernel_rfl, by kernel_rfl, by kernel_rfl, by decide +kernel, by decide, ?_⟩; refine len2 fun a b => ?_; kernel_rfl)

theorem k_isrec {a : Int} (x : HpAt H A lim f M F) (q : Q (.bool (decide (1024 < a ∧ a < lim))) H) : Call w (KK P) (n + 3) (.ref 154) [.ref A.h, .int a] H Q := by
  refine Call.go (d_isrec P) rfl fun c fn => ?_
  have hn := fn.names (ls := [("heap", .local), ("address", .local)]) (by decide +kernel)
  have ok := fn.ok
  simp only [List.zip_cons_cons, List.zip_nil_right]
  refine Exs.cons (Ex.ret (Ev.cmp2 (Ev.start ok ?_)))
  refine Ev.loc ‹_› ‹_› (by rfl) (by rfl) ?_
  refine ⟨A, lim, f, M, F, rfl, x, ?_⟩
  refine Ev.loc ‹_› ‹_› (by rfl) (by rfl) ?_
  refine CmpS.of ⟨fun h => ?_, fun h => Ev.limit ok ?_⟩
  · rw [decide_eq_false (by simp at h; omega)] at q; exact q
  · refine Ev.loc ‹_› ‹_› (by rfl) (by rfl) ?_
    refine ⟨A, lim, f, M, F, rfl, x, CmpS.of ?_⟩
    have e : decide (1024 < a ∧ a < lim) = decide (a < lim) := by
      have h : 1024 < a := by simpa using h
      simp [h]
    rw [e] at q; exact q

theorem k_places {a d : Int} {offs : List Int} (x : HpAt H A lim f M F) (ha : 8 ≤ a ∧ a < 4096) (hh : rd M (a - 8) = d) (hd : 0 ≤ d ∧ d + 24 + 4 * offs.length ≤ 1024) (tab : ∀ (k : Nat) o, offs[k]? = some o → rd M (d + 20 + 4 * k) = o) (hoff : ∀ o ∈ offs, o < 4000) (tend : rd M (d + 20 + 4 * offs.length) = 4294967295)
    (q : ∀ H' b, H b = none → Keep [] H H' → H' b = some (.list ((offs.map (a + ·)).map .int)) → Q (.ref b) H') : Call w (KK P) (n + 3) (.ref 147) [.ref A.h, .int a] H Q := by
  refine Call.go (d_places P) rfl fun c fn => ?_
  have hn := fn.names (ls := [("heap", .local), ("record", .local), ("memory", .local), ("at", .local), ("places", .local), ("offset", .local), ("OFFSETS_records", .globalImplicit), ("END_records", .globalImplicit)]) (by decide +kernel)
  have ok := fn.ok
  have hc := fn.comp
  simp only [List.zip_cons_cons, List.zip_nil_right]
  refine Exs.cons (Ex.set ok hn hc (by rfl) (Ev.memory ok ?_))
  refine Ev.loc ‹_› ‹_› (by rfl) (by rfl) ?_
  refine ⟨A, lim, f, M, F, rfl, x, ?_⟩
  refine Exs.cons (Ex.set ok hn hc (by rfl) (Ev.bin (Ev.rd ok ?_)))
  refine Ev.loc ‹_› ‹_› (by rfl) (by rfl) ?_
  refine ⟨A, M, rfl, x.mem, Ev.bin ?_⟩
  refine Ev.loc ‹_› ‹_› (by rfl) (by rfl) ?_
  refine Ev.int ⟨a - 8, M, rfl, x.mem, by (clear x hh hd tab hoff tend q fn hn ok hc; lia), ?_⟩
  refine Ev.gi ‹_› (globOk _) ‹_› (by rfl) (by rfl) ?_
  rw [hh]
  refine Exs.cons (Ex.set ok hn hc (by rfl) (Ev.list ⟨by simp, fun b hb => ?_⟩))
  have x₀ := x.new (o := .list []) hb
  have ap := x.apart hb
  refine Exs.cons (Ex.set ok hn hc (by rfl) (Ev.rd ok ?_))
  refine Ev.loc ‹_› ‹_› (by rfl) (by rfl) ?_
  refine ⟨A, M, rfl, x₀.mem, ?_⟩
  refine Ev.loc ‹_› ‹_› (by rfl) (by rfl) ?_
  refine ⟨d + 20, M, rfl, x₀.mem, by lia, ?_⟩
  refine Exs.weaken [("record", .int a), ("memory", .ref A.m), ("at", .int (d + 20)), ("places", .ref b), ("offset", .int (rd M (d + 20)))] _ (by rfl) (fun _ _ e => e) ?_
  refine Exs.cons (Ex.while2 (fun m l' H' => ∃ k : Nat, k ≤ offs.length ∧ m = offs.length - k ∧ l' = [("record", .int a), ("memory", .ref A.m), ("at", .int (d + 20 + 4 * k)), ("places", .ref b), ("offset", .int (rd M (d + 20 + 4 * k)))] ∧ HpAt H' A lim f M F ∧ Keep [] H H' ∧ H' b = some (.list (((offs.take k).map (a + ·)).map .int)))
    ⟨_, 0, Nat.zero_le _, rfl, by simp, x₀, Keep.new hb, AH.set_self ..⟩ ?_)
  rintro NN m l H₁ hN ⟨k, hk, rfl, rfl, x₁, k₁, hb₁⟩
  refine Tr.cmp ?_
  refine Ev.loc ‹_› ‹_› (by rfl) (by rfl) ?_
  refine Ev.gi ‹_› (globOk _) ‹_› (by rfl) (by rfl) ?_
  refine ⟨fun h => ?_, fun h => Exs.cons (Ex.ret ?_)⟩
  · have h : rd M (d + 20 + 4 * k) ≠ 4294967295 := by simpa using h
    have hlt : k < offs.length := by
      rcases Nat.lt_or_ge k offs.length with h' | h'
      · exact h'
      · have e : k = offs.length := by lia
        rw [e] at h; exact absurd tend h
    obtain ⟨o, ho⟩ : ∃ o, offs[k]? = some o := ⟨_, List.getElem?_eq_getElem hlt⟩
    rw [tab k o ho]
    refine Exs.cons (Ex.expr (Ev.append ?_) (inter ok))
    refine Ev.loc ‹_› ‹_› (by rfl) (by rfl) ?_
    refine ⟨b, _, rfl, hb₁, Ev.bin ?_⟩
    refine Ev.loc ‹_› ‹_› (by rfl) (by rfl) ?_
    refine Ev.loc ‹_› ‹_› (by rfl) (by rfl) ?_
    refine ⟨_, hb₁, by simp; (clear x ha hh tab hoff tend q fn hn ok hc hb x₀ ap hN x₁ k₁ hb₁ h hlt ho; lia), trivial, ?_⟩
    have x₂ := x₁.other (a := b) (o := .list (((offs.take k).map (a + ·)).map .int ++ [.int (a + o)])) ap.1 ap.2.1 ap.2.2.1 ap.2.2.2.1 ap.2.2.2.2.1 ap.2.2.2.2.2
    refine Exs.cons (Ex.inc ok hn hc (by rfl) (by rfl) (Ev.int ⟨4, rfl, ?_⟩))
    refine Exs.cons (Ex.set ok hn hc (by rfl) (Ev.rd ok ?_))
    refine Ev.loc ‹_› ‹_› (by rfl) (by rfl) ?_
    refine ⟨A, M, rfl, x₂.mem, ?_⟩
    refine Ev.loc ‹_› ‹_› (by rfl) (by rfl) ?_
    have e4 : d + 20 + 4 * (k : Int) + 4 = d + 20 + 4 * ((k + 1 : Nat) : Int) := by lia
    rw [e4]
    refine ⟨_, M, rfl, x₂.mem, by lia, Exs.nil (hN _ [("record", .int a), ("memory", .ref A.m), ("at", .int (d + 20 + 4 * ((k + 1 : Nat) : Int))), ("places", .ref b), ("offset", .int (rd M (d + 20 + 4 * ((k + 1 : Nat) : Int))))] ?_ (by rfl) ⟨k + 1, hlt, rfl, rfl, x₂, k₁.late hb, ?_⟩)⟩
    · lia
    · rw [AH.set_self, List.take_add_one, ho]; simp
  · have h : rd M (d + 20 + 4 * k) = 4294967295 := by simpa using h
    have e : k = offs.length := by
      rcases Nat.lt_or_ge k offs.length with h' | h'
      · obtain ⟨o, ho⟩ : ∃ o, offs[k]? = some o := ⟨_, List.getElem?_eq_getElem h'⟩
        have := tab k o ho; have := hoff o (List.mem_of_getElem? ho); lia
      · omega
    refine Ev.loc ‹_› ‹_› (by rfl) (by rfl) ?_
    rw [e, List.take_length] at hb₁
    exact q _ b hb k₁ hb₁
end


section
variable {P : Params} {w : World} {c : Cx} {l l' : Loc} {H H' : AH} {s s' : Shared} {lvl n : Nat} {Q : AV → AH → Prop} {A : Ad} {M : Int → Int} {F : List Int} {f : Addr} {lim : Int} {o e e₁ e₂ : PySem.Expr} {ap p p' : Pos} {N : Loc → AH → Prop} {R : AV → AH → Prop}
theorem Tups.get {ts : List AV} {bs : List Blk} {i : Nat} {v : AV} (h : Tups H ts bs) (e : ts[i]? = some v) : ∃ t x, v = .ref t ∧ bs[i]? = some x ∧ H t = some (.tuple [.int x.b, .int x.z, oInt x.d]) := by
  induction h generalizing i with
  | nil => simp at e
  | @cons t x ts bs a _ ih =>
    cases i with
    | zero => simp at e; subst e; exact ⟨t, x, rfl, by simp, a⟩
    | succ i => simpa using ih (by simpa using e)
inductive Prs (H : AH) : List AV → List Blk → Prop
  | nil : Prs H [] []
  | cons {t x ts bs} : H t = some (.tuple [.int x.b, .int x.z]) → Prs H ts bs → Prs H (.ref t :: ts) (x :: bs)
theorem Prs.mono {ts : List AV} {bs : List Blk} (h : Prs H ts bs) (k : ∀ t xs, H t = some (.tuple xs) → H' t = some (.tuple xs)) : Prs H' ts bs := by
  induction h with
  | nil => exact .nil
  | cons a _ ih => exact .cons (k _ _ a) ih
theorem Prs.snoc {ts : List AV} {bs : List Blk} {t : Addr} {x : Blk} (h : Prs H ts bs) (a : H t = some (.tuple [.int x.b, .int x.z])) : Prs H (ts ++ [.ref t]) (bs ++ [x]) := by
  induction h with
  | nil => exact .cons a .nil
  | cons b _ ih => exact .cons b ih
theorem Prs.length {ts : List AV} {bs : List Blk} (h : Prs H ts bs) : ts.length = bs.length := by
  induction h with
  | nil => rfl
  | cons _ _ ih => simp [ih]
theorem Prs.get {ts : List AV} {bs : List Blk} {i : Nat} {v : AV} (h : Prs H ts bs) (e : ts[i]? = some v) : ∃ t x, v = .ref t ∧ bs[i]? = some x ∧ H t = some (.tuple [.int x.b, .int x.z]) := by
  induction h generalizing i with
  | nil => simp at e
  | @cons t x ts bs a _ ih =>
    cases i with
    | zero => simp at e; subst e; exact ⟨t, x, rfl, by simp, a⟩
    | succ i => simpa using ih (by simpa using e)
theorem Keep.tup {S : List Addr} (k : Keep S H H') (hS : ∀ a ∈ S, ∀ xs, H a ≠ some (.tuple xs)) : ∀ t xs, H t = some (.tuple xs) → H' t = some (.tuple xs) := fun t xs e => k.get (fun h => hS t h xs e) e
theorem HpAt.wnt (x : HpAt H A lim f M F) : ∀ a ∈ [A.w], ∀ xs, H a ≠ some (.tuple xs) := fun a ha xs e => by
  simp at ha; subst ha; rw [x.mem.w] at e; cases e

noncomputable def keptB (M : Int → Int) (x : Blk) : Bool := x.d.isSome && decide (rd M (x.b + 4) ≠ 0)
theorem k_kept {bl : List Blk} (x : HpAt H A lim f M F) (T : Tiles M lim 1024 bl) (hlen : bl.length ≤ 800) (h4 : ∀ x ∈ bl, 0 ≤ x.b ∧ x.b + 4 < 4096) (q : ∀ H' a ts, H a = none → Keep [] H H' → H' a = some (.list ts) → Prs H' ts (bl.filter (keptB M)) → Q (.ref a) H') : Call w (KK P) (n + 5) (.ref 161) [.ref A.h] H Q := by
  refine Call.go (d_kept P) rfl fun c fn => ?_
  have hn := fn.names (ls := [("heap", .local), ("found", .local), ("block", .local), ("size", .local), ("descriptor", .local)]) (by decide +kernel)
  have ok := fn.ok
  have hc := fn.comp
  simp only [List.zip_cons_cons, List.zip_nil_right]
  refine Exs.cons (Ex.set ok hn hc (by rfl) (Ev.list ⟨by simp, fun a ha => ?_⟩))
  have ap := x.apart ha
  have x₀ := x.new (o := .list []) ha
  refine Exs.weaken [("heap", .ref A.h), ("found", .ref a)] _ (by rfl) (fun _ _ e => e) ?_
  refine Exs.cons (Ex.for_ fn (Ev.hmeth ok (m_blocks P) (by simp) ?_))
  refine Ev.loc ‹_› ‹_› (by rfl) (by rfl) ?_
  refine ⟨A, lim, f, M, F, rfl, x₀, ?_⟩
  refine k_blocks x₀ T hlen fun H₁ b ts hb k₁ hb₁ tp => ?_
  have tl := tp.length
  have hba : b ≠ a := fun e => by rw [e, AH.set_self] at hb; cases hb
  refine ⟨.list b ts, fun i l' H' => ∃ us, l' = [("heap", .ref A.h), ("found", .ref a)] ∧ HpAt H' A lim f M F ∧ Keep [] H H' ∧ H' b = some (.list ts) ∧ H' a = some (.list us) ∧ Tups H' ts bl ∧ Prs H' us ((bl.take i).filter (keptB M)),
    ⟨rfl, hb₁, by lia⟩, ⟨[], rfl, x₀.mono k₁, (Keep.new ha).trans k₁, hb₁, k₁.get (by simp) (AH.set_self ..), tp, .nil⟩, ?_, ?_, ?_⟩
  · rintro i l H₂ ⟨us, rfl, x₂, k₂, hb₂, ha₂, tp₂, pr₂⟩
    exact hb₂
  · rintro c NN fn i v l H₂ hi hv hN ⟨us, rfl, x₂, k₂, hb₂, ha₂, tp₂, pr₂⟩
    have hn := fn.names (ls := [("heap", .local), ("found", .local), ("block", .local), ("size", .local), ("descriptor", .local)]) (by decide +kernel)
    have ok := fn.ok
    have hc := fn.comp
    obtain ⟨t, y, rfl, hy, ht⟩ := tp₂.get hv
    have hyb := h4 y (List.mem_of_getElem? hy)
    have ul := pr₂.length
    have ul' : ((bl.take i).filter (keptB M)).length ≤ bl.length := Nat.le_trans (List.length_filter_le _ _) (by rw [List.length_take]; lia)
    have tk : bl.take (i + 1) = bl.take i ++ [y] := by rw [List.take_add_one, hy]; rfl
    refine Asg.tup ok ht rfl rfl ?_
    refine Asg.name ok hc hn (by rfl) (Asg.name ok hc hn (by rfl) (Asg.name ok hc hn (by rfl) ?_))
    have skip : keptB M y = false → ∃ l'' : Loc, Loc.sub l'' (((Loc.put "descriptor" (oInt y.d) (Loc.put "size" (.int y.z) (Loc.put "block" (.int y.b) [("heap", .ref A.h), ("found", .ref a)]))))) ∧ ∃ us, l'' = [("heap", .ref A.h), ("found", .ref a)] ∧ HpAt H₂ A lim f M F ∧ Keep [] H H₂ ∧ H₂ b = some (.list ts) ∧ H₂ a = some (.list us) ∧ Tups H₂ ts bl ∧ Prs H₂ us ((bl.take (i + 1)).filter (keptB M)) := by
      intro hk
      refine ⟨_, (by rfl), us, rfl, x₂, k₂, hb₂, ha₂, tp₂, ?_⟩
      rw [tk, List.filter_append, List.filter_cons, hk]
      simpa using pr₂
    refine Exs.cons (Ex.ifs (Tr.and (Tr.cmp ?_)))
    refine Ev.loc ‹_› ‹_› (by rfl) (by rfl) ?_
    refine Ev.none ?_
    cases hd : y.d with
    | none =>
      refine ⟨fun _ => ⟨(nomatch ·), fun _ => Exs.nil (Exs.nil ?_)⟩, (nomatch ·)⟩
      have := skip (by unfold keptB; rw [hd]; rfl)
      rw [hd] at this
      exact let ⟨_, a, b⟩ := this; hN _ a b
    | some dd =>
      refine ⟨(nomatch ·), fun _ => Tr.and (Tr.cmp (Ev.rd ok (Ev.memory ok ?_)))⟩
      refine Ev.loc ‹_› ‹_› (by rfl) (by rfl) ?_
      refine ⟨A, lim, f, M, F, rfl, x₂, A, M, rfl, x₂.mem, Ev.bin ?_⟩
      refine Ev.loc ‹_› ‹_› (by rfl) (by rfl) ?_
      refine Ev.int ⟨_, M, rfl, x₂.mem, by lia, Ev.int ⟨fun h => ⟨(nomatch ·), fun _ => Exs.nil (Exs.nil ?_)⟩, fun h => Tr.and_nil ⟨fun _ => ?_, (nomatch ·)⟩⟩⟩
      · have := skip (by unfold keptB; rw [h]; simp)
        rw [hd] at this
        exact let ⟨_, a, b⟩ := this; hN _ a b
      · have hk : keptB M y = true := by unfold keptB; rw [h, hd]; rfl
        refine Exs.cons (Ex.expr (Ev.append ?_) (inter ok))
        refine Ev.loc ‹_› ‹_› (by rfl) (by rfl) ?_
        refine ⟨a, us, rfl, ha₂, Ev.tuple ?_⟩
        refine (?_ : Ev _ _ _ _ _ _)
        refine Ev.loc ‹_› ‹_› (by rfl) (by rfl) ?_
        refine (?_ : Ev _ _ _ _ _ _)
        refine Ev.loc ‹_› ‹_› (by rfl) (by rfl) ?_
        refine ⟨by simp, fun u hu => ⟨us, ?_, by lia, trivial, Exs.nil (Exs.nil (hN _ (by rfl) ⟨us ++ [.ref u], rfl, ?_, ?_, ?_, AH.set_self .., ?_, ?_⟩))⟩⟩
        · rw [AH.set_ne (fun e => by rw [e, hu] at ha₂; cases ha₂)]; exact ha₂
        · exact (x₂.new hu).other ap.1 ap.2.1 ap.2.2.1 ap.2.2.2.1 ap.2.2.2.2.1 ap.2.2.2.2.2
        · exact (k₂.trans (Keep.new hu)).late ha
        · rw [AH.set_ne hba, AH.set_ne (fun e => by rw [e, hu] at hb₂; cases hb₂)]; exact hb₂
        · have h1 : (H₂.set u (.tuple [.int y.b, .int y.z])) a = some (.list us) := by rw [AH.set_ne (fun e => by rw [e, hu] at ha₂; cases ha₂)]; exact ha₂
          exact Tups.but (xs := us) (tp₂.mono (S := []) fun b o h => by rw [AH.set_ne (fun e => by rw [e, hu] at h; cases h)]; exact h) h1
        · rw [tk, List.filter_append, List.filter_cons, hk]
          have h1 : Prs (H₂.set u (.tuple [.int y.b, .int y.z])) (us ++ [.ref u]) ((bl.take i).filter (keptB M) ++ [y]) :=
            Prs.snoc (pr₂.mono fun t xs h => by rw [AH.set_ne (fun e => by rw [e, hu] at h; cases h)]; exact h) (AH.set_self ..)
          refine h1.mono fun t xs h => ?_
          rw [AH.set_ne (fun e => by rw [e, AH.set_ne (fun e => by rw [e, hu] at ha₂; cases ha₂), ha₂] at h; cases h)]; exact h
  · rintro l H₂ ⟨us, rfl, x₂, k₂, hb₂, ha₂, tp₂, pr₂⟩
    refine Exs.cons (Ex.ret ?_)
    refine Ev.loc ‹_› ‹_› (by rfl) (by rfl) ?_
    refine q _ a us ha k₂ ha₂ ?_
    have e : bl.take ((Src.list b ts).len) = bl := by show bl.take ts.length = bl; rw [tl, List.take_length]
    rw [e] at pr₂
    exact pr₂

noncomputable def setT (M : Int → Int) (t : Int) : List Blk → (Int → Int)
  | [] => M
  | x :: r => setT (wr M (x.b + 4) (t + 8)) (t + x.z) r
noncomputable def endT (t : Int) : List Blk → Int
  | [] => t
  | x :: r => endT (t + x.z) r
theorem setT_snoc {M : Int → Int} {t : Int} {bl : List Blk} {x : Blk} : setT M t (bl ++ [x]) = wr (setT M t bl) (x.b + 4) (endT t bl + 8) := by
  induction bl generalizing M t with
  | nil => rfl
  | cons y r ih => exact ih
theorem endT_snoc {t : Int} {bl : List Blk} {x : Blk} : endT t (bl ++ [x]) = endT t bl + x.z := by
  induction bl generalizing t with
  | nil => rfl
  | cons y r ih => exact ih
theorem k_targets {kb : List Blk} {kt : Addr} {ts : List AV} (x : HpAt H A lim f M F) (hkt : H kt = some (.list ts)) (pr : Prs H ts kb) (hlen : kb.length ≤ 800) (h4 : ∀ x ∈ kb, 0 ≤ x.b ∧ x.b + 4 < 4096)
    (q : ∀ H', HpAt H' A lim f (setT M 1024 kb) F → Keep [A.w] H H' → Q (.int (endT 1024 kb)) H') : Call w (KK P) (n + 4) (.ref 168) [.ref A.h, .ref kt] H Q := by
  refine Call.go (d_targets P) rfl fun c fn => ?_
  have hn := fn.names (ls := [("heap", .local), ("kept", .local), ("target", .local), ("block", .local), ("size", .local), ("HEADER", .globalImplicit)]) (by decide +kernel)
  have ok := fn.ok
  have hc := fn.comp
  simp only [List.zip_cons_cons, List.zip_nil_right]
  have hkw : kt ∉ [A.w] := by simp; intro e; rw [e, x.mem.w] at hkt; cases hkt
  refine Exs.cons (Ex.set ok hn hc (by rfl) (Ev.start ok ?_))
  refine Ev.loc ‹_› ‹_› (by rfl) (by rfl) ?_
  refine ⟨A, lim, f, M, F, rfl, x, ?_⟩
  refine Exs.weaken [("heap", .ref A.h), ("kept", .ref kt), ("target", .int 1024)] _ (by rfl) (fun _ _ e => e) ?_
  refine Exs.cons (Ex.for_ fn ?_)
  refine Ev.loc ‹_› ‹_› (by rfl) (by rfl) ?_
  have tl := pr.length
  refine ⟨.list kt ts, fun i l' H' => l' = [("heap", .ref A.h), ("kept", .ref kt), ("target", .int (endT 1024 (kb.take i)))] ∧ HpAt H' A lim f (setT M 1024 (kb.take i)) F ∧ Keep [A.w] H H',
    ⟨rfl, hkt, by lia⟩, ⟨rfl, x, Keep.refl⟩, ?_, ?_, ?_⟩
  · rintro i l H₁ ⟨rfl, x₁, k₁⟩
    exact k₁.get hkw hkt
  · rintro c NN fn i v l H₁ hi hv hN ⟨rfl, x₁, k₁⟩
    have hn := fn.names (ls := [("heap", .local), ("kept", .local), ("target", .local), ("block", .local), ("size", .local), ("HEADER", .globalImplicit)]) (by decide +kernel)
    have ok := fn.ok
    have hc := fn.comp
    obtain ⟨t, y, rfl, hy, ht⟩ := (pr.mono (k₁.tup x.wnt)).get hv
    have hyb := h4 y (List.mem_of_getElem? hy)
    have tk : kb.take (i + 1) = kb.take i ++ [y] := by rw [List.take_add_one, hy]; rfl
    refine Asg.tup ok ht rfl rfl ?_
    refine Asg.name ok hc hn (by rfl) (Asg.name ok hc hn (by rfl) ?_)
    refine Exs.cons (Ex.wr ok (Ev.memory ok ?_))
    refine Ev.loc ‹_› ‹_› (by rfl) (by rfl) ?_
    refine ⟨A, lim, f, _, F, rfl, x₁, A, _, rfl, x₁.mem, Ev.bin ?_⟩
    refine Ev.loc ‹_› ‹_› (by rfl) (by rfl) ?_
    refine Ev.int (?_ : Ev _ _ _ _ _ _)
    refine Ev.bin ?_
    refine Ev.loc ‹_› ‹_› (by rfl) (by rfl) ?_
    refine Ev.gi ‹_› (globOk _) ‹_› (by rfl) (by rfl) ?_
    refine ⟨_, _, _, rfl, rfl, x₁.mem, by lia, fun H₂ y₂ k₂ => ?_⟩
    refine Exs.cons (Ex.inc ok hn hc (by rfl) (by rfl) ?_)
    refine Ev.loc ‹_› ‹_› (by rfl) (by rfl) ?_
    refine ⟨_, rfl, Exs.nil (hN [("heap", .ref A.h), ("kept", .ref kt), ("target", .int (endT 1024 (kb.take (i + 1))))] ?_ ⟨rfl, ?_, k₁.trans k₂⟩)⟩
    · rw [tk, endT_snoc]; rfl
    · rw [tk, setT_snoc]; exact x₁.kept k₂ y₂
  · rintro l H₁ ⟨rfl, x₁, k₁⟩
    have e : kb.take ((Src.list kt ts).len) = kb := by show kb.take ts.length = kb; rw [tl, List.take_length]
    rw [e] at x₁ ⊢
    refine Exs.cons (Ex.ret ?_)
    refine Ev.loc ‹_› ‹_› (by rfl) (by rfl) ?_
    exact q _ x₁ k₁

theorem k_moved {bl : List Blk} {a : Int} (x : HpAt H A lim f M F) (T : Tiles M lim 1024 bl) (hin : inH lim bl a ≠ 0 → 4 ≤ inH lim bl a ∧ inH lim bl a < 4096) (q : Q (.int (if inH lim bl a = 0 then a else rd M (inH lim bl a - 4) + a - inH lim bl a)) H) : Call w (KK P) (n + 5) (.ref 175) [.ref A.h, .int a] H Q := by
  refine Call.go (d_moved P) rfl fun c fn => ?_
  have hn := fn.names (ls := [("heap", .local), ("word", .local), ("record", .local), ("MARK_compact", .globalImplicit)]) (by decide +kernel)
  have ok := fn.ok
  have hc := fn.comp
  simp only [List.zip_cons_cons, List.zip_nil_right]
  refine Exs.cons (Ex.set ok hn hc (by rfl) (Ev.hmeth ok (m_block_of P) (by simp) ?_))
  refine Ev.loc ‹_› ‹_› (by rfl) (by rfl) ?_
  refine ⟨A, lim, f, M, F, rfl, x, ?_⟩
  refine Ev.loc ‹_› ‹_› (by rfl) (by rfl) ?_
  refine k_block_of x T ?_
  refine Exs.cons (Ex.ifs (Tr.cmp ?_))
  refine Ev.loc ‹_› ‹_› (by rfl) (by rfl) ?_
  refine Ev.int ⟨fun h => Exs.cons (Ex.ret ?_), fun h => Exs.nil (Exs.cons (Ex.ret (Ev.bin (Ev.bin (Ev.rd ok (Ev.memory ok ?_))))))⟩
  · refine Ev.loc ‹_› ‹_› (by rfl) (by rfl) ?_
    rw [if_pos (by simpa using h)] at q; exact q
  · have h : inH lim bl a ≠ 0 := by simpa using h
    rw [if_neg h] at q
    have := hin h
    refine Ev.loc ‹_› ‹_› (by rfl) (by rfl) ?_
    refine ⟨A, lim, f, M, F, rfl, x, A, M, rfl, x.mem, Ev.bin ?_⟩
    refine Ev.loc ‹_› ‹_› (by rfl) (by rfl) ?_
    refine Ev.gi ‹_› (globOk _) ‹_› (by rfl) (by rfl) ?_
    refine ⟨inH lim bl a - 4, M, rfl, x.mem, by omega, ?_⟩
    refine Ev.loc ‹_› ‹_› (by rfl) (by rfl) ?_
    refine Ev.loc ‹_› ‹_› (by rfl) (by rfl) ?_
    exact q
end


section
variable {P : Params} {w : World} {c : Cx} {l l' : Loc} {H H' : AH} {s s' : Shared} {lvl n : Nat} {Q : AV → AH → Prop} {A : Ad} {M : Int → Int} {F : List Int} {f : Addr} {lim : Int} {o e e₁ e₂ : PySem.Expr} {ap p p' : Pos} {N : Loc → AH → Prop} {R : AV → AH → Prop}
noncomputable def alt1 (lim : Int) (M : Int → Int) (p : Int) : Int → Int := if 1024 < rd M p ∧ rd M p < lim then wr M p (rd M (rd M p - 4)) else M
noncomputable def altL (lim : Int) (M : Int → Int) : List Int → (Int → Int)
  | [] => M
  | p :: r => altL lim (alt1 lim M p) r
theorem altL_snoc {M : Int → Int} {ps : List Int} {p : Int} : altL lim M (ps ++ [p]) = alt1 lim (altL lim M ps) p := by
  induction ps generalizing M with
  | nil => rfl
  | cons y r ih => exact ih
noncomputable def pls (r : Rec) : List Int := r.offs.map (r.a + ·)
/-- what pointer_places wants of a record -/
structure PlOk (M : Int → Int) (r : Rec) : Prop where
  a : 8 ≤ r.a ∧ r.a < 4000
  h : rd M (r.a - 8) = r.d
  d : 0 ≤ r.d ∧ r.d + 24 + 4 * r.offs.length ≤ 1024
  t : ∀ (k : Nat) o, r.offs[k]? = some o → rd M (r.d + 20 + 4 * k) = o
  o : ∀ o ∈ r.offs, 0 ≤ o ∧ o < 96
  e : rd M (r.d + 20 + 4 * r.offs.length) = 4294967295
inductive AltOk (lim : Int) : (Int → Int) → List Rec → Prop
  | nil {M : Int → Int} : AltOk lim M []
  | cons {M : Int → Int} {r : Rec} {rs : List Rec} : PlOk M r → AltOk lim (altL lim M (pls r)) rs → AltOk lim M (r :: rs)
noncomputable def rb (r : Rec) : Blk := ⟨r.a - 8, r.z, some r.d⟩
noncomputable def altR (lim : Int) (M : Int → Int) : List Rec → (Int → Int)
  | [] => M
  | r :: rs => altR lim (altL lim M (pls r)) rs
theorem drop_get {α : Type} {l : List α} {i : Nat} {x : α} (h : l[i]? = some x) : l.drop i = x :: l.drop (i + 1) := by
  have hi : i < l.length := by
    rcases Nat.lt_or_ge i l.length with h' | h'
    · exact h'
    · rw [List.getElem?_eq_none h'] at h; cases h
  rw [List.drop_eq_getElem_cons hi]
  rw [List.getElem?_eq_getElem hi] at h
  cases h; rfl
theorem k_alter {ks : List Rec} {kt : Addr} {ts : List AV} (x : HpAt H A lim f M F) (hl : lim ≤ 4000) (hkt : H kt = some (.list ts)) (pr : Prs H ts (ks.map rb)) (hlen : ks.length ≤ 800) (ok : AltOk lim M ks) (ho5 : ∀ r ∈ ks, r.offs.length ≤ 800)
    (q : ∀ H', HpAt H' A lim f (altR lim M ks) F → Keep [A.w] H H' → Q .none H') : Call w (KK P) (n + 5) (.ref 182) [.ref A.h, .ref kt] H Q := by
  have aok := ok
  refine Call.go (d_alter P) rfl fun c fn => ?_
  have hn := fn.names (ls := [("heap", .local), ("kept", .local), ("memory", .local), ("block", .local), ("size", .local), ("place", .local), ("target", .local), ("pointer_places", .globalImplicit), ("HEADER", .globalImplicit), ("is_record", .globalImplicit), ("MARK_compact", .globalImplicit)]) (by decide +kernel)
  have ok := fn.ok
  have hc := fn.comp
  simp only [List.zip_cons_cons, List.zip_nil_right]
  have hkw : kt ∉ [A.w] := by simp; intro e; rw [e, x.mem.w] at hkt; cases hkt
  refine Exs.cons (Ex.set ok hn hc (by rfl) (Ev.memory ok ?_))
  refine Ev.loc ‹_› ‹_› (by rfl) (by rfl) ?_
  refine ⟨A, lim, f, M, F, rfl, x, ?_⟩
  refine Exs.weaken [("heap", .ref A.h), ("kept", .ref kt), ("memory", .ref A.m)] _ (by rfl) (fun _ _ e => e) ?_
  refine Exs.cons (Ex.for_ fn ?_)
  refine Ev.loc ‹_› ‹_› (by rfl) (by rfl) ?_
  have tl := pr.length
  rw [List.length_map] at tl
  refine ⟨.list kt ts, fun i l' H' => ∃ M', l' = [("heap", .ref A.h), ("kept", .ref kt), ("memory", .ref A.m)] ∧ HpAt H' A lim f M' F ∧ Keep [A.w] H H' ∧ AltOk lim M' (ks.drop i) ∧ altR lim M' (ks.drop i) = altR lim M ks,
    ⟨rfl, hkt, by lia⟩, ⟨M, rfl, x, Keep.refl, aok, rfl⟩, ?_, ?_, ?_⟩
  · rintro i l H₁ ⟨M₁, rfl, x₁, k₁, ok₁, e₁⟩
    exact k₁.get hkw hkt
  · rintro c NN fn i v l H₁ hi hv hN ⟨M₁, rfl, x₁, k₁, ok₁, e₁⟩
    have hn := fn.names (ls := [("heap", .local), ("kept", .local), ("memory", .local), ("block", .local), ("size", .local), ("place", .local), ("target", .local), ("pointer_places", .globalImplicit), ("HEADER", .globalImplicit), ("is_record", .globalImplicit), ("MARK_compact", .globalImplicit)]) (by decide +kernel)
    have ok := fn.ok
    have hc := fn.comp
    obtain ⟨t, y, rfl, hy, ht⟩ := (pr.mono (k₁.tup x.wnt)).get hv
    obtain ⟨r, hr, rfl⟩ : ∃ r, ks[i]? = some r ∧ rb r = y := by
      rw [List.getElem?_map] at hy
      cases h : ks[i]? with
      | none => rw [h] at hy; cases hy
      | some r => rw [h] at hy; cases hy; exact ⟨r, rfl, rfl⟩
    rw [drop_get hr] at ok₁ e₁
    obtain ⟨⟨pa, ph, pd, pt, po, pe⟩, ok₂⟩ : PlOk M₁ r ∧ AltOk lim (altL lim M₁ (pls r)) (ks.drop (i + 1)) := by
      cases ok₁ with
      | cons a b => exact ⟨a, b⟩
    have hr5 := ho5 r (List.mem_of_getElem? hr)
    have ht : H₁ t = some (.tuple [.int (r.a - 8), .int r.z]) := ht
    refine Asg.tup ok ht rfl rfl ?_
    refine Asg.name ok hc hn (by rfl) (Asg.name ok hc hn (by rfl) ?_)
    refine Exs.weaken [("heap", .ref A.h), ("kept", .ref kt), ("memory", .ref A.m), ("block", .int (r.a - 8))] _ (by rfl) (fun _ _ e => e) ?_
    refine Exs.cons (Ex.for_ fn (Ev.callf ok (globOk _) hn (by rfl) (by rfl) (d_places P).keep ?_))
    refine Ev.loc ‹_› ‹_› (by rfl) (by rfl) ?_
    refine (?_ : Ev _ _ _ _ _ _)
    refine Ev.bin ?_
    refine Ev.loc ‹_› ‹_› (by rfl) (by rfl) ?_
    refine Ev.gi ‹_› (globOk _) ‹_› (by rfl) (by rfl) ?_
    have e8 : r.a - 8 + 8 = r.a := by (clear x hl hkt pr hlen ho5 q aok hkw tl fn hi hN x₁ k₁ hn ok hc hv e₁ ok₁ hr hy ok₂ pa ph pd pt po pe hr5 ht; lia)
    show Call w (KK P) _ (.ref 147) [.ref A.h, .int (r.a - 8 + 8)] H₁ _
    rw [e8]
    refine k_places x₁ (by lia) ph pd pt (fun o ho => by have := po o ho; lia) pe fun H₂ b hb k₂ hb₂ => ?_
    have x₂ := x₁.mono k₂
    have hbw : b ∉ [A.w] := by simp; intro e; rw [e, x₁.mem.w] at hb; cases hb
    refine ⟨.list b ((pls r).map .int), fun j l' H' => l' = [("heap", .ref A.h), ("kept", .ref kt), ("memory", .ref A.m), ("block", .int (r.a - 8))] ∧ HpAt H' A lim f (altL lim M₁ ((pls r).take j)) F ∧ Keep [A.w] H₂ H',
      ⟨rfl, hb₂, by unfold pls; simp; lia⟩, ⟨rfl, x₂, Keep.refl⟩, ?_, ?_, ?_⟩
    · rintro j l H₃ ⟨rfl, x₃, k₃⟩
      exact k₃.get hbw hb₂
    · rintro c NN fn j v l H₃ hj hv hN ⟨rfl, x₃, k₃⟩
      have hn := fn.names (ls := [("heap", .local), ("kept", .local), ("memory", .local), ("block", .local), ("size", .local), ("place", .local), ("target", .local), ("pointer_places", .globalImplicit), ("HEADER", .globalImplicit), ("is_record", .globalImplicit), ("MARK_compact", .globalImplicit)]) (by decide +kernel)
      have ok := fn.ok
      have hc := fn.comp
      obtain ⟨pl, hpl, rfl⟩ : ∃ pl, (pls r)[j]? = some pl ∧ v = .int pl := by
        have hv : ((pls r).map AV.int)[j]? = some v := hv
        rw [List.getElem?_map] at hv
        cases e : (pls r)[j]? with
        | none => rw [e] at hv; cases hv
        | some wd => rw [e] at hv; cases hv; exact ⟨wd, rfl, rfl⟩
      have hplb : 0 ≤ pl ∧ pl < 4096 := by
        have := List.mem_of_getElem? hpl
        unfold pls at this
        obtain ⟨o, ho, rfl⟩ := List.mem_map.mp this
        have := po o ho
        lia
      have tk : (pls r).take (j + 1) = (pls r).take j ++ [pl] := by rw [List.take_add_one, hpl]; rfl
      have nxt : altL lim M₁ ((pls r).take (j + 1)) = alt1 lim (altL lim M₁ ((pls r).take j)) pl := by rw [tk, altL_snoc]
      generalize altL lim M₁ ((pls r).take j) = M₃ at x₃ nxt
      refine Asg.name ok hc hn (by rfl) ?_
      refine Exs.cons (Ex.set ok hn hc (by rfl) (Ev.rd ok ?_))
      refine Ev.loc ‹_› ‹_› (by rfl) (by rfl) ?_
      refine ⟨A, M₃, rfl, x₃.mem, ?_⟩
      refine Ev.loc ‹_› ‹_› (by rfl) (by rfl) ?_
      refine ⟨pl, M₃, rfl, x₃.mem, hplb, ?_⟩
      refine Exs.cons (Ex.ifs (Tr.plain (Ev.callf ok (globOk _) hn (by rfl) (by rfl) (d_isrec P).keep ?_)))
      refine Ev.loc ‹_› ‹_› (by rfl) (by rfl) ?_
      refine Ev.loc ‹_› ‹_› (by rfl) (by rfl) ?_
      unfold alt1 at nxt
      refine k_isrec x₃ ⟨_, rfl, fun h => ?_, fun h => ?_⟩
      · have h : 1024 < rd M₃ pl ∧ rd M₃ pl < lim := by simpa using h
        rw [if_pos h] at nxt
        refine Exs.cons (Ex.wr ok ?_)
        refine Ev.loc ‹_› ‹_› (by rfl) (by rfl) ?_
        refine ⟨A, M₃, rfl, x₃.mem, ?_⟩
        refine Ev.loc ‹_› ‹_› (by rfl) (by rfl) ?_
        refine Ev.rd ok ?_
        refine Ev.loc ‹_› ‹_› (by rfl) (by rfl) ?_
        refine ⟨A, M₃, rfl, x₃.mem, Ev.bin ?_⟩
        refine Ev.loc ‹_› ‹_› (by rfl) (by rfl) ?_
        refine Ev.gi ‹_› (globOk _) ‹_› (by rfl) (by rfl) ?_
        refine ⟨rd M₃ pl - 4, M₃, rfl, x₃.mem, by (clear x hkt pr hlen ho5 q aok hkw tl hi x₁ k₁ e₁ ok₁ hr hy ok₂ pa ph pd pt po pe hr5 ht e8 hb k₂ hb₂ x₂ hbw fn hj hN k₃ hn ok hc hpl hv hplb tk x₃ nxt; omega), pl, M₃, _, rfl, rfl, x₃.mem, hplb, fun H₄ y₄ k₄ => Exs.nil (Exs.nil (hN _ (by rfl) ⟨rfl, ?_, k₃.trans k₄⟩))⟩
        rw [nxt]
        exact x₃.kept k₄ y₄
      · have h : ¬ (1024 < rd M₃ pl ∧ rd M₃ pl < lim) := fun y => by rw [decide_eq_true y] at h; cases h
        rw [if_neg h] at nxt
        refine Exs.nil (Exs.nil (hN _ (by rfl) ⟨rfl, ?_, k₃⟩))
        rw [nxt]; exact x₃
    · rintro l H₃ ⟨rfl, x₃, k₃⟩
      have e : (pls r).take ((Src.list b ((pls r).map AV.int)).len) = pls r := by show (pls r).take ((pls r).map AV.int).length = _; rw [List.length_map, List.take_length]
      rw [e] at x₃
      exact Exs.nil (hN _ (by rfl) ⟨_, rfl, x₃, (k₁.trans (k₂.mono (by simp))).trans k₃, ok₂, e₁⟩)
  · rintro l H₁ ⟨M₁, rfl, x₁, k₁, ok₁, e₁⟩
    have e : ks.drop ((Src.list kt ts).len) = [] := by show ks.drop ts.length = []; rw [tl]; simp
    rw [e] at e₁
    refine Exs.nil (q _ ?_ k₁)
    rw [← e₁]; exact x₁

noncomputable def cp (M : Int → Int) (t b : Int) : Nat → (Int → Int)
  | 0 => M
  | i + 1 => wr (cp M t b i) (t + 4 * i) (rd (cp M t b i) (b + 4 * i))
noncomputable def slide1 (M : Int → Int) (x : Blk) : Int → Int := wr (cp M (rd M (x.b + 4) - 8) x.b (x.z / 4).toNat) (rd M (x.b + 4) - 8 + 4) 0
noncomputable def slideL (M : Int → Int) : List Blk → (Int → Int)
  | [] => M
  | x :: r => slideL (slide1 M x) r
inductive SlideOk : (Int → Int) → List Blk → Prop
  | nil {M : Int → Int} : SlideOk M []
  | cons {M : Int → Int} {x : Blk} {r : List Blk} : 0 ≤ rd M (x.b + 4) - 8 → rd M (x.b + 4) - 8 + x.z ≤ 4096 → 0 ≤ x.b → x.b + x.z ≤ 4096 → x.z % 4 = 0 → 8 ≤ x.z → SlideOk (slide1 M x) r → SlideOk M (x :: r)
theorem k_slide {kb : List Blk} {kt : Addr} {ts : List AV} (x : HpAt H A lim f M F) (hkt : H kt = some (.list ts)) (pr : Prs H ts kb) (hlen : kb.length ≤ 800) (sok : SlideOk M kb)
    (q : ∀ H', HpAt H' A lim f (slideL M kb) F → Keep [A.w] H H' → Q .none H') : Call w (KK P) (n + 4) (.ref 189) [.ref A.h, .ref kt] H Q := by
  refine Call.go (d_slide P) rfl fun c fn => ?_
  have hn := fn.names (ls := [("heap", .local), ("kept", .local), ("memory", .local), ("block", .local), ("size", .local), ("target", .local), ("offset", .local), ("HEADER", .globalImplicit), ("range", .globalImplicit)]) (by decide +kernel)
  have ok := fn.ok
  have hc := fn.comp
  simp only [List.zip_cons_cons, List.zip_nil_right]
  have hkw : kt ∉ [A.w] := by simp; intro e; rw [e, x.mem.w] at hkt; cases hkt
  refine Exs.cons (Ex.set ok hn hc (by rfl) (Ev.memory ok ?_))
  refine Ev.loc ‹_› ‹_› (by rfl) (by rfl) ?_
  refine ⟨A, lim, f, M, F, rfl, x, ?_⟩
  refine Exs.weaken [("kept", .ref kt), ("memory", .ref A.m)] _ (by rfl) (fun _ _ e => e) ?_
  refine Exs.cons (Ex.for_ fn ?_)
  refine Ev.loc ‹_› ‹_› (by rfl) (by rfl) ?_
  have tl := pr.length
  refine ⟨.list kt ts, fun i l' H' => ∃ M', l' = [("kept", .ref kt), ("memory", .ref A.m)] ∧ HpAt H' A lim f M' F ∧ Keep [A.w] H H' ∧ SlideOk M' (kb.drop i) ∧ slideL M' (kb.drop i) = slideL M kb,
    ⟨rfl, hkt, by lia⟩, ⟨M, rfl, x, Keep.refl, sok, rfl⟩, ?_, ?_, ?_⟩
  · rintro i l H₁ ⟨M₁, rfl, x₁, k₁, ok₁, e₁⟩
    exact k₁.get hkw hkt
  · rintro c NN fn i v l H₁ hi hv hN ⟨M₁, rfl, x₁, k₁, ok₁, e₁⟩
    have hn := fn.names (ls := [("heap", .local), ("kept", .local), ("memory", .local), ("block", .local), ("size", .local), ("target", .local), ("offset", .local), ("HEADER", .globalImplicit), ("range", .globalImplicit)]) (by decide +kernel)
    have ok := fn.ok
    have hc := fn.comp
    obtain ⟨t, y, rfl, hy, ht⟩ := (pr.mono (k₁.tup x.wnt)).get hv
    rw [drop_get hy] at ok₁ e₁
    obtain ⟨t0, t1, b0, b1, z4, z8, ok₂⟩ : 0 ≤ rd M₁ (y.b + 4) - 8 ∧ rd M₁ (y.b + 4) - 8 + y.z ≤ 4096 ∧ 0 ≤ y.b ∧ y.b + y.z ≤ 4096 ∧ y.z % 4 = 0 ∧ 8 ≤ y.z ∧ SlideOk (slide1 M₁ y) (kb.drop (i + 1)) := by
      cases ok₁ with
      | cons a b c d e f g => exact ⟨a, b, c, d, e, f, g⟩
    refine Asg.tup ok ht rfl rfl ?_
    refine Asg.name ok hc hn (by rfl) (Asg.name ok hc hn (by rfl) ?_)
    refine Exs.cons (Ex.set ok hn hc (by rfl) (Ev.bin (Ev.rd ok ?_)))
    refine Ev.loc ‹_› ‹_› (by rfl) (by rfl) ?_
    refine ⟨A, M₁, rfl, x₁.mem, Ev.bin ?_⟩
    refine Ev.loc ‹_› ‹_› (by rfl) (by rfl) ?_
    refine Ev.int ⟨_, M₁, rfl, x₁.mem, by (clear x hkt pr hlen sok q hkw tl fn hi hN x₁ k₁ hn ok hc e₁ ok₁ hv hy ht t0 t1 z4 ok₂; lia), ?_⟩
    refine Ev.gi ‹_› (globOk _) ‹_› (by rfl) (by rfl) ?_
    have sd : slide1 M₁ y = wr (cp M₁ (rd M₁ (y.b + 4) - 8) y.b (y.z / 4).toNat) (rd M₁ (y.b + 4) - 8 + 4) 0 := rfl
    show Exs w c _ (Loc.put "target" (.int (rd M₁ (y.b + 4) - 8)) _) _ _ _
    generalize rd M₁ (y.b + 4) - 8 = T at t0 t1 sd ⊢
    refine Exs.weaken [("kept", .ref kt), ("memory", .ref A.m), ("block", .int y.b), ("size", .int y.z), ("target", .int T)] _ (by rfl) (fun _ _ e => e) ?_
    refine Exs.cons (Ex.for_ fn (Ev.range3 (by exact Bi.of ‹_› (globOk _) ‹_› (by rfl) (by rfl)) ?_))
    refine Ev.int ⟨_, rfl, ?_⟩
    refine Ev.loc ‹_› ‹_› (by rfl) (by rfl) ?_
    refine ⟨_, rfl, Ev.int ⟨rfl, fun r fr => ⟨.range 0 4 (y.z / 4).toNat, fun j l' H' => l' = [("kept", .ref kt), ("memory", .ref A.m), ("block", .int y.b), ("size", .int y.z), ("target", .int T)] ∧ HpAt H' A lim f (cp M₁ T y.b j) F ∧ Keep [A.w] H₁ H',
      from_4 (by rw [AH.set_self, show (0 : Int) + 4 * ((y.z / 4).toNat : Int) = y.z by lia]) (by lia) (by lia) (by lia), ⟨rfl, x₁.new fr, Keep.new fr⟩, fun _ _ _ _ => trivial, ?_, ?_⟩⟩⟩
    · rintro c NN fn j v l H₃ hj hv hN ⟨rfl, x₃, k₃⟩
      have hj : j < (y.z / 4).toNat := hj
      have hn := fn.names (ls := [("heap", .local), ("kept", .local), ("memory", .local), ("block", .local), ("size", .local), ("target", .local), ("offset", .local), ("HEADER", .globalImplicit), ("range", .globalImplicit)]) (by decide +kernel)
      have ok := fn.ok
      have hc := fn.comp
      cases hv
      refine Asg.name ok hc hn (by rfl) ?_
      refine Exs.cons (Ex.wr ok ?_)
      refine Ev.loc ‹_› ‹_› (by rfl) (by rfl) ?_
      refine ⟨A, _, rfl, x₃.mem, Ev.bin ?_⟩
      refine Ev.loc ‹_› ‹_› (by rfl) (by rfl) ?_
      refine Ev.loc ‹_› ‹_› (by rfl) (by rfl) ?_
      refine (?_ : Ev _ _ _ _ _ _)
      refine Ev.rd ok ?_
      refine Ev.loc ‹_› ‹_› (by rfl) (by rfl) ?_
      refine ⟨A, _, rfl, x₃.mem, Ev.bin ?_⟩
      refine Ev.loc ‹_› ‹_› (by rfl) (by rfl) ?_
      refine Ev.loc ‹_› ‹_› (by rfl) (by rfl) ?_
      refine ⟨_, _, rfl, x₃.mem, by lia, _, _, _, rfl, rfl, x₃.mem, by lia, fun H₄ y₄ k₄ => Exs.nil (hN _ (by rfl) ⟨rfl, ?_, k₃.trans k₄⟩)⟩
      have e1 : T + (0 + (j : Int) * 4) = T + 4 * j := by lia
      have e2 : y.b + (0 + (j : Int) * 4) = y.b + 4 * j := by lia
      rw [e1, e2] at y₄
      exact x₃.kept k₄ y₄
    · rintro l H₃ ⟨rfl, x₃, k₃⟩
      have x₃ : HpAt H₃ A lim f (cp M₁ T y.b (y.z / 4).toNat) F := x₃
      refine Exs.cons (Ex.wr ok ?_)
      refine Ev.loc ‹_› ‹_› (by rfl) (by rfl) ?_
      refine ⟨A, _, rfl, x₃.mem, Ev.bin ?_⟩
      refine Ev.loc ‹_› ‹_› (by rfl) (by rfl) ?_
      refine Ev.int (?_ : Ev _ _ _ _ _ _)
      refine Ev.int ⟨_, _, _, rfl, rfl, x₃.mem, by (clear x hkt pr hlen sok q hkw tl fn hi hN x₁ k₁ hn ok hc e₁ ok₁ hv hy ht b0 b1 z4 ok₂ sd fr k₃ x₃; lia), fun H₄ y₄ k₄ => Exs.nil (hN _ (by rfl) ⟨slide1 M₁ y, rfl, ?_, (k₁.trans k₃).trans k₄, ok₂, e₁⟩)⟩
      rw [sd]
      exact x₃.kept k₄ y₄
  · rintro l H₁ ⟨M₁, rfl, x₁, k₁, ok₁, e₁⟩
    have e : kb.drop ((Src.list kt ts).len) = [] := by show kb.drop ts.length = []; rw [tl]; simp
    rw [e] at e₁
    refine Exs.nil (q _ ?_ k₁)
    rw [← e₁]; exact x₁
end


section
variable {P : Params} {w : World} {c : Cx} {l l' : Loc} {H H' : AH} {s s' : Shared} {lvl n : Nat} {Q : AV → AH → Prop} {A : Ad} {M : Int → Int} {F : List Int} {f : Addr} {lim : Int} {o e e₁ e₂ : PySem.Expr} {ap p p' : Pos} {N : Loc → AH → Prop} {R : AV → AH → Prop}
theorem s_free (P : Params) : SetOk (KK P) 108 "free" := ⟨by kernel_rfl, by kernel_rfl, by kernel_rfl, by kernel_rfl⟩
theorem d_compact (P : Params) : DefAtC P (stAt 29) 194 193 "compact" (.str "moduleyard.compact" 410) ["heap", "roots"] := by
  refine ⟨by kernel_rfl, by kernel_rfl, by kernel_rfl, by decide +kernel, by decide, ?_, by decide +kernel, ?_⟩
  · intro n x hx
    simp only [List.mem_cons, List.not_mem_nil, or_false] at hx
    rcases hx with rfl | rfl
    · exact .inr ⟨by kernel_rfl, by kernel_rfl⟩
    · exact .inl (by kernel_rfl)
  · refine len2 fun a b => ?_; kernel_rfl
noncomputable def moved (lim : Int) (bl : List Blk) (M : Int → Int) (a : Int) : Int := if inH lim bl a = 0 then a else rd M (inH lim bl a - 4) + a - inH lim bl a
noncomputable def fin4 (lim : Int) (M : Int → Int) (e : Int) : Int → Int := if e < lim then wr (wr M e (lim - e + 1)) (e + 4) 0 else M
theorem HpAt.refree (x : HpAt H A lim f M F) {g : Addr} {F' : List Int} (hg : H g = some (.list (F'.map .int))) : HpAt (H.set A.hd (.attrs (putF "free" (.ref g) [("memory", .ref A.m), ("start", .int 1024), ("limit", .int lim), ("free", .ref f)]))) A lim g M F' := by
  have h1 : A.m ≠ A.hd := fun e => by have := x.mem.m; rw [e, x.hd] at this; cases this
  have h2 : A.md ≠ A.hd := fun e => by
    have := x.mem.md; rw [e, x.hd] at this; simp at this
  have h3 : A.w ≠ A.hd := fun e => by have := x.mem.w; rw [e, x.hd] at this; cases this
  have h4 : A.h ≠ A.hd := fun e => by have := x.h; rw [e, x.hd] at this; cases this
  have h5 : g ≠ A.hd := fun e => by rw [e, x.hd] at hg; cases hg
  refine ⟨⟨by rw [AH.set_ne h1]; exact x.mem.m, by rw [AH.set_ne h2]; exact x.mem.md, by rw [AH.set_ne h3]; exact x.mem.w⟩, by rw [AH.set_ne h4]; exact x.h, ?_, by rw [AH.set_ne h5]; exact hg⟩
  rw [AH.set_self]
  rfl
/-- what compact needs of the marked words -/
structure CmpOk (recs : List Rec) (lim : Int) (bl : List Blk) (ws : List Int) (Mk : Int → Int) (ks : List Rec) : Prop where
  tk : Tiles Mk lim 1024 bl
  fk : bl.filter (keptB Mk) = ks.map rb
  t1 : Tiles (setT Mk 1024 (ks.map rb)) lim 1024 bl
  al : AltOk lim (setT Mk 1024 (ks.map rb)) ks
  sl : SlideOk (altR lim (setT Mk 1024 (ks.map rb)) ks) (ks.map rb)
  e0 : 1024 ≤ endT 1024 (ks.map rb) ∧ endT 1024 (ks.map rb) ≤ lim
  len : bl.length ≤ 800 ∧ ks.length ≤ 800
  rng : ∀ x ∈ bl, 0 ≤ x.b ∧ x.b + 4 < 4096
  off : ∀ r ∈ ks, r.offs.length ≤ 800 ∧ 0 ≤ r.a - 8 ∧ r.a < 4096
  inb : ∀ w ∈ ws, inH lim bl w ≠ 0 → 4 ≤ inH lim bl w ∧ inH lim bl w < 4096
theorem k_compact {recs : List Rec} {M0 : Int → Int} {G : Int → Prop} {bl : List Blk} {rt : Addr} {ws : List Int} (x : HpAt H A lim f M0 F) (hlim : lim ≤ 4000) (S : Sta recs M0 lim) (Gc : GClo recs M0 G) (h0 : ∀ r ∈ recs, rd M0 (r.a - 4) = 0)
    (T : ∀ M, Mkd recs M0 M G → Tiles M lim 1024 bl) (hrt : H rt = some (.list (ws.map .int))) (hlen : ws.length ≤ 800) (hws : ∀ w ∈ ws, inH lim bl w = 0 ∨ ∃ r ∈ recs, inH lim bl w = r.a ∧ G r.a)
    (q : ∀ Mk, Mkd recs M0 Mk G → (∀ k, 0 ≤ Mk k ∧ Mk k < 4294967296) → (∀ w ∈ ws, ∀ r ∈ recs, inH lim bl w = r.a → rd Mk (r.a - 4) ≠ 0) → ∃ ks, CmpOk recs lim bl ws Mk ks ∧
      ∀ H' D g, HpAt H' A lim g (fin4 lim (slideL (altR lim (setT Mk 1024 (ks.map rb)) ks) (ks.map rb)) (endT 1024 (ks.map rb))) (fl (endT 1024 (ks.map rb)) (lim - endT 1024 (ks.map rb))) → Keep [A.w, A.hd] H H' →
        H' D = some (.list ((ws.map (moved lim bl (setT Mk 1024 (ks.map rb)))).map .int)) → H D = none → Q (.ref D) H') :
    Call w (KK P) (n + 7) (.ref 194) [.ref A.h, .ref rt] H Q := by
  refine Call.goC (d_compact P) rfl fun n₀ c hfresh _ fn => ?_
  have hn := fn.names (ls := [("heap", .cell), ("roots", .local), ("kept", .local), ("end", .local), ("altered", .local), ("mark", .globalImplicit), ("kept_blocks", .globalImplicit), ("set_targets", .globalImplicit), ("alter_pointers", .globalImplicit), ("slide", .globalImplicit), ("LISTS", .globalImplicit)]) (by decide +kernel)
  have ok := fn.ok
  have hc := fn.comp
  have ecl : cellsFrom n₀ (fnScope (stAt 29)).names [] = [(Str.ofString "heap", n₀)] := by kernel_rfl
  have hnn : H n₀ = none := hfresh n₀ (Nat.le_refl _)
  rw [ecl] at fn ⊢
  have hcl : c.env.cells.lookup (Str.ofString "heap") = some n₀ := by rw [fn.cells]; rfl
  have eH : cellsH H (["heap", "roots"].zip ([.ref A.h, .ref rt] : List AV)) [(Str.ofString "heap", n₀)] = H.set n₀ (.cell (some (.ref A.h))) := by
    funext a
    unfold cellsH AH.set
    simp only [List.find?_cons, List.find?_nil]
    by_cases e : a = n₀
    · subst e; simp
    · have : (n₀ == a) = false := by simpa using fun q : n₀ = a => e q.symm
      simp [this, e]
  have eL : locsOf (fnScope (stAt 29)) (["heap", "roots"].zip ([.ref A.h, .ref rt] : List AV)) = [("roots", .ref rt)] := by
    show List.filter _ ([("heap", .ref A.h), ("roots", .ref rt)] : Loc) = _
    rw [List.filter_cons_of_neg (by show ¬ (((fnScope (stAt 29)).names.lookup (Str.ofString "heap") == some NameKind.local) = true); decide +kernel), List.filter_cons_of_pos (by show ((fnScope (stAt 29)).names.lookup (Str.ofString "roots") == some NameKind.local) = true; decide +kernel)]
    rfl
  rw [eH, eL]
  have x₀ : HpAt (H.set n₀ (.cell (some (.ref A.h)))) A lim f M0 F := x.new hnn
  have ap := x.apart hnn
  have hc₀ : (H.set n₀ (.cell (some (.ref A.h)))) n₀ = some (.cell (some (.ref A.h))) := AH.set_self ..
  have k₀ : Keep [] H (H.set n₀ (.cell (some (.ref A.h)))) := Keep.new hnn
  have hrt₀ := k₀.get (by simp) hrt
  have nw : n₀ ∉ [A.w] := by simpa using ap.2.2.1
  have rw_ : rt ∉ [A.w] := by simp; intro e; rw [e, x.mem.w] at hrt; cases hrt
  clear eH eL ecl
  generalize H.set n₀ (.cell (some (.ref A.h))) = H₀ at x₀ hc₀ k₀ hrt₀ ⊢
  refine Exs.cons (Ex.expr (Ev.callf ok (globOk _) hn (by rfl) (by rfl) (d_mark P).keep ?_) (inter ok))
  refine Ev.cellv ok hn (by rfl) hcl hc₀ ?_
  refine Ev.loc ‹_› ‹_› (by rfl) (by rfl) ?_
  refine k_mark x₀ S Gc h0 T hrt₀ hlen hws fun H₁ Mk v x₁ k₁ W hm => ⟨trivial, ?_⟩
  have hc₁ := k₁.get nw hc₀
  have hrt₁ := k₁.get rw_ hrt₀
  refine Exs.rng x₁.mem.w fun rk => ?_
  obtain ⟨ks, C, q⟩ := q Mk W rk hm
  obtain ⟨tk, fk, t1, al, sl, e0, len, rng, off, inb⟩ := C
  refine Exs.cons (Ex.set ok hn hc (by rfl) (Ev.callf ok (globOk _) hn (by rfl) (by rfl) (d_kept P).keep ?_))
  refine Ev.cellv ok hn (by rfl) hcl hc₁ ?_
  refine k_kept x₁ tk len.1 rng fun H₂ kt ts hkt k₂ hkt₂ pr => ?_
  rw [fk] at pr
  have x₂ := x₁.mono k₂
  have hc₂ := k₂.get (by simp) hc₁
  have hrt₂ := k₂.get (by simp) hrt₁
  have kw : kt ∉ [A.w] := by simp; intro e; rw [e, x₁.mem.w] at hkt; cases hkt
  refine Exs.cons (Ex.set ok hn hc (by rfl) (Ev.callf ok (globOk _) hn (by rfl) (by rfl) (d_targets P).keep ?_))
  refine Ev.cellv ok hn (by rfl) hcl hc₂ ?_
  refine Ev.loc ‹_› ‹_› (by rfl) (by rfl) ?_
  refine k_targets x₂ hkt₂ pr (by rw [List.length_map]; exact len.2) (fun y hy => by
    obtain ⟨r, hr, rfl⟩ := List.mem_map.mp hy
    have := off r hr
    show 0 ≤ r.a - 8 ∧ r.a - 8 + 4 < 4096; lia) fun H₃ x₃ k₃ => ?_
  have hc₃ := k₃.get nw hc₂
  have hrt₃ := k₃.get rw_ hrt₂
  have hkt₃ := k₃.get kw hkt₂
  have pr₃ := pr.mono (k₃.tup x₂.wnt)
  generalize hM1 : setT Mk 1024 (ks.map rb) = M₁ at *
  generalize hend : endT 1024 (ks.map rb) = ee at *
  refine Exs.weaken [("roots", .ref rt), ("kept", .ref kt), ("end", .int ee)] _ (by rfl) (fun _ _ e => e) ?_
  refine Exs.cons (Ex.comp (cl := [(Str.ofString "heap", n₀)]) fn hn (by rfl) ?hsw rfl ?hnames ?hclos ?_)
  case hsw =>
    unfold swapsWith Env.blockKind Env.kindOf
    rw [fn.scope]
    kernel_rfl
  case hnames => decide +kernel
  case hclos =>
    unfold closureFor cellOf
    rw [fn.cells]
    kernel_rfl
  refine Ev.loc ‹_› ‹_› (by rfl) (by rfl) ?_
  refine ⟨.list rt (ws.map .int), fun _ i H' ys => HpAt H' A lim f M₁ F ∧ Keep [] H₃ H' ∧ ys = (ws.take i).map fun w => .int (moved lim bl M₁ w), ⟨rfl, hrt₃, by rw [List.length_map]; lia⟩, by show (ws.map AV.int).length ≤ 900; rw [List.length_map]; omega, fun n hn' => ⟨x₃, Keep.refl, rfl⟩, ?_, ?_, ?_⟩
  · rintro _ i H₄ ys ⟨x₄, k₄, rfl⟩
    exact ⟨k₄.get (by simp) hrt₃, by rw [List.length_map, List.length_take]; lia⟩
  · rintro _ c fn' i v H₄ ys hi hv ⟨x₄, k₄, rfl⟩
    have hn := fn'.names (ls := [("word", .local), ("moved_word", .globalImplicit), ("heap", .cell)]) (by
      unfold relabel Env.kindOf
      rw [fn.scope]
      decide +kernel)
    have ok := fn'.ok
    have hcl : c.env.cells.lookup (Str.ofString "heap") = some n₀ := by rw [fn'.cells]; rfl
    obtain ⟨wd, hwd, rfl⟩ : ∃ wd, ws[i]? = some wd ∧ v = .int wd := by
      have hv : (ws.map AV.int)[i]? = some v := hv
      rw [List.getElem?_map] at hv
      cases e : ws[i]? with
      | none => rw [e] at hv; cases hv
      | some wd => rw [e] at hv; cases hv; exact ⟨wd, rfl, rfl⟩
    refine Asg.cname fn' hn (by rfl) ⟨(nomatch ·), fun _ => Ev.callf ok (globOk _) hn (by rfl) (by rfl) (d_moved P).keep ?_⟩
    refine Ev.cellv ok hn (by rfl) hcl (k₄.get (by simp) hc₃) ?_
    refine Ev.loc ‹_› ‹_› (by rfl) (by rfl) ?_
    refine k_moved x₄ t1 (inb wd (List.mem_of_getElem? hwd)) ⟨x₄, k₄, ?_⟩
    rw [List.take_add_one, hwd]
    simp [moved]
  rintro _ H₄ ys D ⟨x₄, k₄, eys⟩ hD
  have eys : ys = (ws.map (moved lim bl M₁)).map .int := by
    have : (Src.list rt (ws.map AV.int)).len = ws.length := by show (ws.map AV.int).length = _; rw [List.length_map]
    rw [eys, this, List.take_length, List.map_map]; rfl
  have x₅ := x₄.new (o := .list ys) hD
  have k₅ : Keep [] H₃ (H₄.set D (.list ys)) := k₄.trans (Keep.new hD)
  have hDl : (H₄.set D (.list ys)) D = some (.list ys) := AH.set_self ..
  have hD₃ : H₃ D = none := by
    cases q : H₃ D with
    | none => rfl
    | some o => rw [k₄.get (by simp) q] at hD; cases hD
  generalize H₄.set D (.list ys) = H₅ at x₅ k₅ hDl ⊢
  have hc₅ := k₅.get (by simp) hc₃
  have hkt₅ := k₅.get (by simp) hkt₃
  have pr₅ := pr₃.mono (k₅.tup (by intro a h; simp at h))
  have Dw : D ∉ [A.w] := by simp; intro e; rw [e, x₃.mem.w] at hD₃; cases hD₃
  refine Exs.cons (Ex.expr (Ev.callf ok (globOk _) hn (by rfl) (by rfl) (d_alter P).keep ?_) (inter ok))
  refine Ev.cellv ok hn (by rfl) hcl hc₅ ?_
  refine Ev.loc ‹_› ‹_› (by rfl) (by rfl) ?_
  refine k_alter x₅ hlim hkt₅ pr₅ len.2 al (fun r hr => (off r hr).1) fun H₆ x₆ k₆ => ⟨trivial, ?_⟩
  have hc₆ := k₆.get nw hc₅
  have hkt₆ := k₆.get kw hkt₅
  have hDl₆ := k₆.get Dw hDl
  have pr₆ := pr₅.mono (k₆.tup x₅.wnt)
  refine Exs.cons (Ex.expr (Ev.callf ok (globOk _) hn (by rfl) (by rfl) (d_slide P).keep ?_) (inter ok))
  refine Ev.cellv ok hn (by rfl) hcl hc₆ ?_
  refine Ev.loc ‹_› ‹_› (by rfl) (by rfl) ?_
  refine k_slide x₆ hkt₆ pr₆ (by rw [List.length_map]; exact len.2) sl fun H₇ x₇ k₇ => ⟨trivial, ?_⟩
  have hc₇ := k₇.get nw hc₆
  have hDl₇ := k₇.get Dw hDl₆
  generalize slideL (altR lim M₁ ks) (ks.map rb) = M₃ at x₇ q
  refine Exs.cons (Ex.setattr ok (Ev.mul1 (Ev.list ?_)))
  refine (?_ : Ev _ _ _ _ _ _)
  refine Ev.int ⟨by simp, fun u hu => ⟨u, rfl, ?_⟩⟩
  refine Ev.gi ‹_› (globOk _) ‹_› (by rfl) (by rfl) ?_
  refine ⟨.int 0, 4, rfl, by lia, AH.set_self .., fun g hg => ?_⟩
  have x₈ := (x₇.new (o := .list [.int 0]) hu).new (o := .list (List.replicate 4 (.int 0))) hg
  have hg7 : H₇ g = none := by
    unfold AH.set at hg
    split at hg
    · cases hg
    · exact hg
  have hgl : ((H₇.set u (.list [.int 0])).set g (.list (List.replicate 4 (.int 0)))) g = some (.list (([0, 0, 0, 0] : List Int).map .int)) := AH.set_self ..
  have k₈ : Keep [] H₇ ((H₇.set u (.list [.int 0])).set g (.list (List.replicate 4 (.int 0)))) := (Keep.new hu).trans (Keep.new hg)
  generalize (H₇.set u (.list [.int 0])).set g (.list (List.replicate 4 (.int 0))) = H₈ at x₈ hgl k₈ ⊢
  have hc₈ := k₈.get (by simp) hc₇
  have hDl₈ := k₈.get (by simp) hDl₇
  refine Ev.cellv ok hn (by rfl) hcl hc₈ ⟨A.h, 108, A.hd, _, rfl, x₈.h, x₈.hd, s_free P, by simp, ?_⟩
  have x₉ := x₈.refree hgl
  have nd : n₀ ∉ [A.hd] := by simpa using ap.2.2.2.2.1
  have Dd : D ∉ [A.hd] := by simp; intro e; rw [e, x₃.hd] at hD₃; cases hD₃
  have k₉ : Keep [A.hd] H₈ (H₈.set A.hd (.attrs (putF "free" (.ref g) [("memory", .ref A.m), ("start", .int 1024), ("limit", .int lim), ("free", .ref f)]))) := Keep.set (by simp)
  generalize H₈.set A.hd _ = H₉ at x₉ k₉ ⊢
  have hc₉ := k₉.get nd hc₈
  have hDl₉ := k₉.get Dd hDl₈
  have kall : Keep [A.w, A.hd] H H₉ := by
    refine Keep.trans (H' := H₈) ?_ (k₉.mono (by simp))
    refine Keep.mono (S := [A.w]) ?_ (by simp)
    exact (((((((k₀.mono (by simp)).trans k₁).trans (k₂.mono (by simp))).trans k₃).trans (k₅.mono (by simp))).trans k₆).trans k₇).trans (k₈.mono (by simp))
  have hDH : H D = none := by
    cases q : H D with
    | none => rfl
    | some o =>
      have := ((((k₀.mono (S' := [A.w]) (by simp)).trans k₁).trans (k₂.mono (by simp))).trans k₃).get Dw q
      rw [hD₃] at this; cases this
  refine Exs.cons (Ex.ifs (Tr.cmp ?_))
  refine Ev.loc ‹_› ‹_› (by rfl) (by rfl) ?_
  refine Ev.limit ok (Ev.cellv ok hn (by rfl) hcl hc₉ ⟨A, lim, g, _, _, rfl, x₉, ?_⟩)
  rw [eys] at hDl₉
  unfold fin4 at q
  refine ⟨fun h => ?_, fun h => Exs.nil (Exs.cons (Ex.ret ?_))⟩
  · have h : ee < lim := by simpa using h
    rw [if_pos h] at q
    refine Exs.cons (Ex.expr (Ev.hmeth ok (m_put_free P) (by simp) (Ev.cellv ok hn (by rfl) hcl hc₉ ⟨A, lim, g, _, _, rfl, x₉, ?_⟩)) (inter ok))
    refine Ev.loc ‹_› ‹_› (by rfl) (by rfl) ?_
    refine (?_ : Ev _ _ _ _ _ _)
    refine Ev.bin (Ev.limit ok (Ev.cellv ok hn (by rfl) hcl hc₉ ⟨A, lim, g, _, _, rfl, x₉, ?_⟩))
    refine Ev.loc ‹_› ‹_› (by rfl) (by rfl) ?_
    refine k_put_free x₉ rfl (by lia) (by lia) fun H₁₀ x₁₀ k₁₀ => ⟨trivial, Exs.nil (Exs.cons (Ex.ret ?_))⟩
    refine Ev.loc ‹_› ‹_› (by rfl) (by rfl) ?_
    have ez : ∀ k < 4, ([0, 0, 0, 0] : List Int).getD k 0 = 0 := by decide
    have hl := ln_lo (lim - ee)
    have efl : ([0, 0, 0, 0] : List Int).set (ln (lim - ee)).toNat ee = fl ee (lim - ee) := by unfold fl; rw [if_neg (by (clear x hlim S Gc h0 T hrt hlen hws hfresh fn hn ok hc hnn hcl ap nw rw_ x₀ hc₀ k₀ hrt₀ x₁ k₁ W hm hc₁ hrt₁ rk tk fk len rng off inb hkt k₂ hkt₂ pr x₂ hc₂ hrt₂ kw k₃ hc₃ hrt₃ hkt₃ pr₃ hM1 t1 al sl x₃ hend e0 x₄ k₄ hD eys hD₃ x₅ k₅ hDl hc₅ hkt₅ pr₅ Dw x₆ k₆ hc₆ hkt₆ hDl₆ pr₆ k₇ hc₇ hDl₇ x₇ q hu hg hg7 x₈ hgl k₈ hc₈ hDl₈ nd Dd x₉ k₉ hc₉ hDl₉ kall hDH h x₁₀ k₁₀ ez hl; lia))]
    rw [ez _ (by (clear x hlim S Gc h0 T hrt hlen hws hfresh fn hn ok hc hnn hcl ap nw rw_ x₀ hc₀ k₀ hrt₀ x₁ k₁ W hm hc₁ hrt₁ rk tk fk len rng off inb hkt k₂ hkt₂ pr x₂ hc₂ hrt₂ kw k₃ hc₃ hrt₃ hkt₃ pr₃ hM1 t1 al sl x₃ hend e0 x₄ k₄ hD eys hD₃ x₅ k₅ hDl hc₅ hkt₅ pr₅ Dw x₆ k₆ hc₆ hkt₆ hDl₆ pr₆ k₇ hc₇ hDl₇ x₇ q hu hg hg7 x₈ hgl k₈ hc₈ hDl₈ nd Dd x₉ k₉ hc₉ hDl₉ kall hDH h x₁₀ k₁₀ ez efl; omega)), efl] at x₁₀
    have hgH : H g = none := by
      cases q : H g with
      | none => rfl
      | some o =>
        have gw : g ∉ [A.w] := by simp; intro e; rw [e, x₇.mem.w] at hg7; cases hg7
        have := ((((((k₀.mono (S' := [A.w]) (by simp)).trans k₁).trans (k₂.mono (by simp))).trans k₃).trans (k₅.mono (by simp))).trans k₆).trans k₇ |>.get gw q
        rw [hg7] at this; cases this
    refine q _ D g x₁₀ ?_ ?_ hDH
    · intro b hb o hbo
      refine k₁₀ b ?_ o (kall b hb o hbo)
      intro h'
      simp only [List.mem_cons, List.not_mem_nil, or_false] at h' hb
      rcases h' with rfl | rfl
      · exact hb (.inl rfl)
      · rw [hgH] at hbo; cases hbo
    · refine k₁₀.get ?_ hDl₉
      simp only [List.mem_cons, List.not_mem_nil, or_false, not_or]
      refine ⟨by simpa using Dw, fun e => ?_⟩
      rw [e, hg7] at hDl₇; cases hDl₇
  · have h : ¬ ee < lim := by simpa using h
    rw [if_neg h] at q
    refine Ev.loc ‹_› ‹_› (by rfl) (by rfl) ?_
    have efl : ([0, 0, 0, 0] : List Int) = fl ee (lim - ee) := by unfold fl; rw [if_pos (by (clear x hlim S Gc h0 T hrt hlen hws hfresh fn hn ok hc hnn hcl ap nw rw_ x₀ hc₀ k₀ hrt₀ x₁ k₁ W hm hc₁ hrt₁ rk tk fk len rng off inb hkt k₂ hkt₂ pr x₂ hc₂ hrt₂ kw k₃ hc₃ hrt₃ hkt₃ pr₃ hM1 t1 al sl x₃ hend e0 x₄ k₄ hD eys hD₃ x₅ k₅ hDl hc₅ hkt₅ pr₅ Dw x₆ k₆ hc₆ hkt₆ hDl₆ pr₆ k₇ hc₇ hDl₇ x₇ q hu hg hg7 x₈ hgl k₈ hc₈ hDl₈ nd Dd x₉ k₉ hc₉ hDl₉ kall hDH h; lia))]
    rw [efl] at x₉
    exact q _ D g x₉ kall hDl₉ hDH
end


section
variable {P : Params} {w : World} {c : Cx} {l l' : Loc} {H H' : AH} {s s' : Shared} {lvl n : Nat} {Q : AV → AH → Prop} {A : Ad} {M : Int → Int} {F : List Int} {f : Addr} {lim : Int} {o e e₁ e₂ : PySem.Expr} {ap p p' : Pos} {N : Loc → AH → Prop} {R : AV → AH → Prop}
theorem s_size (P : Params) : SetOk (KK P) 278 "size" := ⟨by kernel_rfl, by kernel_rfl, by kernel_rfl, by kernel_rfl⟩
theorem s_words (P : Params) : SetOk (KK P) 278 "words" := ⟨by kernel_rfl, by kernel_rfl, by kernel_rfl, by kernel_rfl⟩
theorem s_memory (P : Params) : SetOk (KK P) 108 "memory" := ⟨by kernel_rfl, by kernel_rfl, by kernel_rfl, by kernel_rfl⟩
theorem s_start (P : Params) : SetOk (KK P) 108 "start" := ⟨by kernel_rfl, by kernel_rfl, by kernel_rfl, by kernel_rfl⟩
theorem s_limit (P : Params) : SetOk (KK P) 108 "limit" := ⟨by kernel_rfl, by kernel_rfl, by kernel_rfl, by kernel_rfl⟩
theorem new_Memory (P : Params) : NewOk (KK P) 278 240 := ⟨by kernel_rfl, by kernel_rfl, by kernel_rfl, by kernel_rfl⟩
theorem new_Heap (P : Params) : NewOk (KK P) 108 49 := ⟨by kernel_rfl, by kernel_rfl, by kernel_rfl, by kernel_rfl⟩
theorem d_meminit (P : Params) : DefAt P (meAt 35 0) 240 239 "Memory.__init__" (.str "moduleyard.memory" 529) ["self", "size"] := by (refine ⟨by kernel_rfl, by kernel_rfl, by kernel_rfl, by decide +kernel, by decide, ?_⟩; refine len2 fun a b => ?_; kernel_rfl)
theorem d_heapinit (P : Params) : DefAt P (meAt 7 0) 49 48 "Heap.__init__" (.str "moduleyard.heap" 194) ["self", "memory", "start", "limit"] := by (refine ⟨by kernel_rfl, by kernel_rfl, by kernel_rfl, by decide +kernel, by decide, ?_⟩; refine len4 fun a b c d => ?_; kernel_rfl)
theorem k_Memory (q : ∀ H' x dx wd, (∀ h hd, MemAt H' ⟨x, dx, wd, h, hd⟩ (fun _ => 0)) → Keep [] H H' → Q (.ref x) H') : Call w (KK P) (n + 3) (.ref 278) [.int 4096] H Q := by
  refine callNew (new_Memory P) fun x dx hx hdx ne => ?_
  refine Call.goCode (d_meminit P) rfl fun c fn => ?_
  have hn := fn.names (ls := [("self", .local), ("size", .local)]) (by decide +kernel)
  have ok := fn.ok
  have hc := fn.comp
  simp only [List.zip_cons_cons, List.zip_nil_right]
  have k0 : Keep [dx, x] H ((H.set dx (.attrs [])).set x (.inst 278 dx)) := (Keep.set (by simp)).trans (Keep.set (by simp))
  have hx0 : ((H.set dx (.attrs [])).set x (.inst 278 dx)) x = some (.inst 278 dx) := AH.set_self ..
  have hd0 : ((H.set dx (.attrs [])).set x (.inst 278 dx)) dx = some (.attrs []) := by rw [AH.set_ne ne.symm, AH.set_self]
  generalize (H.set dx (.attrs [])).set x (.inst 278 dx) = H0 at k0 hx0 hd0 ⊢
  refine Exs.cons (Ex.setattr ok ?_)
  refine Ev.loc ‹_› ‹_› (by rfl) (by rfl) ?_
  refine Ev.loc ‹_› ‹_› (by rfl) (by rfl) ?_
  refine ⟨x, 278, dx, _, rfl, hx0, hd0, s_size P, by simp, ?_⟩
  have k1 : Keep [dx, x] H (H0.set dx (.attrs (putF "size" (.int 4096) []))) := k0.trans (Keep.set (by simp))
  have hx1 : (H0.set dx (.attrs (putF "size" (.int 4096) []))) x = some (.inst 278 dx) := by rw [AH.set_ne ne]; exact hx0
  have hd1 : (H0.set dx (.attrs (putF "size" (.int 4096) []))) dx = some (.attrs [("size", .int 4096)]) := AH.set_self ..
  generalize (H0.set dx (.attrs (putF "size" (.int 4096) []))) = H1 at k1 hx1 hd1 ⊢
  refine Exs.cons (Ex.setattr ok (Ev.words fun wd hwd => ?_))
  have nx : wd ≠ x := fun e => by rw [e, hx1] at hwd; cases hwd
  have nd : wd ≠ dx := fun e => by rw [e, hd1] at hwd; cases hwd
  refine Ev.loc ‹_› ‹_› (by rfl) (by rfl) ?_
  refine ⟨x, 278, dx, [("size", .int 4096)], rfl, by rw [AH.set_ne nx.symm]; exact hx1, by rw [AH.set_ne nd.symm]; exact hd1, s_words P, by simp, Exs.nil ⟨trivial, ?_⟩⟩
  refine q _ x dx wd (fun h hd => ⟨?_, ?_, ?_⟩) ?_
  · show AH.set _ dx _ x = _
    rw [AH.set_ne ne, AH.set_ne nx.symm]; exact hx1
  · show AH.set _ dx _ dx = _
    rw [AH.set_self]; rfl
  · show AH.set _ dx _ wd = _
    rw [AH.set_ne nd, AH.set_self]
  · intro b hb o hbo
    have hbx : b ≠ x := fun e => by rw [e, hx] at hbo; cases hbo
    have hbd : b ≠ dx := fun e => by rw [e, hdx] at hbo; cases hbo
    have h1 := k1.get (by simp; exact ⟨hbd, hbx⟩) hbo
    have hbw : b ≠ wd := fun e => by rw [e, hwd] at h1; cases h1
    rw [AH.set_ne hbd, AH.set_ne hbw]; exact h1
theorem k_Heap {m md wd : Addr} (hm : ∀ h hd, MemAt H ⟨m, md, wd, h, hd⟩ M) (hlim : 1024 < lim ∧ lim ≤ 4000)
    (q : ∀ H' h hd f, HpAt H' ⟨m, md, wd, h, hd⟩ lim f (wr (wr M 1024 (lim - 1024 + 1)) (1024 + 4) 0) (fl 1024 (lim - 1024)) → Keep [wd] H H' → H f = none → Q (.ref h) H') : Call w (KK P) (n + 5) (.ref 108) [.ref m, .int 1024, .int lim] H Q := by
  refine callNew (new_Heap P) fun x dx hx hdx ne => ?_
  refine Call.goCode (d_heapinit P) rfl fun c fn => ?_
  have hn := fn.names (ls := [("self", .local), ("memory", .local), ("start", .local), ("limit", .local), ("LISTS", .globalImplicit)]) (by decide +kernel)
  have ok := fn.ok
  have hc := fn.comp
  simp only [List.zip_cons_cons, List.zip_nil_right]
  have k0 : Keep [dx, x] H ((H.set dx (.attrs [])).set x (.inst 108 dx)) := (Keep.set (by simp)).trans (Keep.set (by simp))
  have hx0 : ((H.set dx (.attrs [])).set x (.inst 108 dx)) x = some (.inst 108 dx) := AH.set_self ..
  have hd0 : ((H.set dx (.attrs [])).set x (.inst 108 dx)) dx = some (.attrs []) := by rw [AH.set_ne ne.symm, AH.set_self]
  generalize (H.set dx (.attrs [])).set x (.inst 108 dx) = H0 at k0 hx0 hd0 ⊢
  refine Exs.cons (Ex.setattr ok ?_)
  refine Ev.loc ‹_› ‹_› (by rfl) (by rfl) ?_
  refine Ev.loc ‹_› ‹_› (by rfl) (by rfl) ?_
  refine ⟨x, 108, dx, _, rfl, hx0, hd0, s_memory P, by simp, ?_⟩
  have k1 : Keep [dx, x] H (H0.set dx (.attrs (putF "memory" (.ref m) []))) := k0.trans (Keep.set (by simp))
  have hx1 : (H0.set dx (.attrs (putF "memory" (.ref m) []))) x = some (.inst 108 dx) := by rw [AH.set_ne ne]; exact hx0
  have hd1 : (H0.set dx (.attrs (putF "memory" (.ref m) []))) dx = some (.attrs [("memory", .ref m)]) := AH.set_self ..
  generalize (H0.set dx (.attrs (putF "memory" (.ref m) []))) = H1 at k1 hx1 hd1 ⊢
  refine Exs.cons (Ex.setattr ok ?_)
  refine Ev.loc ‹_› ‹_› (by rfl) (by rfl) ?_
  refine Ev.loc ‹_› ‹_› (by rfl) (by rfl) ?_
  refine ⟨x, 108, dx, _, rfl, hx1, hd1, s_start P, by simp, ?_⟩
  have k2 : Keep [dx, x] H (H1.set dx (.attrs (putF "start" (.int 1024) [("memory", .ref m)]))) := k1.trans (Keep.set (by simp))
  have hx2 : (H1.set dx (.attrs (putF "start" (.int 1024) [("memory", .ref m)]))) x = some (.inst 108 dx) := by rw [AH.set_ne ne]; exact hx1
  have hd2 : (H1.set dx (.attrs (putF "start" (.int 1024) [("memory", .ref m)]))) dx = some (.attrs [("memory", .ref m), ("start", .int 1024)]) := AH.set_self ..
  generalize (H1.set dx (.attrs (putF "start" (.int 1024) [("memory", .ref m)]))) = H2 at k2 hx2 hd2 ⊢
  refine Exs.cons (Ex.setattr ok ?_)
  refine Ev.loc ‹_› ‹_› (by rfl) (by rfl) ?_
  refine Ev.loc ‹_› ‹_› (by rfl) (by rfl) ?_
  refine ⟨x, 108, dx, _, rfl, hx2, hd2, s_limit P, by simp, ?_⟩
  have k3 : Keep [dx, x] H (H2.set dx (.attrs (putF "limit" (.int lim) [("memory", .ref m), ("start", .int 1024)]))) := k2.trans (Keep.set (by simp))
  have hx3 : (H2.set dx (.attrs (putF "limit" (.int lim) [("memory", .ref m), ("start", .int 1024)]))) x = some (.inst 108 dx) := by rw [AH.set_ne ne]; exact hx2
  have hd3 : (H2.set dx (.attrs (putF "limit" (.int lim) [("memory", .ref m), ("start", .int 1024)]))) dx = some (.attrs [("memory", .ref m), ("start", .int 1024), ("limit", .int lim)]) := AH.set_self ..
  generalize (H2.set dx (.attrs (putF "limit" (.int lim) [("memory", .ref m), ("start", .int 1024)]))) = H3 at k3 hx3 hd3 ⊢
  refine Exs.cons (Ex.setattr ok (Ev.mul1 (Ev.list ?_)))
  refine (?_ : Ev _ _ _ _ _ _)
  refine Ev.int ⟨by simp, fun u hu => ⟨u, rfl, ?_⟩⟩
  refine Ev.gi ‹_› (globOk _) ‹_› (by rfl) (by rfl) ?_
  refine ⟨.int 0, 4, rfl, by lia, AH.set_self .., fun g hg => ?_⟩
  have hu' := hu
  have hg' : H3 g = none := by
    unfold AH.set at hg
    split at hg
    · cases hg
    · exact hg
  have ux : u ≠ x := fun e => by rw [e, hx3] at hu; cases hu
  have ud : u ≠ dx := fun e => by rw [e, hd3] at hu; cases hu
  have gx : g ≠ x := fun e => by rw [e, hx3] at hg'; cases hg'
  have gd : g ≠ dx := fun e => by rw [e, hd3] at hg'; cases hg'
  have hx4 : ((H3.set u (.list [.int 0])).set g (.list (List.replicate 4 (.int 0)))) x = some (.inst 108 dx) := by rw [AH.set_ne gx.symm, AH.set_ne ux.symm]; exact hx3
  have hd4 : ((H3.set u (.list [.int 0])).set g (.list (List.replicate 4 (.int 0)))) dx = some (.attrs [("memory", .ref m), ("start", .int 1024), ("limit", .int lim)]) := by rw [AH.set_ne gd.symm, AH.set_ne ud.symm]; exact hd3
  refine Ev.loc ‹_› ‹_› (by rfl) (by rfl) ?_
  refine ⟨x, 108, dx, _, rfl, hx4, hd4, s_free P, by simp, ?_⟩
  have hall : Keep [] H (((H3.set u (.list [.int 0])).set g (.list (List.replicate 4 (.int 0)))).set dx (.attrs (putF "free" (.ref g) [("memory", .ref m), ("start", .int 1024), ("limit", .int lim)]))) := by
    intro b hb o hbo
    have hbx : b ≠ x := fun e => by rw [e, hx] at hbo; cases hbo
    have hbd : b ≠ dx := fun e => by rw [e, hdx] at hbo; cases hbo
    have h1 := k3.get (by simp; exact ⟨hbd, hbx⟩) hbo
    have hbu : b ≠ u := fun e => by rw [e, hu] at h1; cases h1
    have hbg : b ≠ g := fun e => by rw [e, hg'] at h1; cases h1
    rw [AH.set_ne hbd, AH.set_ne hbg, AH.set_ne hbu]; exact h1
  have hgH : H g = none := by
    cases q : H g with
    | none => rfl
    | some o =>
      have hbx : g ≠ x := gx
      have h1 := k3.get (by simp; exact ⟨gd, gx⟩) q
      rw [hg'] at h1; cases h1
  have x5 : HpAt (((H3.set u (.list [.int 0])).set g (.list (List.replicate 4 (.int 0)))).set dx (.attrs (putF "free" (.ref g) [("memory", .ref m), ("start", .int 1024), ("limit", .int lim)]))) ⟨m, md, wd, x, dx⟩ lim g M [0, 0, 0, 0] := by
    refine ⟨(hm x dx).mono hall, ?_, ?_, ?_⟩
    · show AH.set _ dx _ x = _
      rw [AH.set_ne ne]; exact hx4
    · exact AH.set_self ..
    · rw [AH.set_ne gd, AH.set_self]; rfl
  generalize ((H3.set u (.list [.int 0])).set g (.list (List.replicate 4 (.int 0)))).set dx (.attrs (putF "free" (.ref g) [("memory", .ref m), ("start", .int 1024), ("limit", .int lim)])) = H5 at hall x5 ⊢
  refine Exs.cons (Ex.ifs (Tr.cmp ?_))
  refine Ev.loc ‹_› ‹_› (by rfl) (by rfl) ?_
  refine Ev.loc ‹_› ‹_› (by rfl) (by rfl) ?_
  refine ⟨fun _ => ?_, fun h => by have := of_decide_eq_false h; lia⟩
  refine Exs.cons (Ex.expr (Ev.hmeth ok (m_put_free P) (by simp) ?_) (inter ok))
  refine Ev.loc ‹_› ‹_› (by rfl) (by rfl) ?_
  refine ⟨_, lim, g, M, _, rfl, x5, ?_⟩
  refine Ev.loc ‹_› ‹_› (by rfl) (by rfl) ?_
  refine (?_ : Ev _ _ _ _ _ _)
  refine Ev.bin ?_
  refine Ev.loc ‹_› ‹_› (by rfl) (by rfl) ?_
  refine Ev.loc ‹_› ‹_› (by rfl) (by rfl) ?_
  refine k_put_free x5 rfl (by lia) (by lia) fun H6 x6 k6 => ⟨trivial, Exs.nil (Exs.nil ⟨trivial, ?_⟩)⟩
  have ez : ∀ k < 4, ([0, 0, 0, 0] : List Int).getD k 0 = 0 := by decide
  have hl := ln_lo (lim - 1024)
  have efl : ([0, 0, 0, 0] : List Int).set (ln (lim - 1024)).toNat 1024 = fl 1024 (lim - 1024) := by unfold fl; rw [if_neg (by (clear hm hlim q hx hdx ne fn hn ok hc k0 hx0 hd0 k1 hx1 hd1 k2 hx2 hd2 k3 hx3 hd3 hu hg hu' hg' ux ud gx gd hx4 hd4 hgH hall x5 x6 k6 ez hl; lia))]
  rw [ez _ (by omega), efl] at x6
  refine q _ x dx g x6 ?_ hgH
  intro b hb o hbo
  have hbg : b ≠ g := fun e => by rw [e, hgH] at hbo; cases hbo
  exact k6.get (by simp at hb ⊢; exact ⟨hb, hbg⟩) (hall.get (by simp) hbo)
end


section
variable {P : Params} {w : World} {c : Cx} {l l' : Loc} {H H' : AH} {s s' : Shared} {lvl n : Nat} {Q : AV → AH → Prop} {A : Ad} {M : Int → Int} {F : List Int} {f : Addr} {lim : Int} {o e e₁ e₂ : PySem.Expr} {ap p p' : Pos} {N : Loc → AH → Prop} {R : AV → AH → Prop}
theorem d_row (P : Params) : DefAt P (stAt 37) 289 288 "_law_row" (.str "law_nu0334_01" 605) ["script"] := by (refine ⟨by kernel_rfl, by kernel_rfl, by kernel_rfl, by decide +kernel, by decide, ?_⟩; refine len1 fun a => ?_; kernel_rfl)
theorem d_next (P : Params) : DefAt P (stAt 38) 296 295 "_law_next" (.str "law_nu0334_01" 605) ["row"] := by (refine ⟨by kernel_rfl, by kernel_rfl, by kernel_rfl, by decide +kernel, by decide, ?_⟩; refine len1 fun a => ?_; kernel_rfl)
theorem d_wide (P : Params) : DefAt P (stAt 40) 308 307 "_law_wide" (.str "law_nu0334_01" 605) ["kind"] := by (refine ⟨by kernel_rfl, by kernel_rfl, by kernel_rfl, by decide +kernel, by decide, ?_⟩; refine len1 fun a => ?_; kernel_rfl)
theorem Keep.none {S : List Addr} {a : Addr} (k : Keep S H H') (h : H' a = Option.none) (ha : a ∉ S) : H a = Option.none := by
  cases q : H a with
  | none => rfl
  | some o => rw [k.get ha q] at h; cases h
/-- a list of one's own is turned -/
theorem Keep.own {H₀ : AH} {S : List Addr} {a : Addr} {o : AO} (k : Keep S H₀ H) (h : H₀ a = Option.none) : Keep S H₀ (H.set a o) := fun b hb o' e => by
  rw [AH.set_ne (fun q => by rw [q, h] at e; cases e)]; exact k b hb o' e
theorem k_row {sc : Addr} {ns : List Int} (hsc : SeesL H sc (ns.map .int)) (hlen : ns.length ≤ 63)
    (q : ∀ H' D (ms : List Int), ms.length ≤ 160 → H' D = some (.list (ms.map .int)) → H D = none → Keep [] H H' → Q (.ref D) H') : Call w (KK P) (n + 1) (.ref 289) [.ref sc] H Q := by
  refine Call.go (d_row P) rfl fun c fn => ?_
  have hn := fn.names (ls := [("script", .local), ("row", .local), ("cell", .local), ("figure", .local), ("lap", .local), ("range", .globalImplicit)]) (by decide +kernel)
  have ok := fn.ok
  have hc := fn.comp
  simp only [List.zip_cons_cons, List.zip_nil_right]
  refine Exs.cons (Ex.set ok hn hc (by rfl) (Ev.list ⟨by simp, fun r hr => ?_⟩))
  have k0 : Keep [] H (H.set r (.list [])) := Keep.new hr
  have hr0 : (H.set r (.list [])) r = some (.list (([] : List Int).map .int)) := AH.set_self ..
  have hsc0 := hsc.keep fun b o => k0.get (by simp)
  generalize H.set r (.list []) = H0 at k0 hr0 hsc0 ⊢
  refine Exs.weaken [("script", .ref sc), ("row", .ref r)] H0 (by rfl) (fun _ _ e => e) ?_
  refine Exs.cons (Ex.for_ fn (Ev.slice ?_))
  refine Ev.loc ‹_› ‹_› (by rfl) (by rfl) ?_
  refine Ev.int ⟨sc, _, 40, rfl, rfl, hsc0, by rw [List.length_map]; lia, fun D hD => ?_⟩
  have k1 : Keep [] H (H0.set D (.list ((ns.map AV.int).take 40))) := k0.trans (Keep.new hD)
  have hr1 := (Keep.new (S := []) (o := .list ((ns.map AV.int).take 40)) hD).get (by simp) hr0
  have hD1 : (H0.set D (.list ((ns.map AV.int).take 40))) D = some (.list ((ns.take 40).map .int)) := by rw [AH.set_self, List.map_take]
  have hDH : H D = none := k0.none hD (by simp)
  have Dr : D ≠ r := fun e => by rw [e, hr0] at hD; cases hD
  generalize H0.set D (.list ((ns.map AV.int).take 40)) = H1 at k1 hr1 hD1 ⊢
  refine ⟨.list D ((ns.take 40).map .int), fun i l' H' => l' = [("script", .ref sc), ("row", .ref r)] ∧ Keep [] H H' ∧ H' D = some (.list ((ns.take 40).map .int)) ∧ ∃ ms : List Int, ms.length ≤ 31 * i ∧ H' r = some (.list (ms.map .int)), ⟨rfl, hD1, by rw [List.length_map, List.length_take]; lia⟩, ⟨rfl, k1, hD1, [], by simp, hr1⟩, fun i l H h => h.2.2.1, ?_, ?_⟩
  · rintro c NN fn i v l H2 hi hv hN ⟨rfl, k2, hD2, ms, hms, hr2⟩
    have hn := fn.names (ls := [("script", .local), ("row", .local), ("cell", .local), ("figure", .local), ("lap", .local), ("range", .globalImplicit)]) (by decide +kernel)
    have ok := fn.ok
    have hc := fn.comp
    have hi' : i < 40 := by
      have : i < ((ns.take 40).map AV.int).length := hi
      rw [List.length_map, List.length_take] at this; lia
    obtain ⟨cv, rfl⟩ : ∃ cv, v = .int cv := by
      have hv : ((ns.take 40).map AV.int)[i]? = some v := hv
      rw [List.getElem?_map] at hv
      cases e : (ns.take 40)[i]? with
      | none => rw [e] at hv; cases hv
      | some x => rw [e] at hv; cases hv; exact ⟨x, rfl⟩
    refine Asg.name ok hc hn (by rfl) ?_
    have first : ∀ fg : Int, Exs w c ((fnBody (stAt 37))[1]! |> fun | .For _ _ b _ _ => b.drop 1 | _ => []) (Loc.put "figure" (.int fg) (Loc.put "cell" (.int cv) [("script", .ref sc), ("row", .ref r)])) H2 NN Q := by
      intro fg
      refine Exs.cons (Ex.expr (Ev.append ?_) (inter ok))
      refine Ev.loc ‹_› ‹_› (by rfl) (by rfl) ?_
      refine ⟨r, _, rfl, hr2, Ev.bin ?_⟩
      refine Ev.loc ‹_› ‹_› (by rfl) (by rfl) ?_
      refine Ev.int ⟨by decide, _, hr2, by rw [List.length_map]; lia, trivial, ?_⟩
      have k3 : Keep [] H (H2.set r (.list (ms.map AV.int ++ [.int (fg % 1024)]))) := k2.own hr
      have hr3 : (H2.set r (.list (ms.map AV.int ++ [.int (fg % 1024)]))) r = some (.list ((ms ++ [fg % 1024]).map .int)) := by rw [AH.set_self]; simp
      have hD3 : (H2.set r (.list (ms.map AV.int ++ [.int (fg % 1024)]))) D = some (.list ((ns.take 40).map .int)) := by rw [AH.set_ne Dr]; exact hD2
      have hm3 : (ms ++ [fg % 1024]).length ≤ 31 * i + 1 := by simp; lia
      generalize (H2.set r (.list (ms.map AV.int ++ [.int (fg % 1024)]))) = H3 at k3 hr3 hD3 ⊢
      generalize ms ++ [fg % 1024] = ms3 at hr3 hm3
      refine Exs.cons (Ex.set ok hn hc (by rfl) (Ev.bin ?_))
      refine Ev.loc ‹_› ‹_› (by rfl) (by rfl) ?_
      refine Ev.int ⟨by decide, ?_⟩
      refine Exs.weaken [("script", .ref sc), ("row", .ref r), ("figure", .int (fg / 1024))] H3 (by rfl) (fun _ _ e => e) ?_
      refine Exs.cons (Ex.for_ fn (Ev.range1 (by exact Bi.of ‹_› (globOk _) ‹_› (by rfl) (by rfl)) ?_))
      refine Ev.int ⟨30, rfl, fun rg hrg => ⟨.range 0 1 30, fun j l' H' => ∃ g, l' = [("script", .ref sc), ("row", .ref r), ("figure", .int g)] ∧ Keep [] H H' ∧ H' D = some (.list ((ns.take 40).map .int)) ∧ ∃ ms : List Int, ms.length ≤ 31 * i + 1 + j ∧ H' r = some (.list (ms.map .int)), from_1 (y := 30) (AH.set_self ..) (by lia) (by lia) (by lia), ?_, fun _ _ _ _ => trivial, ?_, ?_⟩⟩
      · exact ⟨_, rfl, k3.trans (Keep.new hrg), (Keep.new (S := []) hrg).get (by simp) hD3, ms3, by lia, (Keep.new (S := []) hrg).get (by simp) hr3⟩
      · rintro c NN fn j v l H4 hj hv hN ⟨g, rfl, k4, hD4, ms4, hm4, hr4⟩
        have hn := fn.names (ls := [("script", .local), ("row", .local), ("cell", .local), ("figure", .local), ("lap", .local), ("range", .globalImplicit)]) (by decide +kernel)
        have ok := fn.ok
        have hc := fn.comp
        have hj' : j < 30 := hj
        cases hv
        refine Asg.name ok hc hn (by rfl) ?_
        refine Exs.cons (Ex.ifs (Tr.cmp ?_))
        refine Ev.loc ‹_› ‹_› (by rfl) (by rfl) ?_
        refine Ev.int ⟨fun _ => ?_, fun _ => Exs.nil (Exs.nil (hN _ (by rfl) ⟨g, rfl, k4, hD4, ms4, by lia, hr4⟩))⟩
        refine Exs.cons (Ex.expr (Ev.append ?_) (inter ok))
        refine Ev.loc ‹_› ‹_› (by rfl) (by rfl) ?_
        refine ⟨r, _, rfl, hr4, Ev.bin ?_⟩
        refine Ev.loc ‹_› ‹_› (by rfl) (by rfl) ?_
        refine Ev.int ⟨by decide, _, hr4, by rw [List.length_map]; lia, trivial, ?_⟩
        refine Exs.cons (Ex.set ok hn hc (by rfl) (Ev.bin ?_))
        refine Ev.loc ‹_› ‹_› (by rfl) (by rfl) ?_
        refine Ev.int ⟨by decide, Exs.nil (Exs.nil (hN [("script", .ref sc), ("row", .ref r), ("figure", .int (g / 1024))] (by rfl) ⟨_, rfl, k4.own hr, by rw [AH.set_ne Dr]; exact hD4, ms4 ++ [g % 1024], by simp; lia, by rw [AH.set_self]; simp⟩))⟩
      · rintro l H4 ⟨g, rfl, k4, hD4, ms4, hm4, hr4⟩
        have hm4 : ms4.length ≤ 31 * i + 1 + 30 := hm4
        exact Exs.nil (hN _ (by rfl) ⟨rfl, k4, hD4, ms4, by lia, hr4⟩)
    refine Exs.cons (Ex.set ok hn hc (by rfl) (Ev.ifexp (Tr.cmp ?_)))
    refine Ev.loc ‹_› ‹_› (by rfl) (by rfl) ?_
    refine Ev.int ⟨fun _ => ?_, fun _ => Ev.bin (Ev.int ?_)⟩
    · refine Ev.loc ‹_› ‹_› (by rfl) (by rfl) ?_
      exact first _
    · refine Ev.loc ‹_› ‹_› (by rfl) (by rfl) ?_
      exact first _
  · rintro l H2 ⟨rfl, k2, hD2, ms, hms, hr2⟩
    have hms : ms.length ≤ 31 * ((ns.take 40).map AV.int).length := hms
    rw [List.length_map, List.length_take] at hms
    refine Exs.cons (Ex.set ok hn hc (by rfl) (Ev.slice ?_))
    refine Ev.loc ‹_› ‹_› (by rfl) (by rfl) ?_
    refine Ev.int ⟨r, _, 160, rfl, rfl, SeesL.of hr2, by rw [List.length_map]; lia, fun r' hr' => ?_⟩
    have hrH : H r' = none := k2.none hr' (by simp)
    have hr3 : (H2.set r' (.list ((ms.map AV.int).take 160))) r' = some (.list ((ms.take 160).map .int)) := by rw [AH.set_self, List.map_take]
    have k3 : Keep [] H (H2.set r' (.list ((ms.map AV.int).take 160))) := k2.trans (Keep.new hr')
    generalize (H2.set r' (.list ((ms.map AV.int).take 160))) = H3 at hr3 k3 ⊢
    refine Exs.cons (Ex.expr (Ev.reverse ?_) (inter ok))
    refine Ev.loc ‹_› ‹_› (by rfl) (by rfl) ?_
    refine ⟨r', _, rfl, hr3, by rw [List.length_map, List.length_take]; lia, trivial, ?_⟩
    refine Exs.cons (Ex.ret ?_)
    refine Ev.loc ‹_› ‹_› (by rfl) (by rfl) ?_
    exact q _ r' (ms.take 160).reverse (by rw [List.length_reverse, List.length_take]; lia) (by rw [AH.set_self, List.map_reverse]) hrH (k3.own hrH)
/-- the next figure: some number, and the row no longer than it was -/
theorem k_next {r : Addr} {ms : List Int} (hr : H r = some (.list (ms.map .int))) (hl : ms.length ≤ 160)
    (q : ∀ H' (v : Int) (ms' : List Int), ms'.length ≤ 160 → H' r = some (.list (ms'.map .int)) → Keep [r] H H' → Q (.int v) H') : Call w (KK P) (n + 1) (.ref 296) [.ref r] H Q := by
  refine Call.go (d_next P) rfl fun c fn => ?_
  have hn := fn.names (ls := [("row", .local)]) (by decide +kernel)
  have ok := fn.ok
  have hc := fn.comp
  simp only [List.zip_cons_cons, List.zip_nil_right]
  refine Exs.cons (Ex.ret (Ev.ifexp (Tr.cmpS ?_)))
  refine Ev.loc ‹_› ‹_› (by rfl) (by rfl) ?_
  refine Ev.list ⟨by simp, fun u hu => ?_⟩
  have ur : r ≠ u := fun e => by rw [← e, hr] at hu; cases hu
  have hr0 : (H.set u (.list [])) r = some (.list (ms.map .int)) := by rw [AH.set_ne ur]; exact hr
  have hu0 : (H.set u (.list [])) u = some (.list (([] : List Int).map .int)) := AH.set_self ..
  have k0 : Keep [r] H (H.set u (.list [])) := Keep.new hu
  generalize H.set u (.list []) = H0 at hr0 hu0 k0 ⊢
  refine CmpS.neints ok hr0 hu0 ⟨fun h => ?_, fun _ => Ev.int (q _ 0 ms hl hr0 k0)⟩
  have hne : ms ≠ [] := by simpa using h
  refine Ev.pop ?_
  refine Ev.loc ‹_› ‹_› (by rfl) (by rfl) ?_
  refine ⟨r, ms.dropLast.map .int, .int (ms.getLast hne), rfl, ?_, by rw [List.length_map, List.length_dropLast]; omega, q _ _ ms.dropLast (by rw [List.length_dropLast]; omega) (AH.set_self ..) (k0.trans (Keep.set (by simp)))⟩
  rw [hr0]
  congr 2
  rw [show ([AV.int (ms.getLast hne)] : List AV) = [ms.getLast hne].map .int from rfl, ← List.map_append, List.dropLast_concat_getLast]
theorem k_wide {t : Addr} {a b : AV} {z : Int} (ht : H t = some (.tuple [a, .int z, b])) (hz : 0 ≤ z) (q : Q (.int (bs z)) H) : Call w (KK P) (n + 1) (.ref 308) [.ref t] H Q := by
  refine Call.go (d_wide P) rfl fun c fn => ?_
  have hn := fn.names (ls := [("kind", .local)]) (by decide +kernel)
  have ok := fn.ok
  have hc := fn.comp
  simp only [List.zip_cons_cons, List.zip_nil_right]
  refine Exs.cons (Ex.ret (Ev.bin (Ev.neg (Ev.bin (Ev.neg (Ev.bin (Ev.item ?_)))))))
  refine Ev.loc ‹_› ‹_› (by rfl) (by rfl) ?_
  refine Ev.int ⟨.int z, .tuple ht (by decide) rfl (by decide), Ev.int ⟨_, rfl, Ev.int ⟨by decide, _, rfl, Ev.int ⟨.inr (by decide), ?_⟩⟩⟩⟩
  have e : -(-(z + 8) / 16) * 16 = bs z := by unfold bs; lia
  rw [e]; exact q
end


set_option genInjectivity false in
/-- a kind: its tuple, descriptor's address, size, offsets list, offsets -/
structure KD where
  t : Addr
  w : Int
  z : Int
  oa : Addr
  os : List Int
structure OsOk (z : Int) (os : List Int) : Prop where
  mem : ∀ o ∈ os, 0 ≤ o ∧ o % 4 = 0 ∧ o + 4 ≤ z
  lt : os.Pairwise (· < ·)
structure KdOk (k : KD) : Prop where
  w : 64 ≤ k.w ∧ k.w ≤ 192 ∧ k.w % 64 = 0
  z : 0 ≤ k.z ∧ k.z ≤ 20 ∧ k.z % 4 = 0
  os : OsOk k.z k.os
structure KdAt (H : AH) (k : KD) : Prop where
  t : H k.t = some (.tuple [.int k.w, .int k.z, .ref k.oa])
  o : H k.oa = some (.list (k.os.map .int))
structure TabAt (M : Int → Int) (w z : Int) (os : List Int) : Prop where
  z : rd M w = z
  t : ∀ (k : Nat) o, os[k]? = some o → rd M (w + 20 + 4 * k) = o
  e : rd M (w + 20 + 4 * os.length) = 4294967295
theorem OsOk.len {z : Int} {os : List Int} (h : OsOk z os) (hz : z ≤ 20) : os.length ≤ 5 := by
  have key : ∀ (os : List Int) (lo : Int), (∀ o ∈ os, lo ≤ o ∧ o % 4 = 0 ∧ o + 4 ≤ 20) → lo % 4 = 0 → os.Pairwise (· < ·) → lo ≤ 20 → 4 * (os.length : Int) + lo ≤ 20 := by
    intro os
    induction os with
    | nil => intro lo _ _ _ h; simp; lia
    | cons x r ih =>
      intro lo hm h4 hp hlo
      have hx := hm x (.head _)
      have hp' := List.pairwise_cons.mp hp
      have := ih (x + 4) (fun o ho => by have := hm o (.tail _ ho); have := hp'.1 o ho; lia) (by lia) hp'.2 (by lia)
      simp; (clear h hz ih hm h4 hp hlo hp'; lia)
  have := key os 0 (fun o ho => by have := h.mem o ho; lia) (by decide) h.lt (by decide)
  lia
theorem TabAt.mono {M M' : Int → Int} {w z : Int} {os : List Int} (h : TabAt M w z os) (hl : os.length ≤ 5) (hw : ∀ k, k < (w + 48) / 4 → M' k = M k) : TabAt M' w z os := by
  refine ⟨?_, fun k o hk => ?_, ?_⟩
  · rw [← h.z]; exact hw _ (by lia)
  · rw [← h.t k o hk]
    have : k < os.length := by
      rcases Nat.lt_or_ge k os.length with h | h
      · exact h
      · rw [List.getElem?_eq_none h] at hk; cases hk
    exact hw _ (by lia)
  · rw [← h.e]; exact hw _ (by lia)
theorem KdAt.keep {S : List Addr} {H H' : AH} {k : KD} (h : KdAt H k) (x : Keep S H H') (ht : k.t ∉ S) (ho : k.oa ∉ S) : KdAt H' k := ⟨x.get ht h.t, x.get ho h.o⟩
section
variable {P : Params} {w : World} {c : Cx} {l l' : Loc} {H H' : AH} {s s' : Shared} {lvl n : Nat} {Q : AV → AH → Prop} {A : Ad} {M : Int → Int} {F : List Int} {f : Addr} {lim : Int} {o e e₁ e₂ : PySem.Expr} {ap p p' : Pos} {N : Loc → AH → Prop} {R : AV → AH → Prop}
theorem d_kinds (P : Params) : DefAtC P (stAt 39) 301 300 "_law_kinds" (.str "law_nu0334_01" 605) ["row", "memory"] := by
  refine ⟨by kernel_rfl, by kernel_rfl, by kernel_rfl, by decide +kernel, by decide, ?_, by decide +kernel, ?_⟩
  · intro n x hx
    simp only [List.mem_cons, List.not_mem_nil, or_false] at hx
    rcases hx with rfl | rfl
    · exact .inr ⟨by kernel_rfl, by kernel_rfl⟩
    · exact .inl (by kernel_rfl)
  · refine len2 fun a b => ?_; kernel_rfl
/-- what stands when some kinds are made -/
structure KInv (H H' : AH) (A : Ad) (r kr n₀ : Addr) (kds : List KD) (M : Int → Int) : Prop where
  cell : H' n₀ = some (.cell (some (.ref r)))
  row : ∃ ms : List Int, ms.length ≤ 160 ∧ H' r = some (.list (ms.map .int))
  mem : MemAt H' A M
  krl : H' kr = some (.list (kds.map fun k => .ref k.t))
  kd : ∀ (j : Nat) k, kds[j]? = some k → KdOk k ∧ k.w = 64 + 64 * j ∧ KdAt H' k ∧ TabAt M k.w k.z k.os ∧ H k.oa = none ∧ H k.t = none ∧ k.oa ≠ kr
  keep : Keep [A.w, r] H H'
theorem map_ints {ns : List Int} {i : Nat} {v : AV} (hv : (ns.map AV.int)[i]? = some v) : ∃ x, ns[i]? = some x ∧ v = .int x := by
  rw [List.getElem?_map] at hv
  cases e : ns[i]? with
  | none => rw [e] at hv; cases hv
  | some x => rw [e] at hv; cases hv; exact ⟨x, rfl, rfl⟩
theorem k_kinds {r : Addr} {ms : List Int} (mem : MemAt H A M) (hr : H r = some (.list (ms.map .int))) (hl : ms.length ≤ 160)
    (q : ∀ H' D (kds : List KD) M', 1 ≤ kds.length → kds.length ≤ 3 → H D = none → H' D = some (.list (kds.map fun k => .ref k.t)) → MemAt H' A M' → (∃ ms : List Int, ms.length ≤ 160 ∧ H' r = some (.list (ms.map .int))) →
      (∀ (j : Nat) k, kds[j]? = some k → KdOk k ∧ k.w = 64 + 64 * j ∧ KdAt H' k ∧ TabAt M' k.w k.z k.os ∧ H k.oa = none ∧ H k.t = none) → Keep [A.w, r] H H' → Q (.ref D) H') : Call w (KK P) (n + 4) (.ref 301) [.ref r, .ref A.m] H Q := by
  refine Call.goC (d_kinds P) rfl fun n₀ c hfresh _ fn => ?_
  have hn := fn.names (ls := [("row", .cell), ("memory", .local), ("kinds", .local), ("at", .local), ("many", .local), ("spot", .local), ("offsets", .local), ("where", .local), ("range", .globalImplicit), ("_law_next", .globalImplicit), ("len", .globalImplicit)]) (by decide +kernel)
  have ok := fn.ok
  have hc := fn.comp
  have ecl : cellsFrom n₀ (fnScope (stAt 39)).names [] = [(Str.ofString "row", n₀)] := by kernel_rfl
  have hnn : H n₀ = none := hfresh n₀ (Nat.le_refl _)
  rw [ecl] at fn ⊢
  have hcl : c.env.cells.lookup (Str.ofString "row") = some n₀ := by rw [fn.cells]; rfl
  have eH : cellsH H (["row", "memory"].zip ([.ref r, .ref A.m] : List AV)) [(Str.ofString "row", n₀)] = H.set n₀ (.cell (some (.ref r))) := by
    funext a
    unfold cellsH AH.set
    simp only [List.find?_cons, List.find?_nil]
    by_cases e : a = n₀
    · subst e; simp
    · have : (n₀ == a) = false := by simpa using fun q : n₀ = a => e q.symm
      simp [this, e]
  have eL : locsOf (fnScope (stAt 39)) (["row", "memory"].zip ([.ref r, .ref A.m] : List AV)) = [("memory", .ref A.m)] := by
    show List.filter _ ([("row", .ref r), ("memory", .ref A.m)] : Loc) = _
    rw [List.filter_cons_of_neg (by show ¬ (((fnScope (stAt 39)).names.lookup (Str.ofString "row") == some NameKind.local) = true); decide +kernel), List.filter_cons_of_pos (by show ((fnScope (stAt 39)).names.lookup (Str.ofString "memory") == some NameKind.local) = true; decide +kernel)]
    rfl
  rw [eH, eL]
  have k0 : Keep [A.w, r] H (H.set n₀ (.cell (some (.ref r)))) := Keep.new hnn
  have k0' : Keep [] H (H.set n₀ (.cell (some (.ref r)))) := Keep.new hnn
  have mem0 := mem.mono k0'
  have hr0 := k0'.get (by simp) hr
  have hc0 : (H.set n₀ (.cell (some (.ref r)))) n₀ = some (.cell (some (.ref r))) := AH.set_self ..
  clear eH eL ecl k0'
  generalize H.set n₀ (.cell (some (.ref r))) = H0 at k0 mem0 hr0 hc0 ⊢
  refine Exs.cons (Ex.set ok hn hc (by rfl) (Ev.list ⟨by simp, fun kr hkr => ?_⟩))
  have kn : Keep [] H0 (H0.set kr (.list [])) := Keep.new hkr
  have hkrH : H kr = none := by
    cases q' : H kr with
    | none => rfl
    | some o =>
      by_cases e1 : kr = A.w
      · rw [e1, mem0.w] at hkr; cases hkr
      by_cases e2 : kr = r
      · rw [e2, hr0] at hkr; cases hkr
      rw [k0.get (by simp; exact ⟨e1, e2⟩) q'] at hkr; cases hkr
  have inv : KInv H (H0.set kr (.list [])) A r kr n₀ [] M := ⟨kn.get (by simp) hc0, ⟨ms, hl, kn.get (by simp) hr0⟩, mem0.mono kn, AH.set_self .., fun j k h => by simp at h, k0.trans (kn.mono (by simp))⟩
  clear kn hkr hc0 hr0 mem0 k0
  generalize H0.set kr (.list []) = H1 at inv ⊢
  refine Exs.weaken [("memory", .ref A.m), ("kinds", .ref kr)] H1 (by rfl) (fun _ _ e => e) ?_
  refine Exs.cons (Ex.for_ fn (Ev.range1 (by exact Bi.of ‹_› (globOk _) ‹_› (by rfl) (by rfl)) ?_))
  obtain ⟨ms1, hl1, hr1⟩ := inv.row
  refine Ev.bin (Ev.int (Ev.bin (Ev.callf ok (globOk _) hn (by rfl) (by rfl) (d_next P).keep ?_)))
  refine Ev.cellv ok hn (by rfl) hcl inv.cell ?_
  refine k_next hr1 hl1 fun H2 v1 ms2 hl2 hr2 k2 => Ev.int ⟨by decide, _, rfl, fun rg hrg => ?_⟩
  have next : ∀ {H1 H2 : AH} {kds : List KD} {M : Int → Int} {ms : List Int}, KInv H H1 A r kr n₀ kds M → Keep [r] H1 H2 → ms.length ≤ 160 → H2 r = some (.list (ms.map .int)) → KInv H H2 A r kr n₀ kds M := by
    intro H1 H2 kds M ms I k hl h2
    have ne : ∀ a, H1 a ≠ none → (∀ ys : List Int, H1 a ≠ some (.list (ys.map .int))) → a ∉ [r] := fun a _ h e => by
      obtain ⟨m, _, h'⟩ := I.row
      rw [List.mem_singleton.mp e] at h; exact h m h'
    have nr : ∀ a, H a = none → a ∉ [r] := fun a h e => by rw [List.mem_singleton.mp e, hr] at h; cases h
    refine ⟨k.get (ne _ (by rw [I.cell]; simp) (by rw [I.cell]; simp)) I.cell, ⟨ms, hl, h2⟩, ⟨k.get (ne _ (by rw [I.mem.m]; simp) (by rw [I.mem.m]; simp)) I.mem.m, k.get (ne _ (by rw [I.mem.md]; simp) (by rw [I.mem.md]; simp)) I.mem.md, k.get (ne _ (by rw [I.mem.w]; simp) (by rw [I.mem.w]; simp)) I.mem.w⟩, k.get (nr _ hkrH) I.krl, fun j d hd => ?_, I.keep.trans (k.mono (by simp))⟩
    obtain ⟨a1, a2, a3, a4, a5, a6, a7⟩ := I.kd j d hd
    exact ⟨a1, a2, a3.keep k (nr _ a6) (nr _ a5), a4, a5, a6, a7⟩
  have fresh : ∀ {H1 : AH} {kds : List KD} {M : Int → Int} {a : Addr} {o : AO}, KInv H H1 A r kr n₀ kds M → H1 a = none → KInv H (H1.set a o) A r kr n₀ kds M := by
    intro H1 kds M a o I ha
    have k : Keep [] H1 (H1.set a o) := Keep.new ha
    obtain ⟨m, hm, hrow⟩ := I.row
    refine ⟨k.get (by simp) I.cell, ⟨m, hm, k.get (by simp) hrow⟩, I.mem.mono k, k.get (by simp) I.krl, fun j d hd => ?_, I.keep.trans (k.mono (by simp))⟩
    obtain ⟨a1, a2, a3, a4, a5, a6, a7⟩ := I.kd j d hd
    exact ⟨a1, a2, a3.keep k (by simp) (by simp), a4, a5, a6, a7⟩
  have inv := next inv k2 hl2 hr2
  have hb : (0 : Int) ≤ 1 + v1 % 3 ∧ 1 + v1 % 3 ≤ 3 ∧ 1 ≤ 1 + v1 % 3 := by lia
  generalize 1 + v1 % 3 = b at hb hrg ⊢
  refine ⟨.range 0 1 (b - 0).toNat, fun i l' H' => l' = [("memory", .ref A.m), ("kinds", .ref kr)] ∧ ∃ kds M, i = kds.length ∧ KInv H H' A r kr n₀ kds M, from_1 (AH.set_self ..) (by lia) (by lia) (by lia), ⟨rfl, [], M, rfl, fresh inv hrg⟩, fun _ _ _ _ => trivial, ?_, ?_⟩
  · clear inv hrg hr2 k2 hr1
    rintro c NN fn i v l H2 hi hv hN ⟨rfl, kds, M, rfl, inv⟩
    have hi3 : kds.length < 3 := by have : kds.length < (b - 0).toNat := hi; (clear mem hr hl q hfresh hn ok hc hnn hcl hkrH hl1 hl2 next fresh fn inv hi hv hN; omega)
    have hn := fn.names (ls := [("row", .cell), ("memory", .local), ("kinds", .local), ("at", .local), ("many", .local), ("spot", .local), ("offsets", .local), ("where", .local), ("range", .globalImplicit), ("_law_next", .globalImplicit), ("len", .globalImplicit)]) (by decide +kernel)
    have ok := fn.ok
    have hc := fn.comp
    have hcl : c.env.cells.lookup (Str.ofString "row") = some n₀ := by rw [fn.cells]; rfl
    cases hv
    refine Asg.name ok hc hn (by rfl) ?_
    obtain ⟨ms1, hl1, hr1⟩ := inv.row
    refine Exs.cons (Ex.set ok hn hc (by rfl) (Ev.bin (Ev.callf ok (globOk _) hn (by rfl) (by rfl) (d_next P).keep ?_)))
    refine Ev.cellv ok hn (by rfl) hcl inv.cell ?_
    refine k_next hr1 hl1 fun H3 v2 ms3 hl3 hr3 k3 => Ev.int ⟨by decide, ?_⟩
    have inv := next inv k3 hl3 hr3
    have hm : 0 ≤ v2 % 6 ∧ v2 % 6 ≤ 5 := by lia
    generalize v2 % 6 = many at hm ⊢
    refine Exs.weaken [("memory", .ref A.m), ("kinds", .ref kr), ("at", .int kds.length), ("many", .int many)] H3 ?_ (fun _ _ e => e) ?_
    · have : (0 : Int) + (kds.length : Int) * 1 = kds.length := by lia
      rw [this]
      rfl
    refine Exs.cons (Ex.comp (cl := [(Str.ofString "row", n₀)]) fn hn (by rfl) ?hsw rfl ?hnames ?hclos ?_)
    case hsw =>
      unfold swapsWith Env.blockKind Env.kindOf
      rw [fn.scope]
      kernel_rfl
    case hnames => decide +kernel
    case hclos =>
      unfold closureFor cellOf
      rw [fn.cells]
      kernel_rfl
    refine Ev.range1 (by exact Bi.of ‹_› (globOk _) ‹_› (by rfl) (by rfl)) ?_
    refine Ev.loc ‹_› ‹_› (by rfl) (by rfl) ?_
    refine ⟨many, rfl, fun rg hrg => ?_⟩
    refine ⟨.range 0 1 (many - 0).toNat, fun _ j H' ys => KInv H H' A r kr n₀ kds M ∧ ∃ os, ys = os.map .int ∧ OsOk (4 * j) os ∧ os.length ≤ j, from_1 (AH.set_self ..) (by lia) (by lia) (by lia), by show (many - 0).toNat ≤ 900; lia, fun n hn' => ⟨fresh inv hrg, [], rfl, ⟨by simp, .nil⟩, by simp⟩, ?_, ?_, ?_⟩
    · rintro _ i H' ys ⟨_, os, rfl, _, h⟩
      exact ⟨trivial, by rw [List.length_map]; exact h⟩
    · clear inv hrg k3 hr3 hr1
      rintro _ c fn' j v H4 ys hj hv ⟨inv, os, rfl, hos, hlen⟩
      have hn := fn'.names (ls := [("spot", .local), ("_law_next", .globalImplicit), ("row", .cell)]) (by
        unfold relabel Env.kindOf
        rw [fn.scope]
        decide +kernel)
      have ok := fn'.ok
      have hcl : c.env.cells.lookup (Str.ofString "row") = some n₀ := by rw [fn'.cells]; rfl
      cases hv
      refine Asg.cname fn' hn (by rfl) ?_
      obtain ⟨ms1, hl1, hr1⟩ := inv.row
      refine (?_ : Tr _ _ _ _ _ _)
      refine Tr.cmp (Ev.bin (Ev.callf ok (globOk _) hn (by rfl) (by rfl) (d_next P).keep ?_))
      refine Ev.cellv ok hn (by rfl) hcl inv.cell ?_
      refine k_next hr1 hl1 fun H5 v3 ms4 hl4 hr4 k4 => Ev.int ⟨by decide, Ev.int ⟨fun _ => ⟨next inv k4 hl4 hr4, os, rfl, ⟨fun o ho => ?_, hos.lt⟩, by lia⟩, fun _ => Ev.bin (Ev.int ?_)⟩⟩
      · have := hos.mem o ho; push_cast; lia
      · refine Ev.loc ‹_› ‹_› (by rfl) (by rfl) ?_
        refine ⟨.inl (by decide), next inv k4 hl4 hr4, os ++ [4 * (0 + (j : Int) * 1)], by simp, ⟨fun o ho => ?_, ?_⟩, by simp; exact hlen⟩
        · rcases List.mem_append.mp ho with ho | ho
          · have := hos.mem o ho; push_cast; omega
          · have := List.mem_singleton.mp ho; push_cast; lia
        · refine List.pairwise_append.mpr ⟨hos.lt, by simp, fun a ha b hb => ?_⟩
          have := hos.mem a ha
          have := List.mem_singleton.mp hb
          lia
    clear inv hrg k3 hr3 hr1
    rintro _ H4 ys oa ⟨inv, os, rfl, hos, hlen⟩ hoa
    have hz : 4 * ((many - 0).toNat : Int) = 4 * many := by lia
    have hos : OsOk (4 * many) os := by rw [← hz]; exact hos
    have hl5 : os.length ≤ 5 := hos.len (by lia)
    have oaH : H oa = none := by
      cases q' : H oa with
      | none => rfl
      | some o =>
        by_cases e1 : oa = A.w
        · rw [e1, inv.mem.w] at hoa; cases hoa
        by_cases e2 : oa = r
        · obtain ⟨m, _, h'⟩ := inv.row; rw [e2, h'] at hoa; cases hoa
        rw [inv.keep.get (by simp; exact ⟨e1, e2⟩) q'] at hoa; cases hoa
    have oakr : oa ≠ kr := fun e => by rw [e, inv.krl] at hoa; cases hoa
    have inv := fresh (o := .list (os.map .int)) inv hoa
    have hoa' : (H4.set oa (.list (os.map .int))) oa = some (.list (os.map .int)) := AH.set_self ..
    generalize H4.set oa (.list (os.map .int)) = H5 at inv hoa' ⊢
    have oaw : oa ∉ [A.w] := by simp; intro e; rw [e, inv.mem.w] at hoa'; cases hoa'
    refine Exs.cons (Ex.set ok hn hc (by rfl) (Ev.bin (Ev.int (Ev.bin (Ev.int ?_)))))
    refine Ev.loc ‹_› ‹_› (by rfl) (by rfl) ?_
    refine ⟨.inl (by decide), ?_⟩
    have hW : (64 : Int) + 64 * (kds.length : Int) ≤ 192 ∧ 64 ≤ (64 : Int) + 64 * (kds.length : Int) := by lia
    refine (?_ : Exs _ _ _ (Loc.put _ (.int (64 + 64 * (kds.length : Int))) _) _ _ _)
    generalize hWe : (64 : Int) + 64 * (kds.length : Int) = W at hW ⊢
    have kw : ∀ {H' H'' : AH} {M' M'' : Int → Int}, KInv H H' A r kr n₀ kds M' → Keep [A.w] H' H'' → MemAt H'' A M'' → (∀ k, k < W / 4 → M'' k = M' k) → KInv H H'' A r kr n₀ kds M'' := by
      intro H' H'' M' M'' I k y hM
      have nw : ∀ a o, H' a = some o → (∀ M, o ≠ .words M) → a ∉ [A.w] := fun a o ha h e => by
        rw [List.mem_singleton.mp e, I.mem.w] at ha; cases ha; exact h _ rfl
      obtain ⟨m, hm, hrow⟩ := I.row
      refine ⟨k.get (nw _ _ I.cell (by simp)) I.cell, ⟨m, hm, k.get (nw _ _ hrow (by simp)) hrow⟩, y, k.get (nw _ _ I.krl (by simp)) I.krl, fun j d hd => ?_, I.keep.trans (k.mono (by simp))⟩
      obtain ⟨a1, a2, a3, a4, a5, a6, a7⟩ := I.kd j d hd
      have hj : j < kds.length := by
        rcases Nat.lt_or_ge j kds.length with h | h
        · exact h
        · rw [List.getElem?_eq_none h] at hd; cases hd
      exact ⟨a1, a2, a3.keep k (nw _ _ a3.t (by simp)) (nw _ _ a3.o (by simp)), a4.mono (a1.os.len a1.z.2.1) fun x hx => hM x (by lia), a5, a6, a7⟩
    refine Exs.cons (Ex.wr ok ?_)
    refine Ev.loc ‹_› ‹_› (by rfl) (by rfl) ?_
    refine ⟨A, M, rfl, inv.mem, ?_⟩
    refine Ev.loc ‹_› ‹_› (by rfl) (by rfl) ?_
    refine Ev.bin (Ev.int ?_)
    refine Ev.loc ‹_› ‹_› (by rfl) (by rfl) ?_
    refine ⟨.inl (by decide), W, M, 4 * many, rfl, rfl, inv.mem, by (clear mem hr hl q hfresh hnn hkrH hl2 next fresh hb fn hi hN hi3 hn ok hc hcl hl1 hl3 hm hlen hoa hz hos hl5 oaH oakr inv hoa' oaw hWe kw; omega), fun H6 y6 k6 => ?_⟩
    have inv := kw inv k6 y6 fun k hk => setM_ne (by (clear mem hr hl q hfresh hnn hkrH hl2 next fresh hb fn hi hN hi3 hn ok hc hcl hl1 hl3 hm hlen hoa hz hos hl5 oaH oakr inv hoa' oaw hWe hW kw y6 k6; lia))
    have hoa6 := k6.get oaw hoa'
    have hz6 : rd (wr M W (4 * many)) W = 4 * many := by rw [rd_wr, if_pos rfl]; lia
    generalize wr M W (4 * many) = M6 at inv hz6
    clear y6 k6
    refine Exs.weaken [("memory", .ref A.m), ("kinds", .ref kr), ("at", .int kds.length), ("many", .int many), ("offsets", .ref oa), ("where", .int W)] H6 (by rfl) (fun _ _ e => e) ?_
    refine Exs.cons (Ex.for_ fn (Ev.range1 (by exact Bi.of ‹_› (globOk _) ‹_› (by rfl) (by rfl)) ?_))
    refine Ev.len (by exact Bi.of ‹_› (globOk _) ‹_› (by rfl) (by rfl)) ?_
    refine Ev.loc ‹_› ‹_› (by rfl) (by rfl) ?_
    refine ⟨oa, _, rfl, hoa6, by rw [List.length_map]; lia, _, rfl, fun rg hrg => ?_⟩
    rw [List.length_map]
    have koa : Keep [] H6 (H6.set rg (.pred (isRange 0 os.length 1))) := Keep.new hrg
    refine ⟨.range 0 1 (((os.length : Nat) : Int) - 0).toNat, fun j l' H' => l' = [("memory", .ref A.m), ("kinds", .ref kr), ("at", .int kds.length), ("many", .int many), ("offsets", .ref oa), ("where", .int W)] ∧ ∃ M', KInv H H' A r kr n₀ kds M' ∧ H' oa = some (.list (os.map .int)) ∧ rd M' W = 4 * many ∧ ∀ (k : Nat) o, k < j → os[k]? = some o → rd M' (W + 20 + 4 * k) = o,
      from_1 (AH.set_self ..) (by lia) (by lia) (by lia), ⟨rfl, M6, fresh inv hrg, koa.get (by simp) hoa6, hz6, fun k o hk => by lia⟩, fun _ _ _ _ => trivial, ?_, ?_⟩
    · clear inv hrg hoa6 koa hz6
      rintro c NN fn j v l H7 hj hv hN ⟨rfl, M7, inv, hoa7, hz7, ht7⟩
      have hj : j < os.length := by have : j < (((os.length : Nat) : Int) - 0).toNat := hj; lia
      have hn := fn.names (ls := [("row", .cell), ("memory", .local), ("kinds", .local), ("at", .local), ("many", .local), ("spot", .local), ("offsets", .local), ("where", .local), ("range", .globalImplicit), ("_law_next", .globalImplicit), ("len", .globalImplicit)]) (by decide +kernel)
      have ok := fn.ok
      have hc := fn.comp
      cases hv
      refine Asg.name ok hc hn (by rfl) ?_
      have hoj : os[j]? = some os[j] := List.getElem?_eq_getElem hj
      have hov := hos.mem os[j] (List.getElem_mem hj)
      refine Exs.cons (Ex.wr ok ?_)
      refine Ev.loc ‹_› ‹_› (by rfl) (by rfl) ?_
      refine ⟨A, M7, rfl, inv.mem, Ev.bin (Ev.bin ?_)⟩
      refine Ev.loc ‹_› ‹_› (by rfl) (by rfl) ?_
      refine Ev.int (Ev.bin (Ev.int ?_))
      refine Ev.loc ‹_› ‹_› (by rfl) (by rfl) ?_
      refine ⟨.inl (by decide), ?_⟩
      refine (?_ : Ev _ _ _ _ _ _)
      refine Ev.item ?_
      refine Ev.loc ‹_› ‹_› (by rfl) (by rfl) ?_
      refine Ev.loc ‹_› ‹_› (by rfl) (by rfl) ?_
      refine ⟨.int os[j], .list hoa7 (by lia) ?_ (by lia), _, M7, os[j], rfl, rfl, inv.mem, by lia, fun H8 y8 k8 => Exs.nil (hN _ (by rfl) ⟨rfl, _, kw inv k8 y8 fun k hk => setM_ne (by (clear mem hr hl q hfresh hnn hkrH hl2 next fresh hb hi hi3 hcl hl1 hl3 hm hlen hoa hz hos hl5 oaH oakr hoa' oaw hWe hW kw fn hN inv hoa7 hz7 ht7 hj hn ok hc hoj hov y8 k8; lia)), k8.get oaw hoa7, ?_, ?_⟩)⟩
      · rw [show ((0 : Int) + (j : Int) * 1).toNat = j by lia, List.getElem?_map, hoj]; rfl
      · rw [rd_wr, if_neg (by (clear mem hr hl q hfresh hnn hkrH hl2 next fresh hb hi hi3 hcl hl1 hl3 hm hlen hoa hz hos hl5 oaH oakr hoa' oaw hWe hW kw fn hN inv hoa7 hz7 ht7 hj hn ok hc hoj hov y8 k8; lia))]; exact hz7
      · intro k o hk ho
        rw [rd_wr]
        by_cases e : k = j
        · subst e
          rw [if_pos (by lia)]
          rw [hoj] at ho; cases ho
          lia
        · rw [if_neg (by (clear mem hr hl q hfresh hnn hkrH hl2 next fresh hb hi hi3 hcl hl1 hl3 hm hlen hoa hz hos hl5 oaH oakr hoa' oaw hWe hW kw fn hN inv hoa7 hz7 ht7 hj hn ok hc hoj hov y8 k8 hk ho; lia))]
          exact ht7 k o (by lia) ho
    · clear inv hrg hoa6 koa hz6
      rintro l H7 ⟨rfl, M7, inv, hoa7, hz7, ht7⟩
      refine Exs.cons (Ex.wr ok ?_)
      refine Ev.loc ‹_› ‹_› (by rfl) (by rfl) ?_
      refine ⟨A, M7, rfl, inv.mem, Ev.bin (Ev.bin ?_)⟩
      refine Ev.loc ‹_› ‹_› (by rfl) (by rfl) ?_
      refine Ev.int (Ev.bin (Ev.int (Ev.len (by exact Bi.of ‹_› (globOk _) ‹_› (by rfl) (by rfl)) ?_)))
      refine Ev.loc ‹_› ‹_› (by rfl) (by rfl) ?_
      refine ⟨oa, _, rfl, hoa7, by rw [List.length_map]; omega, .inl (by decide), ?_⟩
      refine (?_ : Ev _ _ _ _ _ _)
      rw [List.length_map]
      refine Ev.bin (Ev.bin (Ev.int (Ev.int ⟨by decide, Ev.int ?_⟩)))
      refine ⟨_, M7, _, rfl, rfl, inv.mem, by lia, fun H8 y8 k8 => ?_⟩
      have inv := kw inv k8 y8 fun k hk => setM_ne (by (clear mem hr hl q hfresh hnn hkrH hl2 next fresh hb fn hi hN hi3 hn ok hc hcl hl1 hl3 hm hlen hoa hz hos hl5 oaH oakr hoa' oaw hWe hW kw inv hoa7 hz7 ht7 y8 k8; lia))
      have hoa8 := k8.get oaw hoa7
      have tab : TabAt (wr M7 (W + 20 + 4 * (os.length : Int)) (4294967296 - 1)) W (4 * many) os := by
        refine ⟨?_, fun k o hk => ?_, ?_⟩
        · rw [rd_wr, if_neg (by (clear mem hr hl q hfresh hnn hkrH hl2 next fresh hb fn hi hN hi3 hn ok hc hcl hl1 hl3 hm hlen hoa hz hos hl5 oaH oakr hoa' oaw hWe hW kw hoa7 hz7 ht7 y8 k8 inv hoa8; lia))]; exact hz7
        · have hk' : k < os.length := by
            rcases Nat.lt_or_ge k os.length with h | h
            · exact h
            · rw [List.getElem?_eq_none h] at hk; cases hk
          rw [rd_wr, if_neg (by (clear mem hr hl q hfresh hnn hkrH hl2 next fresh hb fn hi hN hi3 hn ok hc hcl hl1 hl3 hm hlen hoa hz hos hl5 oaH oakr hoa' oaw hWe hW kw hoa7 hz7 ht7 y8 k8 inv hoa8 hk; lia))]
          exact ht7 k o (by show k < (((os.length : Nat) : Int) - 0).toNat; lia) hk
        · rw [rd_wr, if_pos rfl]; rfl
      generalize wr M7 (W + 20 + 4 * (os.length : Int)) (4294967296 - 1) = M8 at inv tab
      refine Exs.cons (Ex.expr (Ev.append ?_) (inter ok))
      refine Ev.loc ‹_› ‹_› (by rfl) (by rfl) ?_
      refine ⟨kr, _, rfl, inv.krl, Ev.tuple ?_⟩
      refine Ev.loc ‹_› ‹_› (by rfl) (by rfl) ?_
      refine (?_ : Ev _ _ _ _ _ _)
      refine Ev.bin (Ev.int ?_)
      refine Ev.loc ‹_› ‹_› (by rfl) (by rfl) ?_
      refine ⟨.inl (by decide), ?_⟩
      refine (?_ : Ev _ _ _ _ _ _)
      refine Ev.loc ‹_› ‹_› (by rfl) (by rfl) ?_
      refine ⟨by simp, fun t ht => ⟨_, (fresh inv ht).krl, by rw [List.length_map]; lia, trivial, Exs.nil ?_⟩⟩
      have tkr : t ≠ kr := fun e => by rw [e, inv.krl] at ht; cases ht
      have tH : H t = none := by
        cases q' : H t with
        | none => rfl
        | some o =>
          by_cases e1 : t = A.w
          · rw [e1, inv.mem.w] at ht; cases ht
          by_cases e2 : t = r
          · obtain ⟨m, _, h'⟩ := inv.row; rw [e2, h'] at ht; cases ht
          rw [inv.keep.get (by simp; exact ⟨e1, e2⟩) q'] at ht; cases ht
      have inv' := fresh (o := .tuple [.int W, .int (4 * many), .ref oa]) inv ht
      have hoa9 : (H8.set t (.tuple [.int W, .int (4 * many), .ref oa])) oa = some (.list (os.map .int)) := (Keep.new (S := []) ht).get (by simp) hoa8
      have ht9 : (H8.set t (.tuple [.int W, .int (4 * many), .ref oa])) t = some (.tuple [.int W, .int (4 * many), .ref oa]) := AH.set_self ..
      generalize H8.set t (.tuple [.int W, .int (4 * many), .ref oa]) = H9 at inv' hoa9 ht9 ⊢
      refine hN _ (by rfl) ⟨rfl, kds ++ [⟨t, W, 4 * many, oa, os⟩], M8, by simp, ?_⟩
      have nk : ∀ a o, H9 a = some o → (∀ xs, o ≠ .list xs) → a ≠ kr := fun a o ha h e => by
        rw [e, inv'.krl] at ha; cases ha; exact h _ rfl
      obtain ⟨m, hm, hrow⟩ := inv'.row
      have rkr : r ≠ kr := fun e => by rw [e, hkrH] at hr; cases hr
      refine ⟨by rw [AH.set_ne (nk _ _ inv'.cell (by simp))]; exact inv'.cell, ⟨m, hm, by rw [AH.set_ne rkr]; exact hrow⟩, ⟨by rw [AH.set_ne (nk _ _ inv'.mem.m (by simp))]; exact inv'.mem.m, by rw [AH.set_ne (nk _ _ inv'.mem.md (by simp))]; exact inv'.mem.md, by rw [AH.set_ne (nk _ _ inv'.mem.w (by simp))]; exact inv'.mem.w⟩, by rw [AH.set_self, List.map_append]; rfl, fun j d hd => ?_, inv'.keep.own hkrH⟩
      rcases Nat.lt_or_ge j kds.length with hj | hj
      · rw [List.getElem?_append_left hj] at hd
        obtain ⟨a1, a2, a3, a4, a5, a6, a7⟩ := inv'.kd j d hd
        exact ⟨a1, a2, ⟨by rw [AH.set_ne (nk _ _ a3.t (by simp))]; exact a3.t, by rw [AH.set_ne a7]; exact a3.o⟩, a4, a5, a6, a7⟩
      · rw [List.getElem?_append_right hj] at hd
        obtain ⟨e0, rfl⟩ : j - kds.length = 0 ∧ d = ⟨t, W, 4 * many, oa, os⟩ := by
          cases e : j - kds.length with
          | zero => rw [e] at hd; cases hd; exact ⟨rfl, rfl⟩
          | succ x => rw [e] at hd; cases hd
        have ej : j = kds.length := by lia
        refine ⟨⟨⟨hW.2, hW.1, by show W % 64 = 0; lia⟩, ⟨by show 0 ≤ 4 * many; lia, by show 4 * many ≤ 20; lia, by show 4 * many % 4 = 0; lia⟩, hos⟩, by rw [ej]; exact hWe.symm, ⟨by rw [AH.set_ne tkr]; exact ht9, by rw [AH.set_ne oakr]; exact hoa9⟩, tab, oaH, tH, oakr⟩
  · rintro l H2 ⟨rfl, kds, M', hi, inv⟩
    have hi : (b - 0).toNat = kds.length := hi
    refine Exs.cons (Ex.ret ?_)
    refine Ev.loc ‹_› ‹_› (by rfl) (by rfl) ?_
    exact q _ kr kds M' (by lia) (by lia) hkrH inv.krl inv.mem inv.row (fun j k hk => by
      obtain ⟨a1, a2, a3, a4, a5, a6, a7⟩ := inv.kd j k hk
      exact ⟨a1, a2, a3, a4, a5, a6⟩) inv.keep
end


set_option genInjectivity false in
structure LK where
  a : Addr
  kv : List (Int × Option Int)
noncomputable def Nx (lks : List LK) (i j : Int) : Prop := ∃ x k, 0 ≤ i ∧ lks[i.toNat]? = some x ∧ (k, some j) ∈ x.kv
structure LkOk (n : Nat) (x : LK) : Prop where
  nd : (x.kv.map (·.1)).Nodup
  len : x.kv.length < 64
  rng : ∀ p ∈ x.kv, ∀ j, p.2 = some j → 0 ≤ j ∧ j < n
noncomputable def LkAt (H : AH) (x : LK) : Prop := H x.a = some (.idict (x.kv.map fun p => (p.1, oInt p.2)))
structure ClI (lks : List LK) (ss fs : List Int) : Prop where
  nd : fs.Nodup
  rng : ∀ i ∈ fs, 0 ≤ i ∧ i < lks.length
  mn : ∀ G : Int → Prop, (∀ s ∈ ss, G s) → (∀ i j, G i → Nx lks i j → G j) → ∀ i ∈ fs, G i
theorem ClI.snoc {lks : List LK} {ss fs : List Int} {j : Int} (h : ClI lks ss fs) (hn : j ∉ fs) (hr : 0 ≤ j ∧ j < lks.length) (hg : ∀ G : Int → Prop, (∀ s ∈ ss, G s) → (∀ i j, G i → Nx lks i j → G j) → G j) : ClI lks ss (fs ++ [j]) := by
  refine ⟨List.nodup_append.mpr ⟨h.nd, by simp, fun a ha b hb e => ?_⟩, fun i hi => ?_, fun G g1 g2 i hi => ?_⟩
  · rw [List.mem_singleton.mp hb] at e; exact hn (e ▸ ha)
  · rcases List.mem_append.mp hi with hi | hi
    · exact h.rng i hi
    · rw [List.mem_singleton.mp hi]; exact hr
  · rcases List.mem_append.mp hi with hi | hi
    · exact h.mn G g1 g2 i hi
    · rw [List.mem_singleton.mp hi]; exact hg G g1 g2
theorem ClI.len {lks : List LK} {ss fs : List Int} (h : ClI lks ss fs) : fs.length ≤ lks.length := keys_le _ _ h.nd h.rng
theorem idGet_nodup {kv : List (Int × Option Int)} {k : Int} {v : Option Int} (h : (kv.map (·.1)).Nodup) (hm : (k, v) ∈ kv) : idGet (kv.map fun p => (p.1, oInt p.2)) k = some (oInt v) := by
  induction kv with
  | nil => cases hm
  | cons p r ih =>
    unfold idGet
    rw [List.map_cons, List.find?_cons]
    have h' := List.nodup_cons.mp (show (p.1 :: r.map (·.1)).Nodup from h)
    rcases List.mem_cons.mp hm with rfl | hm
    · simp
    · have : p.1 ≠ k := fun e => h'.1 (e ▸ List.mem_map.mpr ⟨_, hm, rfl⟩)
      simp only [this, decide_false]
      exact ih h'.2 hm
theorem sort_lt {ns fs : List Int} (hp : ns.Perm fs) (hs : ns.Pairwise (· ≤ ·)) (hn : fs.Nodup) : ns.Pairwise (· < ·) := by
  have h2 : ns.Nodup := (hp.nodup_iff).mpr hn
  exact (hs.and h2).imp fun ⟨a, b⟩ => by lia
section
variable {P : Params} {w : World} {c : Cx} {l l' : Loc} {H H' : AH} {s s' : Shared} {lvl n : Nat} {Q : AV → AH → Prop} {A : Ad} {M : Int → Int} {F : List Int} {f : Addr} {lim : Int} {o e e₁ e₂ : PySem.Expr} {ap p p' : Pos} {N : Loc → AH → Prop} {R : AV → AH → Prop}
theorem d_closure (P : Params) : DefAt P (stAt 41) 315 314 "_law_closure" (.str "law_nu0334_01" 605) ["links", "starts"] := by (refine ⟨by kernel_rfl, by kernel_rfl, by kernel_rfl, by decide +kernel, by decide, ?_⟩; refine len2 fun a b => ?_; kernel_rfl)
theorem k_closure {lka sta : Addr} {lks : List LK} {ss : List Int} (hlk : H lka = some (.list (lks.map fun x => .ref x.a))) (hx : ∀ x ∈ lks, LkAt H x ∧ LkOk lks.length x) (hn50 : lks.length ≤ 50) (hss : H sta = some (.list (ss.map .int))) (hsl : ss.length ≤ 900) (hsr : ∀ s ∈ ss, 0 ≤ s ∧ s < lks.length)
    (q : ∀ H' D (st : List Int), st.Pairwise (· < ·) → ClI lks ss st → (∀ s ∈ ss, s ∈ st) → (∀ i ∈ st, ∀ j, Nx lks i j → j ∈ st) → H D = none → Keep [] H H' → H' D = some (.list (st.map .int)) → Q (.ref D) H') : Call w (KK P) (n + 1) (.ref 315) [.ref lka, .ref sta] H Q := by
  refine Call.go (d_closure P) rfl fun c fn => ?_
  have hn := fn.names (ls := [("links", .local), ("starts", .local), ("found", .local), ("one", .local), ("at", .local), ("spot", .local), ("aim", .local), ("len", .globalImplicit), ("sorted", .globalImplicit)]) (by decide +kernel)
  have ok := fn.ok
  have hc := fn.comp
  simp only [List.zip_cons_cons, List.zip_nil_right]
  refine Exs.cons (Ex.set ok hn hc (by rfl) (Ev.list ⟨by simp, fun fr hfr => ?_⟩))
  have k0 : Keep [] H (H.set fr (.list [])) := Keep.new hfr
  have hf0 : (H.set fr (.list [])) fr = some (.list (([] : List Int).map .int)) := AH.set_self ..
  generalize H.set fr (.list []) = H0 at k0 hf0 ⊢
  refine Exs.weaken [("links", .ref lka), ("starts", .ref sta), ("found", .ref fr)] H0 (by rfl) (fun _ _ e => e) ?_
  refine Exs.cons (Ex.for_ fn ?_)
  refine Ev.loc ‹_› ‹_› (by rfl) (by rfl) ?_
  refine ⟨.list sta (ss.map .int), fun i l' H' => l' = [("links", .ref lka), ("starts", .ref sta), ("found", .ref fr)] ∧ Keep [] H H' ∧ ∃ fs : List Int, H' fr = some (.list (fs.map .int)) ∧ ClI lks ss fs ∧ ∀ s ∈ ss.take i, s ∈ fs, ⟨rfl, k0.get (by simp) hss, by rw [List.length_map]; lia⟩, ⟨rfl, k0, [], hf0, ⟨by simp, by simp, by simp⟩, by simp⟩, fun i l H h => h.2.1.get (by simp) hss, ?_, ?_⟩
  · rintro c NN fn i v l H1 hi hv hN ⟨rfl, k1, fs, hf1, cl, hs⟩
    have hn := fn.names (ls := [("links", .local), ("starts", .local), ("found", .local), ("one", .local), ("at", .local), ("spot", .local), ("aim", .local), ("len", .globalImplicit), ("sorted", .globalImplicit)]) (by decide +kernel)
    have ok := fn.ok
    have hc := fn.comp
    obtain ⟨s1, hs1, rfl⟩ := map_ints hv
    have hs1m := List.mem_of_getElem? hs1
    refine Asg.name ok hc hn (by rfl) ?_
    refine Exs.cons (Ex.ifs (Tr.cmpS ?_))
    refine Ev.loc ‹_› ‹_› (by rfl) (by rfl) ?_
    refine Ev.loc ‹_› ‹_› (by rfl) (by rfl) ?_
    have tk : ∀ s ∈ ss.take (i + 1), s ∈ ss.take i ∨ s = s1 := fun s h => by
      rw [List.take_add_one, hs1] at h
      simpa using h
    refine CmpS.notin hf1 ⟨fun h => ?_, fun h => Exs.nil (Exs.nil (hN _ (by rfl) ⟨rfl, k1, fs, hf1, cl, fun s hs' => ?_⟩))⟩
    · have hnm : s1 ∉ fs := fun hm => by simp at h; exact h s1 hm rfl
      have len := cl.len
      refine Exs.cons (Ex.expr (Ev.append ?_) (inter ok))
      refine Ev.loc ‹_› ‹_› (by rfl) (by rfl) ?_
      refine ⟨fr, _, rfl, hf1, ?_⟩
      refine Ev.loc ‹_› ‹_› (by rfl) (by rfl) ?_
      refine ⟨_, hf1, by rw [List.length_map]; lia, trivial, Exs.nil (Exs.nil (hN _ (by rfl) ⟨rfl, k1.own hfr, fs ++ [s1], by rw [AH.set_self]; simp, cl.snoc hnm (hsr _ hs1m) (fun G g1 g2 => g1 _ hs1m), fun s hs' => ?_⟩))⟩
      rcases tk s hs' with h' | rfl
      · exact List.mem_append.mpr (.inl (hs s h'))
      · simp
    · have hm : s1 ∈ fs := by simpa using h
      rcases tk s hs' with h' | rfl
      · exact hs s h'
      · exact hm
  rintro l H1 ⟨rfl, k1, fs, hf1, cl, hs⟩
  have hs : ∀ s ∈ ss, s ∈ fs := fun s h => hs s (by
    have : (Src.list sta (ss.map AV.int)).len = ss.length := by show (ss.map AV.int).length = _; rw [List.length_map]
    rw [this, List.take_length]; exact h)
  refine Exs.cons (Ex.set ok hn hc (by rfl) (Ev.int ?_))
  refine Exs.weaken [("links", .ref lka), ("starts", .ref sta), ("found", .ref fr), ("at", .int 0)] H1 (by rfl) (fun _ _ e => e) ?_
  refine Exs.cons (Ex.while2 (fun m l' H' => ∃ (at_ : Nat) (fs : List Int), m = lks.length - at_ ∧ l' = [("links", .ref lka), ("starts", .ref sta), ("found", .ref fr), ("at", .int at_)] ∧ Keep [] H H' ∧ H' fr = some (.list (fs.map .int)) ∧ ClI lks ss fs ∧ (∀ s ∈ ss, s ∈ fs) ∧ at_ ≤ fs.length ∧ ∀ (j : Nat) i, j < at_ → fs[j]? = some i → ∀ d, Nx lks i d → d ∈ fs) ?_ ?_)
  · exact ⟨_, 0, fs, rfl, rfl, k1, hf1, cl, hs, by lia, fun j i hj => by lia⟩
  rintro NN m l H2 hN ⟨at_, fs, rfl, rfl, k2, hf2, cl, hs, hat, hcl⟩
  have len := cl.len
  refine Tr.cmp ?_
  refine Ev.loc ‹_› ‹_› (by rfl) (by rfl) ?_
  refine Ev.len (by exact Bi.of ‹_› (globOk _) ‹_› (by rfl) (by rfl)) ?_
  refine Ev.loc ‹_› ‹_› (by rfl) (by rfl) ?_
  refine ⟨fr, _, rfl, hf2, by rw [List.length_map]; lia, ?_⟩
  rw [List.length_map]
  refine ⟨fun h => ?_, fun h => ?_⟩
  rotate_left
  · have h : ¬ (at_ : Int) < fs.length := by simpa using h
    refine Exs.cons (Ex.ret (Ev.sortedl (by exact Bi.of ‹_› (globOk _) ‹_› (by rfl) (by rfl)) ?_))
    refine Ev.loc ‹_› ‹_› (by rfl) (by rfl) ?_
    refine ⟨fr, fs, rfl, hf2, by (clear hlk hx hss hsl hsr q fn hn ok hc hfr k0 hf0 k1 hf1 hN k2 hf2 cl hs hat hcl h; lia), fun D st hD hp hs' => ?_⟩
    refine q _ D st (sort_lt hp hs' cl.nd) ⟨(hp.nodup_iff).mpr cl.nd, fun i hi => cl.rng i (hp.mem_iff.mp hi), fun G g1 g2 i hi => cl.mn G g1 g2 i (hp.mem_iff.mp hi)⟩ (fun s h => hp.mem_iff.mpr (hs s h)) (fun i hi j hj => hp.mem_iff.mpr ?_) (k2.none hD (by simp)) (k2.trans (Keep.new hD)) (AH.set_self ..)
    obtain ⟨k, hk⟩ := List.getElem?_of_mem (hp.mem_iff.mp hi)
    refine hcl k i ?_ hk j hj
    rcases Nat.lt_or_ge k fs.length with h | h
    · (clear hlk hx hn50 hss hsl hsr q fn hn ok hc hfr k0 hf0 k1 hf1 hN k2 hf2 cl hs hat hcl len hD hp hs' hi hj hk; omega)
    · rw [List.getElem?_eq_none h] at hk; cases hk
  · have h : (at_ : Int) < fs.length := by simpa using h
    have hlt : at_ < fs.length := by (clear hlk hx hn50 hss hsl hsr q fn hn ok hc hfr k0 hf0 k1 hf1 hN k2 hf2 cl hs hat hcl len; omega)
    have hi : fs[at_]? = some fs[at_] := List.getElem?_eq_getElem hlt
    have him : fs[at_] ∈ fs := List.getElem_mem hlt
    generalize fs[at_] = i at hi him
    have hir := cl.rng i him
    have hxl : i.toNat < lks.length := by (clear hlk hx hn50 hss hsl hsr q fn hn ok hc hfr k0 hf0 k1 hf1 hN k2 hf2 cl hs hat hcl len h hlt hi him; omega)
    have hxi : lks[i.toNat]? = some lks[i.toNat] := List.getElem?_eq_getElem hxl
    have hxm : lks[i.toNat] ∈ lks := List.getElem_mem hxl
    generalize lks[i.toNat] = x at hxi hxm
    obtain ⟨hxa, hxo⟩ := hx x hxm
    have nxx : ∀ {k d}, (k, some d) ∈ x.kv → Nx lks i d := fun h => ⟨x, _, hir.1, hxi, h⟩
    have mxx : ∀ {d}, Nx lks i d → ∃ k, (k, some d) ∈ x.kv := fun ⟨y, k, _, h1, h2⟩ => ⟨k, by rw [hxi] at h1; cases h1; exact h2⟩
    have item : ∀ {H3 : AH} {fs' : List Int} {c : Cx} {l : Loc} {ls : List (String × NameKind)} {p1 p2 p3 p4 p5 : Pos} {Q : AV → AH → Prop}, c.Ok (KK P) n → NamesOk c.env ls → assoc "links" ls = some NameKind.local → assoc "found" ls = some NameKind.local → assoc "at" ls = some NameKind.local → assoc "links" l = some (AV.ref lka) → assoc "found" l = some (AV.ref fr) → assoc "at" l = some (AV.int at_) → Keep [] H H3 → H3 fr = some (.list (fs'.map .int)) → fs'[at_]? = some i → Q (.ref x.a) H3 → Ev w c (.Subscript (.Name (Str.ofString "links") p1) (.Subscript (.Name (Str.ofString "found") p2) (.Name (Str.ofString "at") p3) p4) p5) l H3 Q := by
      intro H3 fs' c l ls p1 p2 p3 p4 p5 Q ok hn n1 n2 n3 m1 m2 m3 k hf hfi q
      refine Ev.item (Ev.loc ok hn n1 m1 (Ev.item (Ev.loc ok hn n2 m2 (Ev.loc ok hn n3 m3 ⟨.int i, .list hf (by lia) ?_ (by lia), .ref x.a, .list (k.get (by simp) hlk) hir.1 ?_ (by lia), q⟩))))
      · rw [Int.toNat_natCast, List.getElem?_map, hfi]; rfl
      · rw [List.getElem?_map, hxi]; rfl
    refine Exs.cons (Ex.for_ fn (Ev.sortedd ok (by exact Bi.of ‹_› (globOk _) ‹_› (by rfl) (by rfl)) ?_))
    refine item ok hn (by rfl) (by rfl) (by rfl) (by rfl) (by rfl) (by rfl) k2 hf2 hi ?_
    refine ⟨x.a, _, rfl, k2.get (by simp) hxa, by rw [List.length_map]; exact hxo.len, fun ka ks hka hp _ => ?_⟩
    have hp : ks.Perm (x.kv.map (·.1)) := by rw [List.map_map] at hp; exact hp
    have hks : ks.length < 64 := by rw [hp.length_eq, List.length_map]; exact hxo.len
    have kn : Keep [] H2 (H2.set ka (.list (ks.map .int))) := Keep.new hka
    have hka3 : (H2.set ka (.list (ks.map .int))) ka = some (.list (ks.map .int)) := AH.set_self ..
    have kaf : ka ≠ fr := fun e => by rw [e, hf2] at hka; cases hka
    have k3 := k2.trans kn
    have hf3 := kn.get (by simp) hf2
    generalize H2.set ka (.list (ks.map .int)) = H3 at hka3 k3 hf3 ⊢
    refine ⟨.list ka (ks.map .int), fun j l' H' => l' = [("links", .ref lka), ("starts", .ref sta), ("found", .ref fr), ("at", .int at_)] ∧ Keep [] H H' ∧ H' ka = some (.list (ks.map .int)) ∧ ∃ ext : List Int, H' fr = some (.list ((fs ++ ext).map .int)) ∧ ClI lks ss (fs ++ ext) ∧ ∀ k ∈ ks.take j, ∀ d, (k, some d) ∈ x.kv → d ∈ fs ++ ext, ⟨rfl, hka3, by rw [List.length_map]; lia⟩, ⟨rfl, k3, hka3, [], by rw [List.append_nil]; exact hf3, by rw [List.append_nil]; exact cl, by simp⟩, fun i l H h => h.2.2.1, ?_, ?_⟩
    · clear hka3 hf3 k3 kn
      rintro c NN fn j v l H4 hj hv hN ⟨rfl, k4, hka4, ext, hf4, cl4, hs4⟩
      have hn := fn.names (ls := [("links", .local), ("starts", .local), ("found", .local), ("one", .local), ("at", .local), ("spot", .local), ("aim", .local), ("len", .globalImplicit), ("sorted", .globalImplicit)]) (by decide +kernel)
      have ok := fn.ok
      have hc := fn.comp
      have len4 := cl4.len
      obtain ⟨k, hk, rfl⟩ := map_ints hv
      have tk : ∀ s ∈ ks.take (j + 1), s ∈ ks.take j ∨ s = k := fun s h => by
        rw [List.take_add_one, hk] at h
        simpa using h
      obtain ⟨⟨k', ov⟩, hkv, ek⟩ := List.mem_map.mp (hp.mem_iff.mp (List.mem_of_getElem? hk))
      have ek : k' = k := ek
      subst ek
      have uniq : ∀ {d}, (k', d) ∈ x.kv → d = ov := fun {d} h => by
        have h1 := idGet_nodup hxo.nd h
        have h2 := idGet_nodup hxo.nd hkv
        rw [h1] at h2
        cases d <;> cases ov <;> simp [oInt] at h2 ⊢
        exact h2
      refine Asg.name ok hc hn (by rfl) ?_
      refine Exs.cons (Ex.set ok hn hc (by rfl) (Ev.item ?_))
      refine item ok hn (by rfl) (by rfl) (by rfl) (by rfl) (by rfl) (by rfl) k4 hf4 (by rw [List.getElem?_append_left hlt]; exact hi) ?_
      refine Ev.loc ‹_› ‹_› (by rfl) (by rfl) ?_
      refine ⟨oInt ov, .idict (k4.get (by simp) hxa) (idGet_nodup hxo.nd hkv), ?_⟩
      refine Exs.cons (Ex.ifs (Tr.and (Tr.cmp ?_)))
      refine Ev.loc ‹_› ‹_› (by rfl) (by rfl) ?_
      cases ov with
      | none =>
        refine Ev.none ⟨fun _ => ⟨nofun, fun _ => Exs.nil (Exs.nil (hN _ (by rfl) ⟨rfl, k4, hka4, ext, hf4, cl4, fun s hs' d hd => ?_⟩))⟩, nofun⟩
        rcases tk s hs' with h' | rfl
        · exact hs4 s h' d hd
        · exact nomatch uniq hd
      | some d =>
        have hdr := hxo.rng _ hkv d rfl
        refine Ev.none ⟨nofun, fun _ => Tr.and (Tr.cmpS ?_)⟩
        refine Ev.loc ‹_› ‹_› (by rfl) (by rfl) ?_
        refine Ev.loc ‹_› ‹_› (by rfl) (by rfl) ?_
        refine CmpS.notin hf4 ⟨fun h => ⟨nofun, fun _ => Exs.nil (Exs.nil (hN _ (by rfl) ⟨rfl, k4, hka4, ext, hf4, cl4, fun s hs' d' hd => ?_⟩))⟩, fun h => Tr.and_nil ⟨fun _ => ?_, nofun⟩⟩
        · have hm : d ∈ fs ++ ext := by
            have h : ((fs ++ ext).any (· == d)) = true := by simpa only [Bool.not_eq_false'] using h
            obtain ⟨y, hy, e⟩ := List.any_eq_true.mp h
            exact (by simpa using e : y = d) ▸ hy
          rcases tk s hs' with h' | rfl
          · exact hs4 s h' d' hd
          · cases uniq hd; exact hm
        · have hnm : d ∉ fs ++ ext := fun hm => by simp at h; rcases List.mem_append.mp hm with hm | hm
                                                   · exact h.1 d hm rfl
                                                   · exact h.2 d hm rfl
          refine Exs.cons (Ex.expr (Ev.append ?_) (inter ok))
          refine Ev.loc ‹_› ‹_› (by rfl) (by rfl) ?_
          refine ⟨fr, _, rfl, hf4, ?_⟩
          refine Ev.loc ‹_› ‹_› (by rfl) (by rfl) ?_
          refine ⟨_, hf4, by rw [List.length_map]; lia, trivial, Exs.nil (Exs.nil (hN _ (by rfl) ⟨rfl, k4.own hfr, by rw [AH.set_ne kaf]; exact hka4, ext ++ [d], by rw [AH.set_self]; simp [oInt], ?_, fun s hs' d' hd => ?_⟩))⟩
          · rw [← List.append_assoc]
            exact cl4.snoc hnm hdr fun G g1 g2 => g2 i d (cl.mn G g1 g2 i him) (nxx hkv)
          · rw [← List.append_assoc]
            rcases tk s hs' with h' | rfl
            · exact List.mem_append.mpr (.inl (hs4 s h' d' hd))
            · cases uniq hd; simp
    · clear hka3 hf3 k3 kn
      rintro l H4 ⟨rfl, k4, hka4, ext, hf4, cl4, hs4⟩
      have e : (Src.list ka (ks.map AV.int)).len = ks.length := by show (ks.map AV.int).length = _; rw [List.length_map]
      rw [e, List.take_length] at hs4
      refine Exs.cons (Ex.inc ok hn hc (by rfl) (by rfl) (Ev.int ⟨1, rfl, Exs.nil (hN _ [("links", .ref lka), ("starts", .ref sta), ("found", .ref fr), ("at", .int ((at_ : Int) + 1))] ?_ (by rfl) ⟨at_ + 1, fs ++ ext, rfl, rfl, k4, hf4, cl4, fun s h => List.mem_append.mpr (.inl (hs s h)), by rw [List.length_append]; (clear hlk hx hn50 hss hsl hsr q fn hn ok hc hfr k0 hf0 k1 hf1 hN k2 hf2 cl hs hat hcl len h hlt hi him hir hxl hxi hxm hxa hxo nxx mxx item hka hp hks kaf k4 hka4 hf4 cl4 hs4 e; lia), fun j i' hj hi' d hd => ?_⟩)⟩))
      · lia
      · rw [List.getElem?_append_left (by (clear hlk hx hn50 hss hsl hsr q fn hn ok hc hfr k0 hf0 k1 hf1 hN k2 hf2 cl hs hat hcl len h hlt hi him hir hxl hxi hxm hxa hxo nxx mxx item hka hp hks kaf k4 hka4 hf4 cl4 hs4 e hi' hd; lia))] at hi'
        rcases Nat.lt_or_ge j at_ with h' | h'
        · exact List.mem_append.mpr (.inl (hcl j i' h' hi' d hd))
        · have : j = at_ := by lia
          subst this
          rw [hi] at hi'; cases hi'
          obtain ⟨k, hk⟩ := mxx hd
          exact hs4 k (hp.mem_iff.mpr (List.mem_map.mpr ⟨_, hk, rfl⟩)) d hk
end


set_option genInjectivity false in
/-- a held record: its tuple, address, kind -/
structure HD where
  t : Addr
  a : Int
  k : KD
inductive Lay : Int → List HD → Int → Prop
  | nil {b} : Lay b [] b
  | cons {b h r e} : h.a = b + 8 → Lay (b + bs h.k.z) r e → Lay b (h :: r) e
theorem bs_rng {z : Int} (h : 0 ≤ z ∧ z ≤ 20 ∧ z % 4 = 0) : z + 8 ≤ bs z ∧ (bs z = 16 ∨ bs z = 32) := by unfold bs; lia
structure HdOk (h : HD) : Prop where
  k : KdOk h.k
theorem Lay.le {b e : Int} {hs : List HD} (L : Lay b hs e) (hk : ∀ h ∈ hs, KdOk h.k) : b ≤ e := by
  induction L with
  | nil => lia
  | @cons b h r e _ _ ih =>
    have := bs_rng (hk h (.head _)).z
    have := ih fun h hh => hk h (.tail _ hh)
    omega
theorem Lay.get {b e : Int} {hs : List HD} (L : Lay b hs e) (hk : ∀ h ∈ hs, KdOk h.k) (hb : b % 16 = 0) : ∀ h ∈ hs, b + 8 ≤ h.a ∧ h.a % 16 = 8 ∧ h.a - 8 + bs h.k.z ≤ e := by
  induction L with
  | nil => intro h hh; cases hh
  | @cons b h r e h1 h2 ih =>
    have hz := bs_rng (hk h (.head _)).z
    have hk' : ∀ h ∈ r, KdOk h.k := fun h hh => hk h (.tail _ hh)
    intro h' hh'
    have le := h2.le hk'
    rcases List.mem_cons.mp hh' with rfl | hh'
    · lia
    · have := ih hk' (by (clear h1 h2 ih hk hk' le hh'; lia)) h' hh'
      (clear h1 h2 ih hk hb hk' le hh'; lia)
theorem Lay.lt {b e : Int} {hs : List HD} (L : Lay b hs e) (hk : ∀ h ∈ hs, KdOk h.k) (hb : b % 16 = 0) : ∀ (i j : Nat) h h', i < j → hs[i]? = some h → hs[j]? = some h' → h.a + bs h.k.z ≤ h'.a := by
  induction L with
  | nil => intro i j h h' _ hi; simp at hi
  | @cons b h r e h1 h2 ih =>
    have hz := bs_rng (hk h (.head _)).z
    have hk' : ∀ h ∈ r, KdOk h.k := fun h hh => hk h (.tail _ hh)
    intro i j x y hij hi hj
    obtain ⟨j', rfl⟩ : ∃ j', j = j' + 1 := ⟨j - 1, by lia⟩
    rw [List.getElem?_cons_succ] at hj
    cases i with
    | zero =>
      rw [List.getElem?_cons_zero] at hi
      cases hi
      have := h2.get hk' (by (clear h1 h2 ih hk hk' hj hij; lia)) y (List.mem_of_getElem? hj)
      (clear h2 ih hk hb hz hk' hj hij; lia)
    | succ i =>
      rw [List.getElem?_cons_succ] at hi
      exact ih hk' (by (clear h1 h2 ih hk hk' hj hi hij; lia)) i j' x y (by lia) hi hj
theorem Lay.snoc {b e : Int} {hs : List HD} {h : HD} (L : Lay b hs e) (ha : h.a = e + 8) : Lay b (hs ++ [h]) (e + bs h.k.z) := by
  induction L with
  | nil => exact .cons ha .nil
  | cons h1 _ ih => exact .cons h1 (ih ha)
structure HMem (hs : List HD) (M : Int → Int) (e lim : Int) : Prop where
  head : ∀ h ∈ hs, rd M (h.a - 8) = h.k.w
  mark : ∀ h ∈ hs, rd M (h.a - 4) = 0
  tab : ∀ h ∈ hs, TabAt M h.k.w h.k.z h.k.os
  tail : e < lim → rd M e = lim - e + 1 ∧ rd M (e + 4) = 0
noncomputable def HZero (hs : List HD) (M : Int → Int) : Prop := ∀ h ∈ hs, ∀ s, 0 ≤ s → s < h.k.z → s % 4 = 0 → rd M (h.a + s) = 0
noncomputable def HdAt (H : AH) (h : HD) : Prop := H h.t = some (.tuple [.int h.a, .ref h.k.t]) ∧ KdAt H h.k
noncomputable def PtrOk (hs : List HD) (M : Int → Int) (h : HD) (kv : List (Int × Option Int)) : Prop := ∀ p ∈ kv, (p.2 = none ∧ rd M (h.a + p.1) = 0) ∨ ∃ d h', p.2 = some d ∧ 0 ≤ d ∧ d < hs.length ∧ hs[d.toNat]? = some h' ∧ rd M (h.a + p.1) = h'.a
structure LinkOk (hs : List HD) (M : Int → Int) (h : HD) (x : LK) : Prop where
  nd : (x.kv.map (·.1)).Nodup
  key : ∀ o, o ∈ x.kv.map (·.1) ↔ o ∈ h.k.os
  ptr : PtrOk hs M h x.kv
theorem HdAt.keep {S : List Addr} {H H' : AH} {h : HD} (x : HdAt H h) (k : Keep S H H') (h1 : h.t ∉ S) (h2 : h.k.t ∉ S) (h3 : h.k.oa ∉ S) : HdAt H' h := ⟨k.get h1 x.1, x.2.keep k h2 h3⟩
/-- words outside the payloads stay -/
noncomputable def Out (hs : List HD) (M M' : Int → Int) : Prop := ∀ x, (∀ h ∈ hs, x / 4 < h.a / 4 ∨ (h.a + h.k.z) / 4 ≤ x / 4) → rd M' x = rd M x
section
variable {P : Params} {w : World} {c : Cx} {l l' : Loc} {H H' : AH} {s s' : Shared} {lvl n : Nat} {Q : AV → AH → Prop} {A : Ad} {M : Int → Int} {F : List Int} {f : Addr} {lim : Int} {o e e₁ e₂ : PySem.Expr} {ap p p' : Pos} {N : Loc → AH → Prop} {R : AV → AH → Prop}
theorem d_filled (P : Params) : DefAt P (stAt 42) 322 321 "_law_filled" (.str "law_nu0334_01" 605) ["row", "memory", "held"] := by (refine ⟨by kernel_rfl, by kernel_rfl, by kernel_rfl, by decide +kernel, by decide, ?_⟩; refine len3 fun a b c => ?_; kernel_rfl)
/-- what stands while the words are drawn -/
structure FInv (H H' : AH) (A : Ad) (r lk : Addr) (hs : List HD) (M0 M : Int → Int) (xs : List LK) : Prop where
  row : ∃ ms : List Int, ms.length ≤ 160 ∧ H' r = some (.list (ms.map .int))
  mem : MemAt H' A M
  lkl : H' lk = some (.list (xs.map fun x => .ref x.a))
  len : xs.length ≤ hs.length
  lk : ∀ (j : Nat) h x, hs[j]? = some h → xs[j]? = some x → LkAt H' x ∧ H x.a = none ∧ LinkOk hs M h x
  keep : Keep [A.w, r] H H'
  out : Out hs M0 M
  zero : ∀ (j : Nat) h, xs.length < j → hs[j]? = some h → ∀ s, 0 ≤ s → s < h.k.z → s % 4 = 0 → rd M (h.a + s) = 0
theorem LinkOk.mono {hs : List HD} {M M' : Int → Int} {h : HD} {x : LK} (L : LinkOk hs M h x) (he : ∀ o ∈ h.k.os, rd M' (h.a + o) = rd M (h.a + o)) : LinkOk hs M' h x :=
  ⟨L.nd, L.key, fun p hp => by rw [he p.1 ((L.key _).mp (List.mem_map.mpr ⟨p, hp, rfl⟩))]; exact L.ptr p hp⟩
theorem FInv.step {r lk : Addr} {hs : List HD} {M0 M M2 : Int → Int} {xs : List LK} {H1 H2 : AH} (I : FInv H H1 A r lk hs M0 M xs) (h0 : ∀ a, H a = none → a ≠ A.w ∧ a ≠ r) (hlk : H lk = none) (k : Keep [A.w, r] H1 H2)
    (row2 : ∃ ms : List Int, ms.length ≤ 160 ∧ H2 r = some (.list (ms.map .int))) (mem2 : MemAt H2 A M2) (out2 : Out hs M M2) (lnk2 : ∀ (j : Nat) h, j < xs.length → hs[j]? = some h → ∀ o ∈ h.k.os, rd M2 (h.a + o) = rd M (h.a + o))
    (zero2 : ∀ (j : Nat) h, xs.length < j → hs[j]? = some h → ∀ s, 0 ≤ s → s < h.k.z → s % 4 = 0 → rd M2 (h.a + s) = rd M (h.a + s)) : FInv H H2 A r lk hs M0 M2 xs := by
  have nS : ∀ a, H a = none → a ∉ [A.w, r] := fun a ha => by have := h0 a ha; simp; exact this
  refine ⟨row2, mem2, k.get (nS _ hlk) I.lkl, I.len, fun j h x hj hx => ?_, I.keep.trans k, fun x hx => by rw [out2 x hx]; exact I.out x hx, fun j h hj hh s s0 s1 s4 => by rw [zero2 j h hj hh s s0 s1 s4]; exact I.zero j h hj hh s s0 s1 s4⟩
  obtain ⟨a, b, L⟩ := I.lk j h x hj hx
  have hjl : j < xs.length := by
    rcases Nat.lt_or_ge j xs.length with h | h
    · exact h
    · rw [List.getElem?_eq_none h] at hx; cases hx
  exact ⟨k.get (nS _ b) a, b, L.mono (lnk2 j h hjl hj)⟩
theorem FInv.same {r lk : Addr} {hs : List HD} {M0 M : Int → Int} {xs : List LK} {H1 H2 : AH} (I : FInv H H1 A r lk hs M0 M xs) (h0 : ∀ a, H a = none → a ≠ A.w ∧ a ≠ r) (hlk : H lk = none) (k : Keep [r] H1 H2)
    (row2 : ∃ ms : List Int, ms.length ≤ 160 ∧ H2 r = some (.list (ms.map .int))) : FInv H H2 A r lk hs M0 M xs := by
  obtain ⟨m, _, h'⟩ := I.row
  have ne : ∀ a o, H1 a = some o → (∀ ys, o ≠ .list ys) → a ∉ [r] := fun a o ha h e => by
    rw [List.mem_singleton.mp e, h'] at ha; cases ha; exact h _ rfl
  refine I.step h0 hlk (k.mono (by simp)) row2 ⟨k.get (ne _ _ I.mem.m (by simp)) I.mem.m, k.get (ne _ _ I.mem.md (by simp)) I.mem.md, k.get (ne _ _ I.mem.w (by simp)) I.mem.w⟩ (fun _ _ => rfl) (fun _ _ _ _ _ _ => rfl) (fun _ _ _ _ _ _ _ _ => rfl)
theorem FInv.new {r lk a : Addr} {o : AO} {hs : List HD} {M0 M : Int → Int} {xs : List LK} {H1 : AH} (I : FInv H H1 A r lk hs M0 M xs) (h0 : ∀ a, H a = none → a ≠ A.w ∧ a ≠ r) (hlk : H lk = none) (ha : H1 a = none) : FInv H (H1.set a o) A r lk hs M0 M xs := by
  obtain ⟨m, hm, h'⟩ := I.row
  exact I.same h0 hlk (Keep.new ha) ⟨m, hm, (Keep.new (S := []) ha).get (by simp) h'⟩
theorem FInv.write {r lk : Addr} {hs : List HD} {M0 M : Int → Int} {xs : List LK} {H1 H2 : AH} {e s v : Int} {h : HD} (I : FInv H H1 A r lk hs M0 M xs) (h0 : ∀ a, H a = none → a ≠ A.w ∧ a ≠ r) (hlk : H lk = none) (k : Keep [A.w] H1 H2) (y : MemAt H2 A (wr M (h.a + s) v))
    (L : Lay 1024 hs e) (hk : ∀ h ∈ hs, KdOk h.k) (hh : hs[xs.length]? = some h) (s0 : 0 ≤ s) (s1 : s < h.k.z) (s4 : s % 4 = 0) : FInv H H2 A r lk hs M0 (wr M (h.a + s) v) xs := by
  obtain ⟨m, hm, h'⟩ := I.row
  have rw_ : r ∉ [A.w] := by simp; intro e; rw [e, I.mem.w] at h'; cases h'
  have hg := L.get hk (by decide)
  have hlt := L.lt hk (by decide)
  have hz := bs_rng (hk h (List.mem_of_getElem? hh)).z
  have kz := (hk h (List.mem_of_getElem? hh)).z
  have hgh := hg h (List.mem_of_getElem? hh)
  refine I.step h0 hlk (k.mono (by simp)) ⟨m, hm, k.get rw_ h'⟩ y (fun x hx => ?_) (fun j h2 hj hj2 o ho => ?_) fun j h2 hj hj2 s' a1 a2 a4 => ?_
  · have := hx h (List.mem_of_getElem? hh)
    rw [rd_wr, if_neg (by (clear I h0 hlk k y L hk hh hm h' rw_ hg hlt hz hgh hx; lia))]
  · have h2k := hk h2 (List.mem_of_getElem? hj2)
    have := hlt j xs.length h2 h hj hj2 hh
    have := h2k.os.mem o ho
    have := bs_rng h2k.z
    have := hg h2 (List.mem_of_getElem? hj2)
    rw [rd_wr, if_neg (by (clear I h0 hlk k y L hk hh s1 s4 hm h' rw_ hg hlt hz kz hgh hj hj2 ho h2k this; lia))]
  · have h2k := hk h2 (List.mem_of_getElem? hj2)
    have := hlt xs.length j h h2 hj hh hj2
    have := hg h2 (List.mem_of_getElem? hj2)
    rw [rd_wr, if_neg (by (clear I h0 hlk k y L hk hh s0 s4 hm h' rw_ hg hlt kz hgh hj hj2 a2 a4 h2k this; lia))]
theorem idSet_new {kv : List (Int × Option Int)} {k : Int} {v : Option Int} (h : k ∉ kv.map (·.1)) : idSet (kv.map fun p => (p.1, oInt p.2)) k (oInt v) = (kv ++ [(k, v)]).map fun p => (p.1, oInt p.2) := by
  unfold idSet
  have : ((kv.map fun p => (p.1, oInt p.2)).any fun kv => kv.1 = k) = false := by
    rw [List.any_eq_false]
    intro p hp
    obtain ⟨q, hq, rfl⟩ := List.mem_map.mp hp
    simp
    intro e
    exact h (List.mem_map.mpr ⟨q, hq, e⟩)
  rw [this]
  simp
/-- what stands while one record is filled -/
structure BInv (H1 : AH) (ba : Addr) (hs : List HD) (M : Int → Int) (h : HD) (j : Int) (kv : List (Int × Option Int)) : Prop where
  at_ : H1 ba = some (.idict (kv.map fun p => (p.1, oInt p.2)))
  nd : (kv.map (·.1)).Nodup
  key : ∀ o, o ∈ kv.map (·.1) ↔ o ∈ h.k.os ∧ o < 4 * j
  ptr : PtrOk hs M h kv
  zero : ∀ s, 4 * j ≤ s → s < h.k.z → s % 4 = 0 → rd M (h.a + s) = 0
theorem k_filled {r hl : Addr} {ms : List Int} {hs : List HD} {e : Int} (mem : MemAt H A M) (hr : H r = some (.list (ms.map .int))) (hlen : ms.length ≤ 160) (hhl : H hl = some (.list (hs.map fun h => .ref h.t))) (hlr : hl ≠ r)
    (hh : ∀ h ∈ hs, HdAt H h ∧ KdOk h.k ∧ h.k.oa ≠ r) (hn50 : hs.length ≤ 50) (L : Lay 1024 hs e) (he : e ≤ 4000) (Z : HZero hs M)
    (q : ∀ H' D xs M', H D = none → H' D = some (.list ((xs : List LK).map fun x => .ref x.a)) → xs.length = hs.length → MemAt H' A M' → (∃ ms : List Int, ms.length ≤ 160 ∧ H' r = some (.list (ms.map .int))) → Out hs M M' →
      (∀ (j : Nat) h x, hs[j]? = some h → xs[j]? = some x → LkAt H' x ∧ H x.a = none ∧ LinkOk hs M' h x) → Keep [A.w, r] H H' → Q (.ref D) H') : Call w (KK P) (n + 4) (.ref 322) [.ref r, .ref A.m, .ref hl] H Q := by
  have hk : ∀ h ∈ hs, KdOk h.k := fun h h' => (hh h h').2.1
  have hg := L.get hk (by decide)
  have h0 : ∀ a, H a = none → a ≠ A.w ∧ a ≠ r := fun a ha => ⟨fun e => (by rw [e, mem.w] at ha; cases ha), fun e => (by rw [e, hr] at ha; cases ha)⟩
  have hlw : hl ∉ [A.w, r] := by simp; exact ⟨fun e => (by rw [e, mem.w] at hhl; cases hhl), hlr⟩
  have hdk : ∀ {H1 : AH}, Keep [A.w, r] H H1 → ∀ h ∈ hs, HdAt H1 h := fun k h h' => by
    obtain ⟨⟨a, b⟩, _, d⟩ := hh h h'
    have tn : ∀ t xs, H t = some (.tuple xs) → t ∉ [A.w, r] := fun t xs ht => by simp; exact ⟨fun e => (by rw [e, mem.w] at ht; cases ht), fun e => (by rw [e, hr] at ht; cases ht)⟩
    exact HdAt.keep ⟨a, b⟩ k (tn _ _ a) (tn _ _ b.t) (by simp; exact ⟨fun e => (by have := b.o; rw [e, mem.w] at this; cases this), d⟩)
  refine Call.go (d_filled P) rfl fun c fn => ?_
  have hn := fn.names (ls := [("row", .local), ("memory", .local), ("held", .local), ("links", .local), ("where", .local), ("kind", .local), ("bond", .local), ("spot", .local), ("draw", .local), ("range", .globalImplicit), ("_law_next", .globalImplicit), ("len", .globalImplicit)]) (by decide +kernel)
  have ok := fn.ok
  have hc := fn.comp
  simp only [List.zip_cons_cons, List.zip_nil_right]
  refine Exs.cons (Ex.set ok hn hc (by rfl) (Ev.list ⟨by simp, fun lk hlk' => ?_⟩))
  have hlk : H lk = none := hlk'
  have kn : Keep [] H (H.set lk (.list [])) := Keep.new hlk
  have inv : FInv H (H.set lk (.list [])) A r lk hs M M [] := ⟨⟨ms, hlen, kn.get (by simp) hr⟩, mem.mono kn, AH.set_self .., by simp, fun j h x hj hx => by simp at hx, kn.mono (by simp), fun _ _ => rfl, fun j h hj hj2 s s0 s1 s4 => Z h (List.mem_of_getElem? hj2) s s0 s1 s4⟩
  have Z0 : ∀ h, hs[0]? = some h → ∀ s, 0 ≤ s → s < h.k.z → s % 4 = 0 → rd M (h.a + s) = 0 := fun h hh' s s0 s1 s4 => Z h (List.mem_of_getElem? hh') s s0 s1 s4
  clear kn hlk'
  generalize H.set lk (.list []) = H1 at inv ⊢
  refine Exs.weaken [("row", .ref r), ("memory", .ref A.m), ("held", .ref hl), ("links", .ref lk)] H1 (by rfl) (fun _ _ e => e) ?_
  refine Exs.cons (Ex.for_ fn ?_)
  refine Ev.loc ‹_› ‹_› (by rfl) (by rfl) ?_
  refine ⟨.list hl (hs.map fun h => .ref h.t), fun i l' H' => l' = [("row", .ref r), ("memory", .ref A.m), ("held", .ref hl), ("links", .ref lk)] ∧ ∃ xs M', xs.length = i ∧ FInv H H' A r lk hs M M' xs ∧ ∀ h, hs[i]? = some h → ∀ s, 0 ≤ s → s < h.k.z → s % 4 = 0 → rd M' (h.a + s) = 0,
    ⟨rfl, inv.keep.get hlw hhl, by rw [List.length_map]; lia⟩, ⟨rfl, [], M, rfl, inv, Z0⟩, fun i l H h => by obtain ⟨_, xs, M', _, I, _⟩ := h; exact I.keep.get hlw hhl, ?_, ?_⟩
  rotate_left
  · rintro l H2 ⟨rfl, xs, M', hi, inv, _⟩
    have hi : xs.length = (hs.map fun h => AV.ref h.t).length := hi
    rw [List.length_map] at hi
    refine Exs.cons (Ex.ret ?_)
    refine Ev.loc ‹_› ‹_› (by rfl) (by rfl) ?_
    exact q _ lk xs M' hlk inv.lkl hi inv.mem inv.row inv.out inv.lk inv.keep
  clear inv Z0
  rintro c NN fn i v l H2 hi hv hN ⟨rfl, xs, M2, rfl, inv, Z2⟩
  have hn := fn.names (ls := [("row", .local), ("memory", .local), ("held", .local), ("links", .local), ("where", .local), ("kind", .local), ("bond", .local), ("spot", .local), ("draw", .local), ("range", .globalImplicit), ("_law_next", .globalImplicit), ("len", .globalImplicit)]) (by decide +kernel)
  have ok := fn.ok
  have hc := fn.comp
  obtain ⟨h, hi', rfl⟩ : ∃ h, hs[xs.length]? = some h ∧ v = .ref h.t := by
    have hv : (hs.map fun h => AV.ref h.t)[xs.length]? = some v := hv
    rw [List.getElem?_map] at hv
    cases e : hs[xs.length]? with
    | none => rw [e] at hv; cases hv
    | some x => rw [e] at hv; cases hv; exact ⟨x, rfl, rfl⟩
  have hm := List.mem_of_getElem? hi'
  have hgm := hg h hm
  have hkm := hk h hm
  have hzm := bs_rng hkm.z
  have Zh := Z2 h hi'
  clear Z2
  refine Asg.tup ok (hdk inv.keep h hm).1 rfl rfl ?_
  refine Asg.name ok hc hn (by rfl) (Asg.name ok hc hn (by rfl) ?_)
  refine Exs.cons (Ex.set ok hn hc (by rfl) (Ev.dict fun ba hba => ?_))
  have baH : H ba = none := by
    cases q' : H ba with
    | none => rfl
    | some o =>
      by_cases e1 : ba = A.w
      · rw [e1, inv.mem.w] at hba; cases hba
      by_cases e2 : ba = r
      · obtain ⟨m, _, h'⟩ := inv.row; rw [e2, h'] at hba; cases hba
      rw [inv.keep.get (by simp; exact ⟨e1, e2⟩) q'] at hba; cases hba
  have balk : ba ≠ lk := fun e => by rw [e, inv.lkl] at hba; cases hba
  have baxs : ∀ x ∈ xs, x.a ≠ ba := fun x hx e => by
    obtain ⟨j, hj⟩ := List.getElem?_of_mem hx
    have hjl : j < xs.length := by
      rcases Nat.lt_or_ge j xs.length with h | h
      · exact h
      · rw [List.getElem?_eq_none h] at hj; cases hj
    have hj' : j < hs.length := by have := inv.len; lia
    have hjs : hs[j]? = some hs[j] := List.getElem?_eq_getElem hj'
    have h9 : H2 x.a = _ := (inv.lk j _ x hjs hj).1
    rw [e, hba] at h9; cases h9
  have inv := inv.new (o := .idict []) h0 hlk hba
  have bi : BInv (H2.set ba (.idict [])) ba hs M2 h 0 [] := ⟨AH.set_self .., .nil, fun o => ⟨fun h => by simp at h, fun ⟨a, b⟩ => by have := hkm.os.mem o a; (clear mem hr hlen hhl hlr hh hn50 L he Z q hk hg h0 hlw hdk hlk fn hi hN hn ok hc hi' hv hm hgm hkm hzm Zh hba baH balk baxs inv a b; omega)⟩, fun p hp => (by cases hp), fun s s0 s1 s4 => Zh s (by (clear mem hr hlen hhl hlr hh hn50 L he Z q hk hg h0 hlw hdk hlk fn hi hN hn ok hc hi' hv hm hgm hkm hzm Zh hba baH balk baxs inv s1 s4; lia)) s1 s4⟩
  clear Zh hba
  generalize H2.set ba (.idict []) = H3 at inv bi ⊢
  have nba : ba ∉ [A.w, r] := by have := h0 ba baH; simp; exact this
  refine Exs.weaken [("row", .ref r), ("memory", .ref A.m), ("held", .ref hl), ("links", .ref lk), ("where", .int h.a), ("kind", .ref h.k.t), ("bond", .ref ba)] H3 (by rfl) (fun _ _ e => e) ?_
  refine Exs.cons (Ex.for_ fn (Ev.range3 (by exact Bi.of ‹_› (globOk _) ‹_› (by rfl) (by rfl)) ?_))
  refine Ev.int ⟨0, rfl, Ev.item ?_⟩
  refine Ev.loc ‹_› ‹_› (by rfl) (by rfl) ?_
  refine Ev.int ⟨.int h.k.z, .tuple (hdk inv.keep h hm).2.t (by decide) rfl (by decide), _, rfl, Ev.int ⟨rfl, fun rg hrg => ?_⟩⟩
  have ez : (0 : Int) + 4 * ((h.k.z / 4).toNat : Int) = h.k.z := by have := hkm.z; lia
  refine ⟨.range 0 4 (h.k.z / 4).toNat, fun j l' H' => l' = [("row", .ref r), ("memory", .ref A.m), ("held", .ref hl), ("links", .ref lk), ("where", .int h.a), ("kind", .ref h.k.t), ("bond", .ref ba)] ∧ ∃ M' kv, FInv H H' A r lk hs M M' xs ∧ BInv H' ba hs M' h j kv ∧ kv.length ≤ j,
    from_4 (by rw [AH.set_self, ez]) (by lia) (by lia) (by have := hkm.z; (clear mem hr hlen hhl hlr hh hn50 L Z q hk hg h0 hlw hdk hlk fn hi hN hn ok hc hi' hv hm hgm hkm baH balk baxs inv bi nba hrg this; lia)), ⟨rfl, M2, [], inv.new h0 hlk hrg, { bi with at_ := (Keep.new (S := []) hrg).get (by simp) bi.at_ }, by simp⟩, fun _ _ _ _ => trivial, ?_, ?_⟩
  rotate_left
  · clear inv bi hrg
    rintro l H4 ⟨rfl, M4, kv, inv, bi, hkv⟩
    have hj : (Src.range 0 4 (h.k.z / 4).toNat).len = (h.k.z / 4).toNat := rfl
    rw [hj] at bi hkv
    refine Exs.cons (Ex.expr (Ev.append ?_) (inter ok))
    refine Ev.loc ‹_› ‹_› (by rfl) (by rfl) ?_
    refine ⟨lk, _, rfl, inv.lkl, ?_⟩
    refine Ev.loc ‹_› ‹_› (by rfl) (by rfl) ?_
    have il := inv.len
    refine ⟨_, inv.lkl, by rw [List.length_map]; lia, trivial, Exs.nil (hN _ (by rfl) ⟨rfl, xs ++ [⟨ba, kv⟩], M4, by simp, ?_, fun h2 hh2 s s0 s1 s4 => inv.zero (xs.length + 1) h2 (by lia) hh2 s s0 s1 s4⟩)⟩
    have nl : ∀ a o, H4 a = some o → (∀ ys, o ≠ .list ys) → a ≠ lk := fun a o ha h e => by
      rw [e, inv.lkl] at ha; cases ha; exact h _ rfl
    obtain ⟨m, hm', hrow⟩ := inv.row
    have hlt : xs.length < hs.length := by
      rcases Nat.lt_or_ge xs.length hs.length with h | h
      · exact h
      · rw [List.getElem?_eq_none h] at hi'; cases hi'
    refine ⟨⟨m, hm', by rw [AH.set_ne (fun e => (h0 lk hlk).2 e.symm)]; exact hrow⟩, ⟨by rw [AH.set_ne (nl _ _ inv.mem.m (by simp))]; exact inv.mem.m, by rw [AH.set_ne (nl _ _ inv.mem.md (by simp))]; exact inv.mem.md, by rw [AH.set_ne (nl _ _ inv.mem.w (by simp))]; exact inv.mem.w⟩, by rw [AH.set_self, List.map_append]; rfl, by simp; (clear mem hr hlen hhl hlr hh hn50 L he Z q hk hg h0 hlw hdk hlk fn hi hN hn ok hc hi' hv hm hgm hkm hzm baH balk baxs nba ez inv bi hkv hj il nl hm' hrow; lia), fun j h2 x hj hx => ?_, inv.keep.own hlk, inv.out, fun j h2 hj hh2 => inv.zero j h2 (by simp at hj; lia) hh2⟩
    rcases Nat.lt_or_ge j xs.length with hjl | hjl
    · rw [List.getElem?_append_left hjl] at hx
      obtain ⟨a, b, d⟩ := inv.lk j h2 x hj hx
      exact ⟨by show AH.set _ lk _ _ = _; rw [AH.set_ne (nl _ _ a (by simp))]; exact a, b, d⟩
    · rw [List.getElem?_append_right hjl] at hx
      obtain ⟨ej, rfl⟩ : j - xs.length = 0 ∧ x = ⟨ba, kv⟩ := by
        cases e : j - xs.length with
        | zero => rw [e] at hx; cases hx; exact ⟨rfl, rfl⟩
        | succ y => rw [e] at hx; cases hx
      have ej : j = xs.length := by lia
      subst ej
      rw [hi'] at hj; cases hj
      refine ⟨by show AH.set _ lk _ _ = _; rw [AH.set_ne balk]; exact bi.at_, baH, ⟨bi.nd, fun o => ?_, bi.ptr⟩⟩
      rw [bi.key]
      constructor
      · exact fun h => h.1
      · intro ho
        have := hkm.os.mem o ho
        have := hkm.z
        exact ⟨ho, by lia⟩
  · clear inv bi hrg
    rintro c NN fn j v l H4 hj hv hN ⟨rfl, M4, kv, inv, bi, hkv⟩
    have hn := fn.names (ls := [("row", .local), ("memory", .local), ("held", .local), ("links", .local), ("where", .local), ("kind", .local), ("bond", .local), ("spot", .local), ("draw", .local), ("range", .globalImplicit), ("_law_next", .globalImplicit), ("len", .globalImplicit)]) (by decide +kernel)
    have ok := fn.ok
    have hc := fn.comp
    have hj : j < (h.k.z / 4).toNat := hj
    cases hv
    refine Asg.name ok hc hn (by rfl) ?_
    have es : (0 : Int) + (j : Int) * 4 = 4 * j := by lia
    rw [es]
    have sz : (4 * (j : Int)) < h.k.z := by have := hkm.z; (clear mem hr hlen hhl hlr hh hn50 L he Z q hk hg h0 hlw hdk hlk hi hi' hv hm hgm hkm hzm baH balk baxs nba fn hN inv bi hkv hn ok hc es this; lia)
    obtain ⟨ms1, hl1, hr1⟩ := inv.row
    refine Exs.cons (Ex.set ok hn hc (by rfl) (Ev.bin (Ev.callf ok (globOk _) hn (by rfl) (by rfl) (d_next P).keep ?_)))
    refine Ev.loc ‹_› ‹_› (by rfl) (by rfl) ?_
    refine k_next hr1 hl1 fun H5 v5 ms5 hl5 hr5 k5 => ?_
    have inv := inv.same h0 hlk k5 ⟨ms5, hl5, hr5⟩
    have bi : BInv H5 ba hs M4 h j kv := { bi with at_ := k5.get (by simp at nba ⊢; exact nba.2) bi.at_ }
    clear hr5 k5 hr1
    refine Ev.bin (Ev.len (by exact Bi.of ‹_› (globOk _) ‹_› (by rfl) (by rfl)) ?_)
    refine Ev.loc ‹_› ‹_› (by rfl) (by rfl) ?_
    have hhl5 := inv.keep.get hlw hhl
    refine ⟨hl, _, rfl, hhl5, by rw [List.length_map]; lia, ?_⟩
    rw [List.length_map]
    refine Ev.int ⟨by lia, ?_⟩
    have hd : 0 ≤ v5 % ((hs.length : Int) + 1) ∧ v5 % ((hs.length : Int) + 1) ≤ hs.length := ⟨Int.emod_nonneg _ (by lia), by have := Int.emod_lt_of_pos v5 (show (0 : Int) < hs.length + 1 by omega); lia⟩
    refine (?_ : Exs _ _ _ (Loc.put _ (.int (v5 % ((hs.length : Int) + 1))) _) _ _ _)
    generalize v5 % ((hs.length : Int) + 1) = d at hd ⊢
    refine Exs.cons (Ex.ifs (Tr.cmpS ?_))
    refine Ev.loc ‹_› ‹_› (by rfl) (by rfl) ?_
    refine Ev.item ?_
    refine Ev.loc ‹_› ‹_› (by rfl) (by rfl) ?_
    refine Ev.int ⟨.ref h.k.oa, .tuple (hdk inv.keep h hm).2.t (by decide) rfl (by decide), CmpS.notin (hdk inv.keep h hm).2.o ⟨fun hin => ?_, fun hin => ?_⟩⟩
    · -- a plain word
      have hno : 4 * (j : Int) ∉ h.k.os := fun hm => by simp at hin; exact hin _ hm rfl
      refine Exs.cons (Ex.wr ok ?_)
      refine Ev.loc ‹_› ‹_› (by rfl) (by rfl) ?_
      refine ⟨A, M4, rfl, inv.mem, Ev.bin ?_⟩
      refine Ev.loc ‹_› ‹_› (by rfl) (by rfl) ?_
      refine Ev.loc ‹_› ‹_› (by rfl) (by rfl) ?_
      refine (?_ : Ev _ _ _ _ _ _)
      refine Ev.bin ?_
      refine Ev.loc ‹_› ‹_› (by rfl) (by rfl) ?_
      refine Ev.int ⟨.inr (by decide), ?_⟩
      refine ⟨h.a + 4 * j, M4, d * 4099, rfl, rfl, inv.mem, by lia, fun H6 y6 k6 => Exs.nil (Exs.nil (hN _ (by rfl) ⟨rfl, _, kv, inv.write h0 hlk k6 y6 L hk hi' (by lia) sz (by lia), ⟨k6.get (by simp at nba ⊢; exact nba.1) bi.at_, bi.nd, fun o => ?_, fun p hp => ?_, fun s a1 a2 a3 => ?_⟩, by lia⟩))⟩
      · rw [bi.key]
        constructor
        · exact fun ⟨a, b⟩ => ⟨a, by push_cast; lia⟩
        · intro ⟨a, b⟩
          have := hkm.os.mem o a
          push_cast at b
          have : o ≠ 4 * j := fun e => hno (e ▸ a)
          exact ⟨a, by lia⟩
      · have hp1 := (bi.key p.1).mp (List.mem_map.mpr ⟨p, hp, rfl⟩)
        rw [rd_wr, if_neg (by lia)]
        exact bi.ptr p hp
      · push_cast at a1
        rw [rd_wr, if_neg (by (clear mem hr hlen hhl hlr hh hn50 L he Z q hk hg h0 hlw hdk hlk hi hi' hv hm hgm hkm hzm baH balk baxs nba ez fn hN hkv hn ok hc hj es sz hl1 hl5 inv bi hhl5 hd hin hno y6 k6 a2 a3; lia))]
        exact bi.zero s (by (clear mem hr hlen hhl hlr hh hn50 L he Z q hk hg h0 hlw hdk hlk hi hi' hv hm hgm hkm hzm baH balk baxs nba ez fn hN hkv hn ok hc hj es sz hl1 hl5 inv bi hhl5 hd hin hno y6 k6 a2 a3; lia)) a2 a3
    · have hio : 4 * (j : Int) ∈ h.k.os := by simpa using hin
      have hnk : 4 * (j : Int) ∉ kv.map (·.1) := fun hm => by have := ((bi.key _).mp hm).2; lia
      have keys : ∀ v : Option Int, ∀ o, o ∈ (kv ++ [(4 * (j : Int), v)]).map (·.1) ↔ o ∈ h.k.os ∧ o < 4 * ((j + 1 : Nat) : Int) := by
        intro v o
        rw [List.map_append, List.mem_append, bi.key]
        constructor
        · rintro (⟨a, b⟩ | hm)
          · exact ⟨a, by push_cast; lia⟩
          · have : o = 4 * j := by simpa using hm
            subst this
            exact ⟨hio, by push_cast; lia⟩
        · intro ⟨a, b⟩
          have := hkm.os.mem o a
          push_cast at b
          by_cases e : o = 4 * j
          · right; simpa using e
          · left; exact ⟨a, by lia⟩
      have nds : ∀ v : Option Int, ((kv ++ [(4 * (j : Int), v)]).map (·.1)).Nodup := fun v => by
        rw [List.map_append]
        refine List.nodup_append.mpr ⟨bi.nd, by simp, fun a ha b hb e => ?_⟩
        have : b = 4 * j := by simpa using hb
        exact hnk (by rw [← this, ← e]; exact ha)
      have set : ∀ {H5 : AH} (v : Option Int), FInv H H5 A r lk hs M M4 xs → FInv H (H5.set ba (.idict ((kv ++ [(4 * (j : Int), v)]).map fun p => (p.1, oInt p.2)))) A r lk hs M M4 xs ∨ H5 ba ≠ some (.idict (kv.map fun p => (p.1, oInt p.2))) := by
        intro H5 v inv
        by_cases hb : H5 ba = some (.idict (kv.map fun p => (p.1, oInt p.2)))
        · left
          have nb : ∀ a o, H5 a = some o → (∀ ys, o ≠ .idict ys) → a ≠ ba := fun a o ha h e => by
            rw [e, hb] at ha; cases ha; exact h _ rfl
          obtain ⟨m, hm', hrow⟩ := inv.row
          refine ⟨⟨m, hm', by rw [AH.set_ne (nb _ _ hrow (by simp))]; exact hrow⟩, ⟨by rw [AH.set_ne (nb _ _ inv.mem.m (by simp))]; exact inv.mem.m, by rw [AH.set_ne (nb _ _ inv.mem.md (by simp))]; exact inv.mem.md, by rw [AH.set_ne (nb _ _ inv.mem.w (by simp))]; exact inv.mem.w⟩, by rw [AH.set_ne (nb _ _ inv.lkl (by simp))]; exact inv.lkl, inv.len, fun j' h2 x hj hx => ?_, inv.keep.own baH, inv.out, inv.zero⟩
          obtain ⟨a, b, d⟩ := inv.lk j' h2 x hj hx
          exact ⟨by show AH.set _ ba _ _ = _; rw [AH.set_ne (baxs x (List.mem_of_getElem? hx))]; exact a, b, d⟩
        · exact .inr hb
      refine Exs.cons (Ex.ifs (Tr.cmp ?_))
      refine Ev.loc ‹_› ‹_› (by rfl) (by rfl) ?_
      refine Ev.len (by exact Bi.of ‹_› (globOk _) ‹_› (by rfl) (by rfl)) ?_
      refine Ev.loc ‹_› ‹_› (by rfl) (by rfl) ?_
      refine ⟨hl, _, rfl, hhl5, by rw [List.length_map]; lia, ?_⟩
      rw [List.length_map]
      refine ⟨fun hlt => ?_, fun hlt => ?_⟩
      · have hlt : d < hs.length := by simpa using hlt
        have hdl : d.toNat < hs.length := by (clear mem hr hlen hhl hlr hh hn50 L he Z q hk hg h0 hlw hdk hlk hi hi' hv hm hgm hkm hzm baH balk baxs nba ez fn hN hkv hn ok hc hj es sz hl1 hl5 inv bi hhl5 hin hio hnk keys nds set; omega)
        have hdg : hs[d.toNat]? = some hs[d.toNat] := List.getElem?_eq_getElem hdl
        generalize hs[d.toNat] = h' at hdg
        have hm' := List.mem_of_getElem? hdg
        have hgm' := hg h' hm'
        refine Exs.cons (Ex.setdict ?_)
        refine Ev.loc ‹_› ‹_› (by rfl) (by rfl) ?_
        refine Ev.loc ‹_› ‹_› (by rfl) (by rfl) ?_
        refine ⟨ba, rfl, ?_⟩
        refine Ev.loc ‹_› ‹_› (by rfl) (by rfl) ?_
        refine ⟨_, _, rfl, bi.at_, by rw [List.length_map]; have := hkm.z; (clear mem hr hlen hhl hlr hh hn50 L Z q hk hg h0 hlw hdk hlk hi hi' hv hm hgm hkm baH balk baxs nba fn hN hn ok hc es sz hl1 hl5 inv bi hhl5 hd hin hio hnk keys nds set hlt hdl hdg hm' hgm' this; lia), ?_⟩
        have e1 := idSet_new (v := some d) hnk
        have e1 : idSet (kv.map fun p => (p.1, oInt p.2)) (4 * (j : Int)) (.int d) = _ := e1
        rw [e1]
        have inv6 := (set (some d) inv).resolve_right (fun h => h bi.at_)
        have hb6 : (H5.set ba (.idict ((kv ++ [(4 * (j : Int), some d)]).map fun p => (p.1, oInt p.2)))) ba = some (.idict ((kv ++ [(4 * (j : Int), some d)]).map fun p => (p.1, oInt p.2))) := AH.set_self ..
        generalize H5.set ba (.idict ((kv ++ [(4 * (j : Int), some d)]).map fun p => (p.1, oInt p.2))) = H6 at inv6 hb6 ⊢
        refine Exs.cons (Ex.wr ok ?_)
        refine Ev.loc ‹_› ‹_› (by rfl) (by rfl) ?_
        refine ⟨A, M4, rfl, inv6.mem, Ev.bin ?_⟩
        refine Ev.loc ‹_› ‹_› (by rfl) (by rfl) ?_
        refine Ev.loc ‹_› ‹_› (by rfl) (by rfl) ?_
        refine (?_ : Ev _ _ _ _ _ _)
        refine Ev.item (Ev.item ?_)
        refine Ev.loc ‹_› ‹_› (by rfl) (by rfl) ?_
        refine Ev.loc ‹_› ‹_› (by rfl) (by rfl) ?_
        refine ⟨.ref h'.t, .list (inv6.keep.get hlw hhl) hd.1 (by rw [List.getElem?_map, hdg]; rfl) (by lia), Ev.int ⟨.int h'.a, .tuple (hdk inv6.keep h' hm').1 (by decide) rfl (by decide), h.a + 4 * j, M4, h'.a, rfl, rfl, inv6.mem, by lia, fun H7 y7 k7 => Exs.nil (Exs.nil (Exs.nil (hN _ (by rfl) ⟨rfl, _, kv ++ [(4 * (j : Int), some d)], inv6.write h0 hlk k7 y7 L hk hi' (by lia) sz (by lia), ⟨k7.get (by simp at nba ⊢; exact nba.1) hb6, nds _, keys _, fun p hp => ?_, fun s a1 a2 a3 => ?_⟩, by simp; lia⟩)))⟩⟩
        · rcases List.mem_append.mp hp with hp | hp
          · have hp1 := (bi.key p.1).mp (List.mem_map.mpr ⟨p, hp, rfl⟩)
            have := hkm.os.mem _ hp1.1
            rw [rd_wr, if_neg (by (clear mem hr hlen hhl hlr hh hn50 L he Z q hk hg h0 hlw hdk hlk hi hi' hv hm hkm hzm baH balk baxs nba ez fn hN hkv hn ok hc hj es sz hl1 hl5 inv bi hhl5 hd hin hio hnk keys nds set hlt hdl hdg hm' hgm' e1 inv6 hb6 y7 k7 hp this; lia))]
            exact bi.ptr p hp
          · have : p = (4 * (j : Int), some d) := by simpa using hp
            subst this
            refine .inr ⟨d, h', rfl, hd.1, hlt, hdg, ?_⟩
            have := bs_rng (hk h' hm').z
            rw [rd_wr, if_pos rfl]; lia
        · push_cast at a1
          rw [rd_wr, if_neg (by (clear mem hr hlen hhl hlr hh hn50 L he Z q hk hg h0 hlw hdk hlk hi hi' hv hm hgm hkm hzm baH balk baxs nba ez fn hN hkv hn ok hc hj es sz hl1 hl5 inv bi hhl5 hd hin hio hnk keys nds set hlt hdl hdg hm' hgm' e1 inv6 hb6 y7 k7 a2 a3; lia))]
          exact bi.zero s (by (clear mem hr hlen hhl hlr hh hn50 L he Z q hk hg h0 hlw hdk hlk hi hi' hv hm hgm hkm hzm baH balk baxs nba ez fn hN hkv hn ok hc hj es sz hl1 hl5 inv bi hhl5 hd hin hio hnk keys nds set hlt hdl hdg hm' hgm' e1 inv6 hb6 y7 k7 a2 a3; lia)) a2 a3
      · refine Exs.cons (Ex.setdict (Ev.none ?_))
        refine Ev.loc ‹_› ‹_› (by rfl) (by rfl) ?_
        refine ⟨ba, rfl, ?_⟩
        refine Ev.loc ‹_› ‹_› (by rfl) (by rfl) ?_
        refine ⟨_, _, rfl, bi.at_, by rw [List.length_map]; have := hkm.z; (clear mem hr hlen hhl hlr hh hn50 L Z q hk hg h0 hlw hdk hlk hi hi' hv hm hgm hkm baH balk baxs nba fn hN hn ok hc es sz hl1 hl5 inv bi hhl5 hd hin hio hnk keys nds set hlt this; lia), ?_⟩
        have e1 := idSet_new (v := none) hnk
        have e1 : idSet (kv.map fun p => (p.1, oInt p.2)) (4 * (j : Int)) .none = _ := e1
        rw [e1]
        have inv6 := (set none inv).resolve_right (fun h => h bi.at_)
        refine Exs.nil (Exs.nil (Exs.nil (hN _ (by rfl) ⟨rfl, M4, kv ++ [(4 * (j : Int), none)], inv6, ⟨AH.set_self .., nds _, keys _, fun p hp => ?_, fun s a1 a2 a3 => bi.zero s (by push_cast at a1; omega) a2 a3⟩, by simp; lia⟩)))
        rcases List.mem_append.mp hp with hp | hp
        · exact bi.ptr p hp
        · have : p = (4 * (j : Int), none) := by simpa using hp
          subst this
          exact .inl ⟨rfl, bi.zero _ (by lia) sz (by lia)⟩
end

/-! the layout, in plain words -/
noncomputable def rc (h : HD) : Rec := ⟨h.a, bs h.k.z, h.k.w, h.k.os⟩
noncomputable def hb (h : HD) : Blk := rb (rc h)
noncomputable def tailB (e lim : Int) : List Blk := if e < lim then [⟨e, lim - e, none⟩] else []
noncomputable def bls (hs : List HD) (e lim : Int) : List Blk := hs.map hb ++ tailB e lim
noncomputable def HeadsOk (hs : List HD) (M : Int → Int) : Prop := ∀ h ∈ hs, rd M (h.a - 8) = h.k.w ∧ rd M h.k.w = h.k.z
noncomputable def Rng (M : Int → Int) : Prop := ∀ k, 0 ≤ M k ∧ M k < 4294967296
noncomputable def Kds (hs : List HD) : Prop := ∀ h ∈ hs, KdOk h.k
section
variable {M M' : Int → Int} {hs kh : List HD} {b e lim t y w : Int} {h : HD}
theorem Kds.tail (x : Kds (h :: hs)) : Kds hs := fun y hy => x y (.tail _ hy)
theorem Rng.wr (r : Rng M) (a v : Int) : Rng (wr M a v) := fun k => by
  unfold Mine.wr setM
  split
  · lia
  · exact r k
theorem rd_rng (r : Rng M) : 0 ≤ rd M y ∧ rd M y < 4294967296 := r _
theorem rd_wr_ne (x v : Int) (h : y / 4 ≠ x / 4) : rd (wr M x v) y = rd M y := by rw [rd_wr, if_neg h]
theorem rd_wr_eq {x v : Int} (h : y / 4 = x / 4) (hv : 0 ≤ v ∧ v < 4294967296) : rd (wr M x v) y = v := by rw [rd_wr, if_pos h]; lia
theorem tiles_of (L : Lay b hs e) : Kds hs → b % 16 = 0 → 0 ≤ b → e ≤ lim → lim ≤ 4000 → lim % 16 = 0 → HeadsOk hs M → (e < lim → rd M e = lim - e + 1) → Tiles M lim b (bls hs e lim) := by
  induction L with
  | @nil b =>
    intro _ hb' h0 he hl hp _ tl
    unfold bls tailB
    simp only [List.map_nil, List.nil_append]
    split
    · rename_i hlt
      refine .free (tl hlt) (by (clear hb' h0 he hl hp tl; lia)) (by lia) h0 (by (clear hb' h0 he hp tl hlt; lia)) ?_
      rw [show b + (lim - b) = lim by lia]; exact .nil
    · rw [show b = lim by (clear hb' h0 hl hp tl; lia)]; exact .nil
  | @cons b h r e h1 h2 ih =>
    intro kd hb' h0 he hl hp hd tl
    have k := kd h (.head _)
    have hz := bs_rng k.z
    have kw := k.w
    have := h2.le kd.tail
    have hd' := hd h (.head _)
    rw [h1, show b + 8 - 8 = b by (clear h1 h2 ih kd hb' h0 he hl hp hd tl k hz kw this hd'; lia)] at hd'
    have e1 : bls (h :: r) e lim = ⟨b, bs h.k.z, some h.k.w⟩ :: bls r e lim := by
      unfold bls hb rb rc
      rw [List.map_cons, List.cons_append, h1, show b + 8 - 8 = b by omega]
    rw [e1]
    exact .used hd'.1 (by lia) (by lia) (by lia) (by rw [hd'.2]) (by lia) h0 (by (clear h1 h2 ih kd hb' h0 hp hd tl k hz kw hd' e1; lia)) (ih kd.tail (by (clear h1 h2 ih kd h0 he hl hp hd tl k kw this hd' e1; lia)) (by (clear h1 h2 ih kd hb' he hl hp hd tl k kw this hd' e1; lia)) he hl hp (fun x hx => hd x (.tail _ hx)) tl)

theorem bof_in (L : Lay b hs e) : Kds hs → b % 16 = 0 → h ∈ hs → h.a ≤ w → w < h.a - 8 + bs h.k.z → bof (bls hs e lim) w = h.a := by
  induction L with
  | nil => intro _ _ hh; cases hh
  | @cons b x r e h1 h2 ih =>
    intro kd hb' hh w0 w1
    have hz := bs_rng (kd x (.head _)).z
    show (if w < x.a - 8 + bs x.k.z then (if (some x.k.w = none) ∨ w < x.a - 8 + 8 then 0 else x.a - 8 + 8) else bof (bls r e lim) w) = _
    rcases List.mem_cons.mp hh with rfl | hh
    · rw [if_pos w1, if_neg (by simp; (clear hb' w1 h1 h2 ih kd hh hz; lia))]; lia
    · have := h2.get kd.tail (by (clear h1 h2 ih kd w0 w1 hh; lia)) h hh
      rw [if_neg (by (clear h2 ih kd hb' w1 hz hh; lia))]
      exact ih kd.tail (by (clear h1 h2 ih kd w0 w1 hh this; lia)) hh w0 w1
theorem bof_or (L : Lay b hs e) : bof (bls hs e lim) w = 0 ∨ ∃ h ∈ hs, bof (bls hs e lim) w = h.a ∧ h.a ≤ w ∧ w < h.a - 8 + bs h.k.z := by
  induction L with
  | @nil b =>
    left
    unfold bls tailB
    simp only [List.map_nil, List.nil_append]
    split
    · rw [bof_cons]; simp; exact fun _ => rfl
    · rfl
  | @cons b x r e h1 h2 ih =>
    have e1 : bof (bls (x :: r) e lim) w = (if w < x.a - 8 + bs x.k.z then (if (some x.k.w = none) ∨ w < x.a - 8 + 8 then 0 else x.a - 8 + 8) else bof (bls r e lim) w) := rfl
    rw [e1]
    split
    · split
      · exact .inl rfl
      · rename_i h3 h4
        simp at h4
        exact .inr ⟨x, .head _, by (clear h1 h2 ih e1 h3 h4; lia), by lia, h3⟩
    · rcases ih with ih | ⟨y, hy, r⟩
      · exact .inl ih
      · exact .inr ⟨y, .tail _ hy, r⟩
theorem inH_or (L : Lay b hs e) : inH lim (bls hs e lim) w = 0 ∨ ∃ h ∈ hs, inH lim (bls hs e lim) w = h.a ∧ h.a ≤ w ∧ w < h.a - 8 + bs h.k.z := by
  unfold inH
  split
  · exact .inl rfl
  · exact bof_or L
theorem inH_in (L : Lay 1024 hs e) (kd : Kds hs) (he : e ≤ lim) (hh : h ∈ hs) (w0 : h.a ≤ w) (w1 : w < h.a - 8 + bs h.k.z) : inH lim (bls hs e lim) w = h.a := by
  have := L.get kd (by decide) h hh
  unfold inH
  rw [if_neg (by omega)]
  exact bof_in L kd (by decide) hh w0 w1

/-! the targets -/
theorem rd_setT_ne {kb : List Blk} (h : ∀ x ∈ kb, y / 4 ≠ (x.b + 4) / 4) : rd (setT M t kb) y = rd M y := by
  induction kb generalizing M t with
  | nil => rfl
  | cons x r ih =>
    show rd (setT (wr M (x.b + 4) (t + 8)) (t + x.z) r) y = _
    rw [ih fun x hx => h x (.tail _ hx), rd_wr_ne _ _ (h x (.head _))]
theorem setT_rng {kb : List Blk} (r : Rng M) : Rng (setT M t kb) := by
  induction kb generalizing M t with
  | nil => exact r
  | cons x q ih => exact ih (r.wr _ _)
/-- records one behind the other, from b on, with what lies between -/
inductive Apart : Int → List HD → Int → Prop
  | nil {b e : Int} : b ≤ e → Apart b [] e
  | cons {b : Int} {h : HD} {r : List HD} {e : Int} : b + 8 ≤ h.a → h.a % 16 = 8 → Apart (h.a - 8 + bs h.k.z) r e → Apart b (h :: r) e
/-- the marks hold the targets -/
noncomputable def Tg (M : Int → Int) : Int → List HD → Prop
  | _, [] => True
  | t, h :: r => rd M (h.a - 4) = t + 8 ∧ Tg M (t + bs h.k.z) r
theorem Apart.get (A : Apart b kh e) : Kds kh → ∀ h ∈ kh, b + 8 ≤ h.a ∧ h.a % 16 = 8 ∧ h.a - 8 + bs h.k.z ≤ e := by
  induction A with
  | nil => intro _ h hh; cases hh
  | @cons b h r e h1 h2 h3 ih =>
    intro kd x hx
    have hz := bs_rng (kd h (.head _)).z
    have ih := ih kd.tail
    rcases List.mem_cons.mp hx with rfl | hx
    · refine ⟨h1, h2, ?_⟩
      cases h3 with
      | nil h => exact h
      | @cons _ y _ _ a1 a2 a3 =>
        have := ih y (.head _)
        have := bs_rng (kd y (.tail _ (.head _))).z
        (clear h1 h2 hz a2 a1 kd hx ih a3; lia)
    · have := ih x hx; (clear h2 h3 kd ih hx; lia)
theorem Apart.endT (A : Apart b kh e) : Kds kh → t ≤ b → endT t (kh.map hb) ≤ e := by
  induction A generalizing t with
  | nil h => intro _ ht; exact Int.le_trans ht h
  | @cons b h r e h1 h2 h3 ih => exact fun kd ht => ih kd.tail (show t + bs h.k.z ≤ _ by (clear h2 h3 ih kd; lia))
theorem Tg.congr (A : Apart b kh e) : Kds kh → (∀ h ∈ kh, rd M' (h.a - 4) = rd M (h.a - 4)) → Tg M t kh → Tg M' t kh := by
  induction A generalizing t with
  | nil => exact fun _ _ _ => trivial
  | cons _ _ _ ih => exact fun kd h g => ⟨(h _ (.head _)).trans g.1, ih kd.tail (fun x hx => h x (.tail _ hx)) g.2⟩
theorem setT_tg (A : Apart b kh e) : Kds kh → 0 ≤ t → t ≤ b → e ≤ 4000 → Tg (setT M t (kh.map hb)) t kh := by
  induction A generalizing t M with
  | nil => exact fun _ _ _ _ => trivial
  | @cons b h r e h1 h2 h3 ih =>
    intro kd t0 tb he
    have hz := bs_rng (kd h (.head _)).z
    have ap := h3.get kd.tail
    have := (Apart.cons h1 h2 h3).get kd h (.head _)
    refine ⟨?_, ih (M := wr M (h.a - 8 + 4) (t + 8)) (t := t + bs h.k.z) kd.tail (by lia) (by (clear h3 ih kd t0 he hz ap this; omega)) he⟩
    show rd (setT (wr M (h.a - 8 + 4) (t + 8)) (t + bs h.k.z) (r.map hb)) (h.a - 4) = _
    rw [rd_setT_ne, rd_wr_eq (by lia) (by (clear h1 h3 ih kd ap; lia))]
    intro x hx
    obtain ⟨y, hy, rfl⟩ := List.mem_map.mp hx
    have := ap y hy
    show (h.a - 4) / 4 ≠ (y.a - 8 + 4) / 4
    (clear h1 h3 ih kd t0 tb he ap hy hx; omega)

/-! the copies -/
theorem cp_ne {n : Nat} (h : y / 4 < t / 4 ∨ t / 4 + n ≤ y / 4) (ht : t % 4 = 0) : rd (cp M t b n) y = rd M y := by
  induction n with
  | zero => rfl
  | succ n ih =>
    show rd (wr (cp M t b n) (t + 4 * n) _) y = _
    rw [rd_wr_ne _ _ (by (clear ht ih; lia)), ih (by (clear ht ih; lia))]
theorem cp_at {n i : Nat} (r : Rng M) (ht : t % 4 = 0) (hb : b % 4 = 0) (h : t ≤ b) (hi : i < n) : rd (cp M t b n) (t + 4 * i) = rd M (b + 4 * i) := by
  induction n with
  | zero => lia
  | succ n ih =>
    show rd (wr (cp M t b n) (t + 4 * n) (rd (cp M t b n) (b + 4 * n))) (t + 4 * i) = _
    have e : rd (cp M t b n) (b + 4 * n) = rd M (b + 4 * n) := cp_ne (by (clear r ht hb ih hi; lia)) ht
    rcases Nat.lt_or_ge i n with hlt | hge
    · rw [rd_wr_ne _ _ (by (clear r ht hb h ih hi e; lia)), ih hlt]
    · have : i = n := by lia
      subst this
      rw [e, rd_wr_eq rfl (rd_rng r)]
theorem cp_rng {n : Nat} (r : Rng M) : Rng (cp M t b n) := by
  induction n with
  | zero => exact r
  | succ n ih => exact ih.wr _ _
/-- one record slid down -/
structure Slid (M M' : Int → Int) (t : Int) (h : HD) : Prop where
  rng : Rng M'
  lo : ∀ y, y / 4 < t / 4 → rd M' y = rd M y
  hi : ∀ y, (t + bs h.k.z) / 4 ≤ y / 4 → rd M' y = rd M y
  mark : rd M' (t + 4) = 0
  at_ : ∀ s, 0 ≤ s → s < bs h.k.z → s % 4 = 0 → s ≠ 4 → rd M' (t + s) = rd M (h.a - 8 + s)
theorem slide1_at (r : Rng M) (hk : KdOk h.k) (ha : h.a % 16 = 8) (hm : rd M (h.a - 4) = t + 8) (ht : t % 16 = 0) (hle : t ≤ h.a - 8) : Slid M (slide1 M (hb h)) t h := by
  have hz := bs_rng hk.z
  have e : slide1 M (hb h) = wr (cp M t (h.a - 8) (bs h.k.z / 4).toNat) (t + 4) 0 := by
    show wr (cp M (rd M (h.a - 8 + 4) - 8) (h.a - 8) (bs h.k.z / 4).toNat) (rd M (h.a - 8 + 4) - 8 + 4) 0 = _
    rw [show h.a - 8 + 4 = h.a - 4 by (clear r hk ha hm ht hle hz; lia), hm, show t + 8 - 8 = t by lia]
  rw [e]
  refine ⟨(cp_rng r).wr _ _, fun y hy => ?_, fun y hy => ?_, rd_wr_eq rfl (by decide), fun s s0 s1 s4 sn => ?_⟩
  · rw [rd_wr_ne _ _ (by (clear r hk ha hm ht hle hz e; lia)), cp_ne (.inl hy) (by (clear r hk ha hm hle hz e hy; lia))]
  · rw [rd_wr_ne _ _ (by (clear r hk ha hm ht hle e; lia)), cp_ne (.inr (by (clear r hk ha hm ht hle e; lia))) (by omega)]
  · rw [rd_wr_ne _ _ (by (clear r hk ha hm ht hle hz e s0 s1; lia))]
    have := cp_at (t := t) (b := h.a - 8) (n := (bs h.k.z / 4).toNat) (i := (s / 4).toNat) r (by omega) (by lia) hle (by (clear r hk ha hm ht hle e s0 s4 sn; lia))
    rw [show (4 * ((s / 4).toNat : Int)) = s by lia] at this
    exact this
/-- all of them -/
noncomputable def Done (M M' : Int → Int) : Int → List HD → Prop
  | _, [] => True
  | t, h :: r => (rd M' (t + 4) = 0 ∧ ∀ s, 0 ≤ s → s < bs h.k.z → s % 4 = 0 → s ≠ 4 → rd M' (t + s) = rd M (h.a - 8 + s)) ∧ Done M M' (t + bs h.k.z) r
theorem Done.congr {N N' : Int → Int} (A : Apart b kh e) : Kds kh → t % 16 = 0 → (∀ y, b ≤ y → rd N y = rd M y) → (∀ y, endT t (kh.map hb) ≤ y ∨ rd N' y = rd M' y) → Done M M' t kh → Done N N' t kh := by
  induction A generalizing t with
  | nil => exact fun _ _ _ _ _ => trivial
  | @cons b h r e h1 h2 h3 ih =>
    intro kd ht hN hN' g
    have hz := bs_rng (kd h (.head _)).z
    have le : ∀ (l : List HD) t, Kds l → t ≤ endT t (l.map hb) := by
      intro l
      induction l with
      | nil => exact fun t _ => Int.le_refl _
      | cons x l ih' =>
        intro t kd
        have := bs_rng (kd x (.head _)).z
        have := ih' (t + bs x.k.z) kd.tail
        show t ≤ endT (t + bs x.k.z) (l.map hb)
        lia
    have hle : t + bs h.k.z ≤ endT t ((h :: r).map hb) := le r (t + bs h.k.z) kd.tail
    refine ⟨⟨((hN' (t + 4)).resolve_left (by (clear h1 h2 h3 ih kd ht hN hN' g le; lia))).trans g.1.1, fun s s0 s1 s4 sn => ?_⟩, ih kd.tail (by lia) (fun y hy => hN y (by (clear h2 h3 ih kd ht hN hN' g le hle; lia))) hN' g.2⟩
    rw [(hN' (t + s)).resolve_left (by (clear h1 h2 h3 ih kd ht hN hN' g hz le s0 s4 sn; lia)), g.1.2 s s0 s1 s4 sn, hN _ (by (clear h2 h3 ih kd ht hN hN' g hz le hle s1 s4 sn; lia))]
theorem slide_all (A : Apart b kh e) : Kds kh → Rng M → Tg M t kh → t % 16 = 0 → 0 ≤ t → t ≤ b → e ≤ 4000 →
    SlideOk M (kh.map hb) ∧ Rng (slideL M (kh.map hb)) ∧ (∀ y, y / 4 < t / 4 → rd (slideL M (kh.map hb)) y = rd M y) ∧ Done M (slideL M (kh.map hb)) t kh := by
  induction A generalizing t M with
  | nil => exact fun _ r _ _ _ _ _ => ⟨.nil, r, fun _ _ => rfl, trivial⟩
  | @cons b h r e h1 h2 h3 ih =>
    intro kd rg tg ht t0 tb he
    have hk := kd h (.head _)
    have hz := bs_rng hk.z
    have ap := h3.get kd.tail
    have all := (Apart.cons h1 h2 h3).get kd h (.head _)
    have S := slide1_at rg hk h2 tg.1 ht (by (clear h2 h3 ih kd rg tg ht t0 he hk hz ap all; lia))
    have tg' : Tg (slide1 M (hb h)) (t + bs h.k.z) r := Tg.congr h3 kd.tail (fun y hy => S.hi _ (by have := ap y hy; (clear h2 h3 ih kd rg tg ht t0 he hk hz ap all S hy; lia))) tg.2
    obtain ⟨so, sr, sl, sd⟩ := ih kd.tail S.rng tg' (by lia) (by (clear h1 h2 h3 ih kd rg tg ht tb he hk ap all S tg'; lia)) (by (clear h3 ih kd rg tg ht t0 he hk hz ap all S tg'; omega)) he
    refine ⟨.cons ?_ ?_ ?_ ?_ ?_ ?_ so, sr, fun y hy => ?_, ⟨?_, fun s s0 s1 s4 sn => ?_⟩, ?_⟩
    · show 0 ≤ rd M (h.a - 8 + 4) - 8
      rw [show h.a - 8 + 4 = h.a - 4 by lia, tg.1]; (clear h1 h2 h3 ih kd rg tg ht tb he hk hz ap all S tg' so sr sl sd; lia)
    · show rd M (h.a - 8 + 4) - 8 + bs h.k.z ≤ 4096
      rw [show h.a - 8 + 4 = h.a - 4 by omega, tg.1]; (clear h1 h3 ih kd rg tg ht t0 hk hz ap S tg' so sr sl sd; lia)
    · show 0 ≤ h.a - 8; (clear h2 h3 ih kd rg tg ht he hk hz ap all S tg' so sr sl sd; lia)
    · show h.a - 8 + bs h.k.z ≤ 4096; (clear h1 h3 ih kd rg tg ht t0 tb hk hz ap S tg' so sr sl sd; lia)
    · show bs h.k.z % 4 = 0; lia
    · show 8 ≤ bs h.k.z; lia
    · exact (sl y (by (clear h1 h2 h3 ih kd rg tg ht t0 tb he hk ap all S tg' so sr sl sd; lia))).trans (S.lo y hy)
    · exact (sl _ (by (clear h1 h2 h3 ih kd rg tg ht t0 tb he hk ap all S tg' so sr sl sd; lia))).trans S.mark
    · exact (sl _ (by (clear h1 h2 h3 ih kd rg tg t0 tb he hk ap all S tg' so sr sl sd s0 s4 sn; lia))).trans (S.at_ s s0 s1 s4 sn)
    · exact sd.congr h3 kd.tail (by omega) (fun y hy => (S.hi y (by (clear h2 h3 ih kd rg tg ht t0 he hk hz ap all S tg' so sr sl sd; lia))).symm) (fun _ => .inr rfl)
end

/-! the pointers altered -/
section
variable {M M' : Int → Int} {hs kh : List HD} {b e lim t y w : Int} {h : HD} {ps : List Int} {ks : List Rec}
noncomputable def aval (lim : Int) (M : Int → Int) (p : Int) : Int := if 1024 < rd M p ∧ rd M p < lim then rd M (rd M p - 4) else rd M p
theorem alt1_ne {p : Int} (h : y / 4 ≠ p / 4) : rd (alt1 lim M p) y = rd M y := by
  unfold alt1
  split
  · exact rd_wr_ne _ _ h
  · rfl
theorem alt1_at {p : Int} (r : Rng M) : rd (alt1 lim M p) p = aval lim M p := by
  unfold alt1 aval
  split
  · exact rd_wr_eq rfl (rd_rng r)
  · rfl
theorem alt1_rng {p : Int} (r : Rng M) : Rng (alt1 lim M p) := by
  unfold alt1
  split
  · exact r.wr _ _
  · exact r
theorem altL_ne (h : ∀ p ∈ ps, y / 4 ≠ p / 4) : rd (altL lim M ps) y = rd M y := by
  induction ps generalizing M with
  | nil => rfl
  | cons p r ih => exact (ih fun q hq => h q (.tail _ hq)).trans (alt1_ne (h p (.head _)))
theorem altL_rng (r : Rng M) : Rng (altL lim M ps) := by
  induction ps generalizing M with
  | nil => exact r
  | cons p q ih => exact ih (alt1_rng r)
theorem altL_at (r : Rng M) (d : ps.Pairwise fun p q => p / 4 ≠ q / 4) (m : ∀ p ∈ ps, 1024 < rd M p → rd M p < lim → ∀ q ∈ ps, (rd M p - 4) / 4 ≠ q / 4) : ∀ p ∈ ps, rd (altL lim M ps) p = aval lim M p := by
  induction ps generalizing M with
  | nil => intro p hp; cases hp
  | cons x q ih =>
    have d' := List.pairwise_cons.mp d
    have e : ∀ p ∈ q, rd (alt1 lim M x) p = rd M p := fun p hp => alt1_ne fun e => d'.1 p hp e.symm
    intro p hp
    rcases List.mem_cons.mp hp with rfl | hp
    · exact (altL_ne fun q hq => d'.1 q hq).trans (alt1_at r)
    · show rd (altL lim (alt1 lim M x) q) p = _
      rw [ih (alt1_rng r) d'.2 (fun p hp a1 a2 z hz => by rw [e p hp] at a1 a2 ⊢; exact m p (.tail _ hp) a1 a2 z (.tail _ hz)) p hp]
      unfold aval
      rw [e p hp]
      split
      · rename_i hr
        exact alt1_ne (m p (.tail _ hp) hr.1 hr.2 x (.head _))
      · rfl
theorem altL_append {qs : List Int} : altL lim M (ps ++ qs) = altL lim (altL lim M ps) qs := by
  induction ps generalizing M with
  | nil => rfl
  | cons p r ih => exact ih
theorem altR_eq : altR lim M ks = altL lim M (ks.flatMap pls) := by
  induction ks generalizing M with
  | nil => rfl
  | cons x r ih => rw [List.flatMap_cons, altL_append]; exact ih
theorem altOk (pl : ∀ r ∈ ks, PlOk M r) (sep : ∀ r ∈ ks, ∀ p ∈ pls r, 1024 ≤ p ∧ ∀ r' ∈ ks, p / 4 ≠ (r'.a - 8) / 4) : AltOk lim M ks := by
  have key : ∀ (l : List Rec) (M' : Int → Int), (∀ x ∈ l, x ∈ ks) → (∀ y, (∀ r ∈ ks, ∀ p ∈ pls r, y / 4 ≠ p / 4) → rd M' y = rd M y) → AltOk lim M' l := by
    intro l
    induction l with
    | nil => exact fun _ _ _ => .nil
    | cons r q ih =>
      intro M' hl hM
      have hr := hl r (.head _)
      have P := pl r hr
      have low : ∀ y, y < 1024 → rd M' y = rd M y := fun y hy => hM y fun r hr p hp => by have := (sep r hr p hp).1; lia
      refine .cons ⟨P.a, (hM _ fun r' hr' p hp e => (sep r' hr' p hp).2 r hr e.symm).trans P.h, P.d, fun k o hk => ?_, P.o, ?_⟩ (ih _ (fun x hx => hl x (.tail _ hx)) fun y hy => (altL_ne (hy r hr)).trans (hM y hy))
      · have := (List.getElem?_eq_some_iff.mp hk).1
        have := P.d
        rw [low _ (by lia)]; exact P.t k o hk
      · have := P.d
        rw [low _ (by lia)]; exact P.e
  exact key ks M (fun _ h => h) fun _ _ => rfl
end

/-! what is kept -/
section
variable {M M' : Int → Int} {hs kh : List HD} {b e lim t y w : Int} {h : HD}
theorem filter_st {α : Type} {d : α} {p : α → Bool} : ∀ (l : List α) (k : Nat) (st : List Int), st.Pairwise (· < ·) → (∀ i ∈ st, (k : Int) ≤ i ∧ i < k + l.length) → (∀ (j : Nat) x, l[j]? = some x → (p x = true ↔ ((k + j : Nat) : Int) ∈ st)) →
    l.filter p = st.map fun i => l.getD (i.toNat - k) d
  | [], k, st, _, hr, _ => by
    cases st with
    | nil => rfl
    | cons i r => have := hr i (.head _); simp at this; lia
  | x :: l, k, st, hp, hr, hm => by
    have h0 := hm 0 x rfl
    have hm' : ∀ (st' : List Int), (∀ i : Int, (k : Int) + 1 ≤ i → (i ∈ st' ↔ i ∈ st)) → ∀ (j : Nat) y, l[j]? = some y → (p y = true ↔ ((k + 1 + j : Nat) : Int) ∈ st') := fun st' hs j y hy => by
      rw [hm (j + 1) y (by simpa using hy), hs _ (by lia), show k + (j + 1) = k + 1 + j by lia]
    have hl : ((x :: l).length : Int) = l.length + 1 := by simp
    have shift : ∀ st' : List Int, (∀ i ∈ st', (k : Int) + 1 ≤ i) → st'.map (fun i => l.getD (i.toNat - (k + 1)) d) = st'.map fun i => (x :: l).getD (i.toNat - k) d := fun st' h => by
      refine List.map_congr_left fun i hi => ?_
      have := h i hi
      rw [show i.toNat - k = (i.toNat - (k + 1)) + 1 by lia]; rfl
    cases hpx : p x with
    | true =>
      have hk := h0.mp hpx
      cases st with
      | nil => cases hk
      | cons i r =>
        have hp' := List.pairwise_cons.mp hp
        have e : i = k := by
          have := (hr i (.head _)).1
          rcases List.mem_cons.mp hk with e | hk
          · exact e.symm
          · have := hp'.1 _ hk; simp at this; lia
        subst e
        have lo : ∀ i ∈ r, (k : Int) + 1 ≤ i := fun i hi => by have := hp'.1 i hi; lia
        rw [List.filter_cons_of_pos hpx, filter_st l (k + 1) r hp'.2 (fun i hi => by have := lo i hi; have := hr i (.tail _ hi); omega) (hm' r fun i hi => ⟨fun h => .tail _ h, fun h => by
          rcases List.mem_cons.mp h with e | h
          · lia
          · exact h⟩), shift r lo]
        simp
    | false =>
      have lo : ∀ i ∈ st, (k : Int) + 1 ≤ i := fun i hi => by
        have := (hr i hi).1
        rcases Int.lt_or_eq_of_le this with h | h
        · omega
        · rw [← h] at hi; rw [h0.mpr hi] at hpx; cases hpx
      rw [List.filter_cons_of_neg (by rw [hpx]; decide), filter_st l (k + 1) st hp (fun i hi => by have := lo i hi; have := hr i hi; omega) (hm' st fun i hi => Iff.rfl), shift st lo]
theorem Lay.sub (L : Lay b hs e) (p : HD → Bool) : Kds hs → b % 16 = 0 → ∀ b', b' ≤ b → Apart b' (hs.filter p) e := by
  induction L with
  | nil => exact fun _ _ b' hb' => .nil hb'
  | @cons b h r e h1 h2 ih =>
    intro kd hb' b' hle
    have hz := bs_rng (kd h (.head _)).z
    cases hp : p h with
    | true => rw [List.filter_cons_of_pos hp]; exact .cons (by (clear h2 ih kd hb' hz hp; lia)) (by lia) (ih kd.tail (by (clear h1 h2 ih kd hle hp; lia)) _ (by (clear h2 ih kd hb' hle hz hp; lia)))
    | false => rw [List.filter_cons_of_neg (by rw [hp]; decide)]; exact ih kd.tail (by omega) _ (by (clear h1 h2 ih kd hb' hp; lia))
/-- the kept records at their new places -/
noncomputable def relay : Int → List HD → List HD
  | _, [] => []
  | t, h :: r => { h with a := t + 8 } :: relay (t + bs h.k.z) r
theorem relay_lay : ∀ (l : List HD) (t : Int), Lay t (relay t l) (endT t (l.map hb))
  | [], _ => .nil
  | h :: r, t => .cons rfl (relay_lay r (t + bs h.k.z))
theorem relay_kds : ∀ {l : List HD} {t : Int}, Kds l → Kds (relay t l)
  | [], _, _ => fun _ h => nomatch h
  | h :: r, t, kd => fun x hx => by
    rcases List.mem_cons.mp hx with rfl | hx
    · exact kd h (.head _)
    · exact relay_kds (l := r) kd.tail x hx
theorem relay_get : ∀ {l : List HD} {t : Int} {m : Nat} {h : HD}, l[m]? = some h → (relay t l)[m]? = some { h with a := endT t ((l.take m).map hb) + 8 }
  | x :: r, t, 0, h, e => by cases e; rfl
  | x :: r, t, m + 1, h, e => by
    show (relay (t + bs x.k.z) r)[m]? = _
    rw [relay_get (l := r) (by simpa using e)]; rfl
theorem relay_len : ∀ {l : List HD} {t : Int}, (relay t l).length = l.length
  | [], _ => rfl
  | x :: r, t => congrArg (· + 1) (relay_len (l := r))
theorem Done.get : ∀ {l : List HD} {t : Int} {m : Nat} {h : HD}, Done M M' t l → l[m]? = some h → rd M' (endT t ((l.take m).map hb) + 4) = 0 ∧ ∀ s, 0 ≤ s → s < bs h.k.z → s % 4 = 0 → s ≠ 4 → rd M' (endT t ((l.take m).map hb) + s) = rd M (h.a - 8 + s)
  | x :: r, t, 0, h, d, e => by cases e; exact d.1
  | x :: r, t, m + 1, h, d, e => Done.get (l := r) d.2 (by simpa using e)
theorem Tg.get : ∀ {l : List HD} {t : Int} {m : Nat} {h : HD}, Tg M t l → l[m]? = some h → rd M (h.a - 4) = endT t ((l.take m).map hb) + 8
  | x :: r, t, 0, h, d, e => by cases e; exact d.1
  | x :: r, t, m + 1, h, d, e => Tg.get (l := r) d.2 (by simpa using e)
end

/-! the law's scene -/
structure Scene (hs : List HD) (lks : List LK) (M : Int → Int) (lim e : Int) (ss ws st : List Int) : Prop where
  lay : Lay 1024 hs e
  kd : Kds hs
  le : e ≤ lim
  lm : 1024 < lim ∧ lim ≤ 4000 ∧ lim % 16 = 0
  rng : Rng M
  mem : HMem hs M e lim
  len : lks.length = hs.length
  n50 : hs.length ≤ 50
  lk : ∀ (j : Nat) h x, hs[j]? = some h → lks[j]? = some x → LinkOk hs M h x
  wd : ∀ w ∈ ws, (∃ s ∈ ss, ∃ h, hs[s.toNat]? = some h ∧ h.a ≤ w ∧ w < h.a - 8 + bs h.k.z) ∨ w < 1024 ∨ lim ≤ w
  sw : ∀ s ∈ ss, 0 ≤ s ∧ ∃ h, hs[s.toNat]? = some h ∧ ∃ w ∈ ws, h.a ≤ w ∧ w < h.a - 8 + bs h.k.z
  srt : st.Pairwise (· < ·)
  cl : ClI lks ss st
  has : ∀ s ∈ ss, s ∈ st
  clo : ∀ i ∈ st, ∀ j, Nx lks i j → j ∈ st
noncomputable def Gd (hs : List HD) (st : List Int) (a : Int) : Prop := ∃ i ∈ st, ∃ h, hs[i.toNat]? = some h ∧ h.a = a
noncomputable def d0 : HD := ⟨0, 0, ⟨0, 0, 0, 0, []⟩⟩
noncomputable def kp (hs : List HD) (st : List Int) : List HD := st.map fun i => hs.getD i.toNat d0
section
variable {M Mk : Int → Int} {hs : List HD} {lks : List LK} {lim e y w : Int} {h : HD} {ss ws st : List Int}
theorem mem_rc {P : Rec → Prop} (h : ∀ h ∈ hs, P (rc h)) : ∀ r ∈ hs.map rc, P r := fun r hr => by
  obtain ⟨x, hx, rfl⟩ := List.mem_map.mp hr
  exact h x hx
theorem Scene.get (S : Scene hs lks M lim e ss ws st) : ∀ h ∈ hs, 1032 ≤ h.a ∧ h.a % 16 = 8 ∧ h.a - 8 + bs h.k.z ≤ e := S.lay.get S.kd (by decide)
theorem Scene.inj (S : Scene hs lks M lim e ss ws st) {i j : Nat} {h h' : HD} (hi : hs[i]? = some h) (hj : hs[j]? = some h') (e : h.a = h'.a) : i = j := by
  have kz : ∀ {n : Nat} {h : HD}, hs[n]? = some h → 16 ≤ bs h.k.z := fun q => by have := bs_rng (S.kd _ (List.mem_of_getElem? q)).z; lia
  rcases Nat.lt_trichotomy i j with q | q | q
  · have := S.lay.lt S.kd (by decide) i j h h' q hi hj; have := kz hi; lia
  · exact q
  · have := S.lay.lt S.kd (by decide) j i h' h q hj hi; have := kz hj; lia
theorem Scene.apart (S : Scene hs lks M lim e ss ws st) {h h' : HD} (hi : h ∈ hs) (hj : h' ∈ hs) : h = h' ∨ h.a + bs h.k.z ≤ h'.a ∨ h'.a + bs h'.k.z ≤ h.a := by
  obtain ⟨i, hi⟩ := List.getElem?_of_mem hi
  obtain ⟨j, hj⟩ := List.getElem?_of_mem hj
  rcases Nat.lt_trichotomy i j with q | q | q
  · exact .inr (.inl (S.lay.lt S.kd (by decide) i j h h' q hi hj))
  · subst q; rw [hi] at hj; cases hj; exact .inl rfl
  · exact .inr (.inr (S.lay.lt S.kd (by decide) j i h' h q hj hi))
/-- a pointer's place, and what stands there -/
theorem Scene.ptr (S : Scene hs lks M lim e ss ws st) (hh : h ∈ hs) {o : Int} (ho : o ∈ h.k.os) : ∃ (j : Nat) (x : LK) (v : Option Int), hs[j]? = some h ∧ lks[j]? = some x ∧ (o, v) ∈ x.kv ∧ ((v = none ∧ rd M (h.a + o) = 0) ∨ ∃ d h', v = some d ∧ 0 ≤ d ∧ hs[d.toNat]? = some h' ∧ rd M (h.a + o) = h'.a) := by
  obtain ⟨j, hj⟩ := List.getElem?_of_mem hh
  have hjl : j < lks.length := by rw [S.len]; exact (List.getElem?_eq_some_iff.mp hj).1
  have L := S.lk j h _ hj (List.getElem?_eq_getElem hjl)
  obtain ⟨p, hp, e⟩ := List.mem_map.mp ((L.key o).mpr ho)
  subst e
  refine ⟨j, _, p.2, hj, List.getElem?_eq_getElem hjl, hp, ?_⟩
  rcases L.ptr p hp with q | ⟨d, h', a, b, _, c, r⟩
  · exact .inl q
  · exact .inr ⟨d, h', a, b, c, r⟩
theorem Scene.sta (S : Scene hs lks M lim e ss ws st) : Sta (hs.map rc) M lim where
  rng := mem_rc fun h hh => by
    have := S.get h hh
    have := bs_rng (S.kd h hh).z
    have := S.le
    have := S.lm
    show 1032 ≤ h.a ∧ h.a % 4 = 0 ∧ h.a - 8 + bs h.k.z ≤ lim ∧ 16 ≤ bs h.k.z ∧ lim ≤ 4000
    lia
  dis := mem_rc fun h hh => mem_rc fun h' hh' => by
    rcases S.apart hh hh' with rfl | q
    · exact .inl rfl
    · exact .inr q
  dsc := mem_rc fun h hh => by
    have := (S.kd h hh).w
    have := (S.kd h hh).os.len (S.kd h hh).z.2.1
    show 0 ≤ h.k.w ∧ h.k.w % 4 = 0 ∧ h.k.w + 24 + 4 * (h.k.os.length : Int) ≤ 1024
    lia
  head := mem_rc S.mem.head
  tab := mem_rc fun h hh => (S.mem.tab h hh).t
  tend := mem_rc fun h hh => (S.mem.tab h hh).e
  off := mem_rc fun h hh k o hk => by
    have := (S.kd h hh).os.mem o (List.mem_of_getElem? hk)
    have := bs_rng (S.kd h hh).z
    show 0 ≤ o ∧ o % 4 = 0 ∧ o + 12 ≤ bs h.k.z
    lia
  nd := mem_rc fun h hh k k' o hk hk' => by
    have := (S.kd h hh).os.lt
    have key : ∀ (i j : Nat), i < j → h.k.os[i]? = some o → h.k.os[j]? = some o → False := fun i j hij hi hj => by
      obtain ⟨hi', ei⟩ := List.getElem?_eq_some_iff.mp hi
      obtain ⟨hj', ej⟩ := List.getElem?_eq_some_iff.mp hj
      have := List.pairwise_iff_getElem.mp this i j hi' hj' hij
      lia
    rcases Nat.lt_trichotomy k k' with q | q | q
    · exact (key k k' q hk hk').elim
    · exact q
    · exact (key k' k q hk' hk).elim
  ptr := mem_rc fun h hh k o hk => by
    obtain ⟨j, x, v, _, _, _, r⟩ := S.ptr hh (List.mem_of_getElem? hk)
    rcases r with ⟨_, r⟩ | ⟨d, h', _, _, hd, r⟩
    · exact .inl r
    · exact .inr ⟨rc h', List.mem_map_of_mem (List.mem_of_getElem? hd), r⟩
theorem Scene.idx (S : Scene hs lks M lim e ss ws st) {j : Nat} (hj : hs[j]? = some h) : Gd hs st h.a ↔ (j : Int) ∈ st := by
  constructor
  · rintro ⟨i, hi, h', hh', e'⟩
    have := S.inj hh' hj e'
    have := (S.cl.rng i hi).1
    rw [show (j : Int) = i by lia]; exact hi
  · exact fun hi => ⟨j, hi, h, by simpa using hj, rfl⟩
theorem Scene.gclo (S : Scene hs lks M lim e ss ws st) : GClo (hs.map rc) M (Gd hs st) := mem_rc fun h hh hg k o hk hne => by
  obtain ⟨j, x, v, hj, hx, hv, r⟩ := S.ptr hh (List.mem_of_getElem? hk)
  have hne : rd M (h.a + o) ≠ 0 := hne
  show Gd hs st (rd M (h.a + o))
  rcases r with ⟨_, r⟩ | ⟨d, h', rfl, d0, hd, r⟩
  · exact absurd r hne
  · rw [r]
    refine ⟨d, S.clo j ((S.idx hj).mp hg) d ⟨x, o, by lia, by simpa using hx, hv⟩, h', hd, rfl⟩
theorem Scene.h0 (S : Scene hs lks M lim e ss ws st) : ∀ r ∈ hs.map rc, rd M (r.a - 4) = 0 := mem_rc S.mem.mark
theorem Scene.stay (S : Scene hs lks M lim e ss ws st) (W : Mkd (hs.map rc) M Mk (Gd hs st)) (hy : ∀ h ∈ hs, y / 4 ≠ (h.a - 4) / 4) : rd Mk y = rd M y := rd_same (W.same _ (mem_rc hy))
theorem Scene.headsOk (S : Scene hs lks M lim e ss ws st) : HeadsOk hs M := fun h hh => ⟨S.mem.head h hh, (S.mem.tab h hh).z⟩
/-- words that no mark is -/
noncomputable def NoMark (hs : List HD) (y : Int) : Prop := y < 1024 ∨ ∀ h ∈ hs, y / 4 ≠ (h.a - 4) / 4
theorem Scene.nm_head (S : Scene hs lks M lim e ss ws st) (hh : h ∈ hs) : ∀ x ∈ hs, (h.a - 8) / 4 ≠ (x.a - 4) / 4 := fun x hx => by
  have := S.get h hh; have := S.get x hx
  omega
theorem Scene.nm_low (S : Scene hs lks M lim e ss ws st) (hy : y < 1024) : ∀ x ∈ hs, y / 4 ≠ (x.a - 4) / 4 := fun x hx => by
  have := S.get x hx; lia
theorem Scene.nm_tail (S : Scene hs lks M lim e ss ws st) (hy : e ≤ y) : ∀ x ∈ hs, y / 4 ≠ (x.a - 4) / 4 := fun x hx => by
  have := S.get x hx; have := bs_rng (S.kd x hx).z; lia
theorem Scene.nm_body (S : Scene hs lks M lim e ss ws st) (hh : h ∈ hs) {s : Int} (s0 : 0 ≤ s) (s1 : s < bs h.k.z - 8) : ∀ x ∈ hs, (h.a + s) / 4 ≠ (x.a - 4) / 4 := fun x hx => by
  have := S.get h hh; have := S.get x hx; have := bs_rng (S.kd x hx).z
  rcases S.apart hh hx with rfl | q | q <;> lia
theorem Scene.tiles {M' : Int → Int} (S : Scene hs lks M lim e ss ws st) (h : ∀ y, (∀ x ∈ hs, y / 4 ≠ (x.a - 4) / 4) → rd M' y = rd M y) : Tiles M' lim 1024 (bls hs e lim) :=
  tiles_of S.lay S.kd (by decide) (by decide) S.le S.lm.2.1 S.lm.2.2 (fun x hx => by
    have := (S.kd x hx).w
    rw [h _ (S.nm_head hx), h _ (S.nm_low (by omega))]; exact S.headsOk x hx) fun hlt => by rw [h _ (S.nm_tail (Int.le_refl _))]; exact (S.mem.tail hlt).1
theorem Scene.tl (S : Scene hs lks M lim e ss ws st) : ∀ M', Mkd (hs.map rc) M M' (Gd hs st) → Tiles M' lim 1024 (bls hs e lim) := fun M' W => S.tiles fun y hy => S.stay W hy
theorem Scene.hws (S : Scene hs lks M lim e ss ws st) : ∀ w ∈ ws, inH lim (bls hs e lim) w = 0 ∨ ∃ r ∈ hs.map rc, inH lim (bls hs e lim) w = r.a ∧ Gd hs st r.a := fun w hw => by
  rcases S.wd w hw with ⟨s, hs', h, hh, w0, w1⟩ | q
  · have hm := List.mem_of_getElem? hh
    exact .inr ⟨rc h, List.mem_map_of_mem hm, inH_in S.lay S.kd S.le hm w0 w1, s, S.has s hs', h, hh, rfl⟩
  · left
    unfold inH
    rw [if_pos q]
/-- just the reached records are marked -/
theorem Scene.marked (S : Scene hs lks M lim e ss ws st) (W : Mkd (hs.map rc) M Mk (Gd hs st)) (hm : ∀ w ∈ ws, ∀ r ∈ hs.map rc, inH lim (bls hs e lim) w = r.a → rd Mk (r.a - 4) ≠ 0) {j : Nat} (hj : hs[j]? = some h) : rd Mk (h.a - 4) ≠ 0 ↔ (j : Int) ∈ st := by
  constructor
  · exact fun q => (S.idx hj).mp (W.gm (rc h) (List.mem_map_of_mem (List.mem_of_getElem? hj)) q)
  · intro q
    obtain ⟨_, h', hh', r⟩ := S.cl.mn (fun i => 0 ≤ i ∧ ∃ h, hs[i.toNat]? = some h ∧ rd Mk (h.a - 4) ≠ 0) (fun s hs' => by
      obtain ⟨s0, h, hh, w, hw, w0, w1⟩ := S.sw s hs'
      have hx := List.mem_of_getElem? hh
      exact ⟨s0, h, hh, hm w hw (rc h) (List.mem_map_of_mem hx) (inH_in S.lay S.kd S.le hx w0 w1)⟩) (fun i j ⟨i0, h, hh, r⟩ ⟨x, k, _, hx, hk⟩ => by
      have hx' := List.mem_of_getElem? hh
      have L := S.lk _ h x hh hx
      rcases L.ptr _ hk with ⟨q, _⟩ | ⟨d, h', q, q0, _, hd, e'⟩
      · cases q
      · cases q
        refine ⟨q0, h', hd, ?_⟩
        obtain ⟨n, hn⟩ := List.getElem?_of_mem ((L.key k).mp (List.mem_map.mpr ⟨_, hk, rfl⟩))
        have := W.blk (rc h) (List.mem_map_of_mem hx') r n k hn
        rw [show rd M ((rc h).a + k) = h'.a from e'] at this
        rcases this with e'' | e''
        · have := S.get h' (List.mem_of_getElem? hd); (clear S W hm hj q i0 hh r hx hk hx' L e' q0 hd hn; omega)
        · exact e'') j q
    rw [show ((j : Int)).toNat = j by simp, hj] at hh'
    cases hh'
    exact r
theorem Scene.kept (S : Scene hs lks M lim e ss ws st) (W : Mkd (hs.map rc) M Mk (Gd hs st)) (hm : ∀ w ∈ ws, ∀ r ∈ hs.map rc, inH lim (bls hs e lim) w = r.a → rd Mk (r.a - 4) ≠ 0) : hs.filter (fun h => decide (rd Mk (h.a - 4) ≠ 0)) = kp hs st := by
  have := filter_st (d := d0) (p := fun h => decide (rd Mk (h.a - 4) ≠ 0)) hs 0 st S.srt (fun i hi => by have := S.cl.rng i hi; have := S.len; omega) fun j x hx => by
    rw [decide_eq_true_iff, S.marked W hm hx]; simp
  unfold kp
  simpa using this
end

/-! what compact leaves -/
section
variable {M M' Mk : Int → Int} {hs l : List HD} {lks : List LK} {b lim e t y w acc : Int} {h : HD} {ss ws st : List Int} {m : Nat}
/-- where the m-th kept record goes -/
noncomputable def tg (l : List HD) (m : Nat) : Int := endT 1024 ((l.take m).map hb)
noncomputable def aimF (w : Int) : Int → Int → List HD → Int
  | _, acc, [] => acc
  | t, acc, h :: r => aimF w (t + bs h.k.z) (if h.a ≤ w ∧ w < h.a - 8 + bs h.k.z then t + 8 + w - h.a else acc) r
theorem map_rc : (l.map rc).map rb = l.map hb := by rw [List.map_map]; rfl
theorem endT_take : ∀ {l : List HD} {t : Int} {m : Nat} {h : HD}, Kds l → l[m]? = some h → t ≤ endT t ((l.take m).map hb) ∧ (endT t ((l.take m).map hb)) % 16 = t % 16 ∧ endT t ((l.take m).map hb) + bs h.k.z ≤ endT t (l.map hb)
  | x :: r, t, 0, h, kd, q => by
    cases q
    have le : ∀ (l : List HD) t, Kds l → t ≤ endT t (l.map hb) := by
      intro l
      induction l with
      | nil => exact fun t _ => Int.le_refl _
      | cons x l ih' =>
        intro t kd
        have := bs_rng (kd x (.head _)).z
        have := ih' (t + bs x.k.z) kd.tail
        show t ≤ endT (t + bs x.k.z) (l.map hb)
        lia
    exact ⟨Int.le_refl _, rfl, le r _ kd.tail⟩
  | x :: r, t, m + 1, h, kd, q => by
    have := bs_rng (kd x (.head _)).z
    have := endT_take (l := r) (t := t + bs x.k.z) (m := m) kd.tail (by simpa using q)
    show t ≤ endT (t + bs x.k.z) ((r.take m).map hb) ∧ endT (t + bs x.k.z) ((r.take m).map hb) % 16 = t % 16 ∧ endT (t + bs x.k.z) ((r.take m).map hb) + bs h.k.z ≤ endT (t + bs x.k.z) (r.map hb)
    lia
theorem endT_mod : ∀ {l : List HD} {t : Int}, Kds l → endT t (l.map hb) % 16 = t % 16 ∧ t ≤ endT t (l.map hb)
  | [], t, _ => ⟨rfl, Int.le_refl _⟩
  | x :: r, t, kd => by
    have := bs_rng (kd x (.head _)).z
    have := endT_mod (l := r) (t := t + bs x.k.z) kd.tail
    show endT (t + bs x.k.z) (r.map hb) % 16 = t % 16 ∧ t ≤ endT (t + bs x.k.z) (r.map hb)
    lia
theorem aimF_no : (∀ h ∈ l, ¬ (h.a ≤ w ∧ w < h.a - 8 + bs h.k.z)) → aimF w t acc l = acc := by
  induction l generalizing t acc with
  | nil => exact fun _ => rfl
  | cons x r ih =>
    intro hn
    show aimF w _ (if _ then _ else _) r = _
    rw [if_neg (hn x (.head _))]
    exact ih fun y hy => hn y (.tail _ hy)
theorem aimF_at (A : Apart b l e) : Kds l → l[m]? = some h → h.a ≤ w → w < h.a - 8 + bs h.k.z → aimF w t acc l = endT t ((l.take m).map hb) + 8 + w - h.a := by
  induction A generalizing t acc m with
  | nil => intro _ q; cases q
  | @cons b x r e h1 h2 h3 ih =>
    intro kd q w0 w1
    have ap := h3.get kd.tail
    have hz := bs_rng (kd x (.head _)).z
    show aimF w (t + bs x.k.z) (if _ then _ else _) r = _
    cases m with
    | zero =>
      cases q
      rw [if_pos ⟨w0, w1⟩, aimF_no fun y hy => by have := ap y hy; (clear ih w0 h1 h2 h3 kd ap hz hy; lia)]; rfl
    | succ m => exact ih kd.tail (by simpa using q) w0 w1
theorem Apart.pw (A : Apart b l e) : Kds l → l.Pairwise fun h h' => h.a + bs h.k.z ≤ h'.a := by
  induction A with
  | nil => exact fun _ => .nil
  | @cons b x r e h1 h2 h3 ih => exact fun kd => .cons (fun y hy => by have := h3.get kd.tail y hy; (clear h1 h2 h3 ih kd hy; lia)) (ih kd.tail)
structure Fin (hs : List HD) (lks : List LK) (M MF M1 : Int → Int) (lim e : Int) (ws st : List Int) : Prop where
  top : 1024 ≤ endT 1024 ((kp hs st).map hb) ∧ endT 1024 ((kp hs st).map hb) ≤ lim ∧ endT 1024 ((kp hs st).map hb) % 16 = 0
  tiles : Tiles MF lim 1024 (bls (relay 1024 (kp hs st)) (endT 1024 ((kp hs st).map hb)) lim)
  mark : ∀ (m : Nat) h, (kp hs st)[m]? = some h → rd MF (tg (kp hs st) m + 4) = 0
  ptr : ∀ (m : Nat) i h x s, st[m]? = some i → hs[i.toNat]? = some h → lks[i.toNat]? = some x → 0 ≤ s → s < h.k.z → s % 4 = 0 →
    (∀ d, (s, some d) ∈ x.kv → ∃ m', st[m']? = some d ∧ rd MF (tg (kp hs st) m + 8 + s) = tg (kp hs st) m' + 8) ∧ ((∀ d, (s, some d) ∉ x.kv) → rd MF (tg (kp hs st) m + 8 + s) = rd M (h.a + s))
  tail : endT 1024 ((kp hs st).map hb) < lim → rd MF (endT 1024 ((kp hs st).map hb) + 4) = 0
  told : ∀ w ∈ ws, moved lim (bls hs e lim) M1 w = aimF w 1024 w (kp hs st)
theorem kp_get {i : Int} (hm : st[m]? = some i) (hi : hs[i.toNat]? = some h) : (kp hs st)[m]? = some h := by
  unfold kp
  rw [List.getElem?_map, hm]
  show some (hs.getD i.toNat d0) = _
  rw [List.getD_eq_getElem?_getD, hi]; rfl
theorem fin4_lt (ht : t % 16 = 0) (h : y < t) : rd (fin4 lim M t) y = rd M y := by
  unfold fin4
  split
  · rw [rd_wr_ne _ _ (by lia), rd_wr_ne _ _ (by lia)]
  · rfl
end
section
variable {M Mk : Int → Int} {hs : List HD} {lks : List LK} {lim e y w : Int} {h : HD} {ss ws st : List Int} {m : Nat}
/-- one place of a pointer -/
structure Plc (hs : List HD) (K : List HD) (p : Int) : Prop where
  at_ : ∃ h ∈ K, ∃ o ∈ h.k.os, p = h.a + o
theorem mem_ps {K : List HD} {p : Int} : p ∈ (K.map rc).flatMap pls ↔ ∃ h ∈ K, ∃ o ∈ h.k.os, p = h.a + o := by
  rw [List.mem_flatMap]
  constructor
  · rintro ⟨r, hr, hp⟩
    obtain ⟨h, hh, rfl⟩ := List.mem_map.mp hr
    obtain ⟨o, ho, rfl⟩ := List.mem_map.mp hp
    exact ⟨h, hh, o, ho, rfl⟩
  · rintro ⟨h, hh, o, ho, rfl⟩
    exact ⟨rc h, List.mem_map_of_mem hh, List.mem_map_of_mem ho⟩
theorem ps_pw {K : List HD} (kd : Kds K) (pw : K.Pairwise fun h h' => h.a + bs h.k.z ≤ h'.a) (al : ∀ h ∈ K, h.a % 16 = 8) : ((K.map rc).flatMap pls).Pairwise fun p q => p / 4 ≠ q / 4 := by
  rw [List.pairwise_flatMap]
  refine ⟨fun r hr => ?_, ?_⟩
  · obtain ⟨h, hh, rfl⟩ := List.mem_map.mp hr
    have os := (kd h hh).os
    show (h.k.os.map (h.a + ·)).Pairwise _
    rw [List.pairwise_map]
    refine os.lt.imp_of_mem fun {a b} ha hb hab => ?_
    have := os.mem a ha; have := os.mem b hb; have := al h hh
    (clear kd pw al hh hr os ha hb this; lia)
  · rw [List.pairwise_map]
    refine pw.imp_of_mem fun {h h'} hh hh' hab p hp q hq => ?_
    obtain ⟨o, ho, rfl⟩ := List.mem_map.mp hp
    obtain ⟨o', ho', rfl⟩ := List.mem_map.mp hq
    have := (kd h hh).os.mem o ho; have := (kd h' hh').os.mem o' ho'; have := bs_rng (kd h hh).z
    show (h.a + o) / 4 ≠ (h'.a + o') / 4
    lia
theorem Scene.fin (S : Scene hs lks M lim e ss ws st) (W : Mkd (hs.map rc) M Mk (Gd hs st)) (rk : Rng Mk) (hm : ∀ w ∈ ws, ∀ r ∈ hs.map rc, inH lim (bls hs e lim) w = r.a → rd Mk (r.a - 4) ≠ 0) :
    CmpOk (hs.map rc) lim (bls hs e lim) ws Mk ((kp hs st).map rc) ∧ Fin hs lks M (fin4 lim (slideL (altR lim (setT Mk 1024 ((kp hs st).map hb)) ((kp hs st).map rc)) ((kp hs st).map hb)) (endT 1024 ((kp hs st).map hb))) (setT Mk 1024 ((kp hs st).map hb)) lim e ws st := by
  have hK := S.kept W hm
  have kin : ∀ h ∈ kp hs st, h ∈ hs := fun h hh => by rw [← hK] at hh; exact (List.mem_filter.mp hh).1
  have kd : Kds (kp hs st) := fun h hh => S.kd h (kin h hh)
  have ap : Apart 1024 (kp hs st) e := by rw [← hK]; exact S.lay.sub _ S.kd (by decide) 1024 (Int.le_refl _)
  have e0 : endT 1024 ((kp hs st).map hb) ≤ e := ap.endT kd (Int.le_refl _)
  have em := endT_mod (t := 1024) kd
  have lm := S.lm
  have sle := S.le
  have e1 : ∀ y, (∀ x ∈ hs, y / 4 ≠ (x.a - 4) / 4) → rd (setT Mk 1024 ((kp hs st).map hb)) y = rd M y := fun y hy => by
    rw [rd_setT_ne, S.stay W hy]
    intro x hx
    obtain ⟨h, hh, rfl⟩ := List.mem_map.mp hx
    have := hy h (kin h hh)
    rw [show (hb h).b + 4 = h.a - 4 by show h.a - 8 + 4 = _; (clear S W rk hm hK kin kd ap e0 em lm sle hy hh hx this; lia)]; exact this
  have r1 : Rng (setT Mk 1024 ((kp hs st).map hb)) := setT_rng rk
  have g1 : Tg (setT Mk 1024 ((kp hs st).map hb)) 1024 (kp hs st) := setT_tg ap kd (by decide) (Int.le_refl _) (by lia)
  generalize hM1 : setT Mk 1024 ((kp hs st).map hb) = M1 at e1 r1 g1 ⊢
  have pm : ∀ p ∈ ((kp hs st).map rc).flatMap pls, 1024 ≤ p ∧ (∀ x ∈ hs, p / 4 ≠ (x.a - 8) / 4) ∧ (∀ x ∈ hs, p / 4 ≠ (x.a - 4) / 4) := fun p hp => by
    obtain ⟨h, hh, o, ho, rfl⟩ := mem_ps.mp hp
    have := (kd h hh).os.mem o ho
    have hz := bs_rng (kd h hh).z
    have := S.get h (kin h hh)
    refine ⟨by (clear S W rk hm hK kin kd ap e0 em lm sle hM1 e1 r1 g1 hh ho hp hz; lia), fun x hx => ?_, S.nm_body (kin h hh) (by lia) (by lia)⟩
    have := S.get x hx; have := bs_rng (S.kd x hx).z
    rcases S.apart (kin h hh) hx with rfl | q | q <;> lia
  have e2 : ∀ y, (∀ p ∈ ((kp hs st).map rc).flatMap pls, y / 4 ≠ p / 4) → rd (altR lim M1 ((kp hs st).map rc)) y = rd M1 y := fun y hy => by rw [altR_eq]; exact altL_ne hy
  have v2 : ∀ p ∈ ((kp hs st).map rc).flatMap pls, rd (altR lim M1 ((kp hs st).map rc)) p = aval lim M1 p := by
    rw [altR_eq]
    refine altL_at r1 (ps_pw kd (ap.pw kd) fun h hh => (S.get h (kin h hh)).2.1) fun p hp a1 a2 q hq => ?_
    obtain ⟨h, hh, o, ho, rfl⟩ := mem_ps.mp hp
    rw [e1 _ (pm _ hp).2.2] at a1 a2 ⊢
    obtain ⟨j, x, v, _, _, _, r⟩ := S.ptr (kin h hh) ho
    rcases r with ⟨_, r⟩ | ⟨d, h', _, _, hd, r⟩
    · (clear S W rk hm hK kin kd ap e0 em lm sle hM1 e1 r1 g1 pm e2 hq hh ho hp a2; omega)
    · rw [r]; exact fun q' => (pm _ hq).2.2 h' (List.mem_of_getElem? hd) q'.symm
  have al : AltOk lim M1 ((kp hs st).map rc) := by
    refine altOk (mem_rc fun h hh => ?_) (mem_rc fun h hh p hp => ⟨(pm p (List.mem_flatMap.mpr ⟨_, List.mem_map_of_mem hh, hp⟩)).1, mem_rc fun x hx => (pm p (List.mem_flatMap.mpr ⟨_, List.mem_map_of_mem hh, hp⟩)).2.1 x (kin x hx)⟩)
    have hg := S.get h (kin h hh)
    have kw := (kd h hh).w
    have kl := (kd h hh).os.len (kd h hh).z.2.1
    have tb := S.mem.tab h (kin h hh)
    have hz := bs_rng (kd h hh).z
    refine ⟨?_, ?_, ?_, fun k o hk => ?_, fun o ho => ?_, ?_⟩
    · show 8 ≤ h.a ∧ h.a < 4000; lia
    · exact (e1 _ (S.nm_head (kin h hh))).trans (S.mem.head h (kin h hh))
    · show 0 ≤ h.k.w ∧ h.k.w + 24 + 4 * (h.k.os.length : Int) ≤ 1024; lia
    · have := (List.getElem?_eq_some_iff.mp hk).1
      have : k < h.k.os.length := this
      exact (e1 _ (S.nm_low (show h.k.w + 20 + 4 * (k : Int) < 1024 by lia))).trans (tb.t k o hk)
    · have := (kd h hh).os.mem o ho
      have := (kd h hh).z
      (clear S W rk hm hK kin kd ap e0 em lm sle hM1 e1 r1 g1 pm e2 v2 hh hg kw kl tb hz ho; omega)
    · exact (e1 _ (S.nm_low (show h.k.w + 20 + 4 * (h.k.os.length : Int) < 1024 by lia))).trans tb.e
  have r2 : Rng (altR lim M1 ((kp hs st).map rc)) := by rw [altR_eq]; exact altL_rng r1
  have g2 : Tg (altR lim M1 ((kp hs st).map rc)) 1024 (kp hs st) := Tg.congr ap kd (fun h hh => e2 _ fun p hp => fun q => (pm p hp).2.2 h (kin h hh) q.symm) g1
  generalize hM2 : altR lim M1 ((kp hs st).map rc) = M2 at e2 v2 r2 g2 ⊢
  obtain ⟨sl, r3, lo3, dn⟩ := slide_all ap kd r2 g2 (by decide) (by decide) (Int.le_refl _) (by omega)
  generalize hM3 : slideL M2 ((kp hs st).map hb) = M3 at r3 lo3 dn ⊢
  have lk : (kp hs st).length = st.length := List.length_map _
  have sle' : st.length ≤ hs.length := by have := S.cl.len; have := S.len; lia
  have n50 := S.n50
  have tge : ∀ {m : Nat} {h : HD}, (kp hs st)[m]? = some h → 1024 ≤ tg (kp hs st) m ∧ tg (kp hs st) m % 16 = 0 ∧ tg (kp hs st) m + bs h.k.z ≤ endT 1024 ((kp hs st).map hb) := fun q => endT_take kd q
  have F : ∀ {m : Nat} {h : HD}, (kp hs st)[m]? = some h → ∀ s, 0 ≤ s → s < bs h.k.z → rd (fin4 lim M3 (endT 1024 ((kp hs st).map hb))) (tg (kp hs st) m + s) = rd M3 (tg (kp hs st) m + s) := fun q s s0 s1 => by
    have := tge q
    exact fin4_lt em.1 (by (clear S W rk hm hK kin kd ap e0 em lm sle hM1 e1 r1 g1 pm al hM2 e2 v2 r2 g2 sl hM3 r3 lo3 dn lk sle' n50 tge q s0; lia))
  have kge : ∀ {m : Nat} {i : Int} {h : HD}, st[m]? = some i → hs[i.toNat]? = some h → (kp hs st)[m]? = some h := kp_get
  have head : ∀ {m : Nat} {h : HD}, (kp hs st)[m]? = some h → ∀ s, 0 ≤ s → s < bs h.k.z → s % 4 = 0 → s ≠ 4 → rd (fin4 lim M3 (endT 1024 ((kp hs st).map hb))) (tg (kp hs st) m + s) = rd M2 (h.a - 8 + s) := fun q s s0 s1 s4 sn => (F q s s0 s1).trans ((dn.get q).2 s s0 s1 s4 sn)
  refine ⟨⟨S.tl _ W, ?_, ?_, by rw [map_rc, hM1]; exact al, by rw [map_rc, hM1, hM2]; exact sl, by rw [map_rc]; (clear S W rk hm hK kin kd ap lm hM1 e1 r1 g1 pm al hM2 e2 v2 r2 g2 sl hM3 r3 lo3 dn lk sle' n50 tge F kge head; lia), ⟨?_, by rw [List.length_map]; lia⟩, fun x hx => ?_, mem_rc fun h hh => ?_, fun w hw hne => ?_⟩, ⟨⟨em.2, by (clear S W rk hm hK kin kd ap em lm hM1 e1 r1 g1 pm al hM2 e2 v2 r2 g2 sl hM3 r3 lo3 dn lk sle' n50 tge F kge head; lia), em.1⟩, ?_, fun m h q => ?_, fun m i h x s hm' hi hx s0 s1 s4 => ?_, fun hlt => ?_, fun w hw => ?_⟩⟩
  · rw [map_rc, ← hK]
    unfold bls
    rw [List.filter_append]
    have t0 : (tailB e lim).filter (keptB Mk) = [] := by unfold tailB; split <;> rfl
    rw [t0, List.append_nil, List.filter_map]
    refine congrArg _ (List.filter_congr fun h _ => ?_)
    show (true && decide (rd Mk (h.a - 8 + 4) ≠ 0)) = _
    rw [show h.a - 8 + 4 = h.a - 4 by omega, Bool.true_and]
  · rw [map_rc, hM1]; exact S.tiles e1
  · unfold bls tailB
    rw [List.length_append, List.length_map]
    split <;> simp <;> lia
  · rcases List.mem_append.mp hx with hx | hx
    · obtain ⟨h, hh, rfl⟩ := List.mem_map.mp hx
      have := S.get h hh; have := bs_rng (S.kd h hh).z
      show 0 ≤ h.a - 8 ∧ h.a - 8 + 4 < 4096
      lia
    · unfold tailB at hx
      split at hx
      · rw [List.mem_singleton.mp hx]
        have := S.lay.le S.kd
        show 0 ≤ e ∧ e + 4 < 4096
        lia
      · cases hx
  · have := S.get h (kin h hh); have := bs_rng (kd h hh).z; have := (kd h hh).os.len (kd h hh).z.2.1
    show h.k.os.length ≤ 800 ∧ 0 ≤ h.a - 8 ∧ h.a < 4096
    lia
  · rcases inH_or (lim := lim) (w := w) S.lay with q | ⟨h, hh, q, _⟩
    · exact absurd q hne
    · have := S.get h hh; have := bs_rng (S.kd h hh).z
      rw [q]; lia
  · refine tiles_of (relay_lay _ _) (relay_kds kd) (by decide) (by decide) (by omega) (by lia) lm.2.2 (fun x hx => ?_) fun hlt => ?_
    · obtain ⟨m, hm'⟩ := List.getElem?_of_mem hx
      have hml : m < (kp hs st).length := by rw [← relay_len (t := 1024)]; exact (List.getElem?_eq_some_iff.mp hm').1
      have q := List.getElem?_eq_getElem hml
      rw [relay_get q] at hm'
      cases hm'
      generalize (kp hs st)[m] = h at q
      have hh := kin h (List.mem_of_getElem? q)
      have hz := bs_rng (S.kd h hh).z
      have kw := (S.kd h hh).w
      have := tge q
      constructor
      · show rd _ (tg (kp hs st) m + 8 - 8) = h.k.w
        rw [show tg (kp hs st) m + 8 - 8 = tg (kp hs st) m + 0 by lia, head q 0 (by decide) (by lia) (by decide) (by decide), show h.a - 8 + 0 = h.a - 8 by lia, e2 _ fun p hp q' => (pm p hp).2.1 h hh q'.symm, e1 _ (S.nm_head hh)]
        exact S.mem.head h hh
      · show rd _ h.k.w = h.k.z
        rw [fin4_lt em.1 (by lia), lo3 _ (by lia), e2 _ fun p hp => by have := (pm p hp).1; lia, e1 _ (S.nm_low (by lia))]
        exact (S.mem.tab h hh).z
    · unfold fin4
      rw [if_pos hlt, rd_wr_ne _ _ (by (clear S W rk hm hK kin kd ap e0 em lm sle hM1 e1 r1 g1 pm al hM2 e2 v2 r2 g2 sl hM3 r3 lo3 dn lk sle' n50 tge F kge head hlt; lia)), rd_wr_eq rfl (by (clear S W rk hm hK kin kd ap e0 sle hM1 e1 r1 g1 pm al hM2 e2 v2 r2 g2 sl hM3 r3 lo3 dn lk sle' n50 tge F kge head; omega))]
  · have := tge q
    have hz := bs_rng (kd h (List.mem_of_getElem? q)).z
    rw [F q 4 (by decide) (by lia)]
    exact (dn.get q).1
  · have q := kge hm' hi
    have hh := List.mem_of_getElem? hi
    have hz := bs_rng (S.kd h hh).z
    have kz := (S.kd h hh).z
    have ev : rd (fin4 lim M3 (endT 1024 ((kp hs st).map hb))) (tg (kp hs st) m + 8 + s) = rd M2 (h.a + s) := by
      rw [show tg (kp hs st) m + 8 + s = tg (kp hs st) m + (8 + s) by lia, head q _ (by (clear S W rk hm hK kin kd ap e0 em lm sle hM1 e1 r1 g1 pm al hM2 e2 v2 r2 g2 sl hM3 r3 lo3 dn lk sle' n50 tge F kge head hm' hi hx s1 s4 q hh hz kz; lia)) (by (clear S W rk hm hK kin kd ap e0 em lm sle hM1 e1 r1 g1 pm al hM2 e2 v2 r2 g2 sl hM3 r3 lo3 dn lk sle' n50 tge F kge head hm' hi hx s0 s4 q hh kz; lia)) (by lia) (by (clear S W rk hm hK kin kd ap e0 em lm sle hM1 e1 r1 g1 pm al hM2 e2 v2 r2 g2 sl hM3 r3 lo3 dn lk sle' n50 tge F kge head hm' hi hx s1 s4 q hh hz kz; lia)), show h.a - 8 + (8 + s) = h.a + s by lia]
    have L := S.lk i.toNat h x hi hx
    have e1s := e1 _ (S.nm_body hh s0 (show s < bs h.k.z - 8 by (clear S W rk hm hK kin kd ap e0 em lm sle hM1 e1 r1 g1 pm al hM2 e2 v2 r2 g2 sl hM3 r3 lo3 dn lk sle' n50 tge F kge head hm' hi hx s0 s4 q hh kz ev L; lia)))
    have hpl : s ∈ h.k.os → h.a + s ∈ ((kp hs st).map rc).flatMap pls := fun ho => mem_ps.mpr ⟨h, List.mem_of_getElem? q, s, ho, rfl⟩
    rw [ev]
    constructor
    · intro d hd
      have ho := (L.key s).mp (List.mem_map.mpr ⟨_, hd, rfl⟩)
      rcases L.ptr _ hd with ⟨q', _⟩ | ⟨d', h', q', d0, _, hd', r⟩
      · cases q'
      · cases q'
        obtain ⟨m', hm''⟩ := List.getElem?_of_mem (S.clo i (List.mem_of_getElem? hm') d ⟨x, s, (S.cl.rng i (List.mem_of_getElem? hm')).1, hx, hd⟩)
        refine ⟨m', hm'', ?_⟩
        have hh' := List.mem_of_getElem? hd'
        have := S.get h' hh'
        have hz' := bs_rng (S.kd h' hh').z
        rw [v2 _ (hpl ho)]
        unfold aval
        rw [e1s, show rd M (h.a + s) = h'.a from r, if_pos (by (clear S W rk hm hK kin kd ap e0 em lm hM1 e1 r1 g1 pm al hM2 e2 v2 r2 g2 sl hM3 r3 lo3 dn lk sle' n50 tge F kge head hm' hi hx s0 s1 s4 q hh hz kz ev L e1s hpl hd ho r d0 hd' hm'' hh'; omega))]
        exact g1.get (kge hm'' hd')
    · intro hn
      by_cases ho : s ∈ h.k.os
      · rw [v2 _ (hpl ho)]
        unfold aval
        rw [e1s]
        obtain ⟨p, hp, e'⟩ := List.mem_map.mp ((L.key s).mpr ho)
        rcases L.ptr p hp with ⟨_, r⟩ | ⟨d', h', q', _⟩
        · rw [e'] at r; rw [r, if_neg (by (clear S W rk hm hK kin kd ap e0 em lm sle hM1 e1 r1 g1 pm al hM2 e2 v2 r2 g2 sl hM3 r3 lo3 dn lk sle' n50 tge F kge head hm' hi hx s0 s1 s4 q hh hz kz ev L e1s hpl hn ho hp e' r; omega))]
        · exact absurd (show (s, some d') ∈ x.kv by rw [← e', ← q']; exact hp) (hn d')
      · rw [e2 _ fun p hp => ?_, e1s]
        obtain ⟨h', hh', o, ho', rfl⟩ := mem_ps.mp hp
        have := (kd h' hh').os.mem o ho'
        have hz' := bs_rng (kd h' hh').z
        have := S.get h hh; have := S.get h' (kin h' hh')
        rcases S.apart hh (kin h' hh') with rfl | q | q
        · have : s ≠ o := fun e => ho (e ▸ ho')
          lia
        · (clear S W rk hm hK kin kd ap e0 em lm sle hM1 e1 r1 g1 pm al hM2 e2 v2 r2 g2 sl hM3 r3 lo3 dn lk sle' n50 tge F kge head hm' hi hx s0 s4 hh kz ev L e1s hpl hn ho hh' ho' hp hz' this; lia)
        · (clear S W rk hm hK kin kd ap e0 em lm sle hM1 e1 r1 g1 pm al hM2 e2 v2 r2 g2 sl hM3 r3 lo3 dn lk sle' n50 tge F kge head hm' hi hx s1 s4 hh hz kz ev L e1s hpl hn ho hh' ho' hp this; lia)
  · unfold fin4
    rw [if_pos hlt, rd_wr_eq rfl (by decide)]
  · unfold moved
    rcases S.wd w hw with ⟨s, hs', h, hh, w0, w1⟩ | q
    · have hx := List.mem_of_getElem? hh
      obtain ⟨m, hm'⟩ := List.getElem?_of_mem (S.has s hs')
      have q := kge hm' hh
      have := S.get h hx
      rw [inH_in S.lay S.kd S.le hx w0 w1, if_neg (by lia), g1.get q, aimF_at ap kd q w0 w1]
    · have e9 : inH lim (bls hs e lim) w = 0 := by unfold inH; rw [if_pos q]
      rw [if_pos e9, aimF_no fun h hh => by
        have := S.get h (kin h hh); have := bs_rng (kd h hh).z; (clear S W rk hm hK kin kd ap e0 em lm hM1 e1 r1 g1 pm al hM2 e2 v2 r2 g2 sl hM3 r3 lo3 dn lk sle' n50 tge F kge head hw e9 hh this; omega)]
end


noncomputable def lawCl (n : Addr) : List (Str × Addr) := [(Str.ofString "places", n + 2), (Str.ofString "held", n + 1), (Str.ofString "memory", n)]
noncomputable def LB (k : Nat) : List Stmt := (fnBody (stAt 43)).drop k
theorem HMem.alloc {hs : List HD} {h : HD} {e lim : Int} {M M' : Int → Int} (L : Lay 1024 hs e) (kd : Kds hs) (hk : KdOk h.k) (ha : h.a = e + 8) (he : e % 16 = 0) (m : HMem hs M e lim) (Z : HZero hs M) (tab : TabAt M h.k.w h.k.z h.k.os)
    (p : AllocPost M M' e (lim - e) (bs h.k.z) h.k.w) : HMem (hs ++ [h]) M' (e + bs h.k.z) lim ∧ HZero (hs ++ [h]) M' ∧ ∀ w z os, w ≤ 192 → os.length ≤ 5 → TabAt M w z os → TabAt M' w z os := by
  have hz := bs_rng hk.z
  have le := L.le kd
  have g := L.get kd (by decide)
  have old : ∀ y, y / 4 < e / 4 → rd M' y = rd M y := fun y hy => p.old _ hy
  have tb : ∀ w z os, w ≤ 192 → os.length ≤ 5 → TabAt M w z os → TabAt M' w z os := fun w z os hw ho t => t.mono ho fun k hk => p.old k (by (clear L kd ha he m Z tab p hz g old ho t; lia))
  have new : ∀ s, 4 ≤ s → s < bs h.k.z → s % 4 = 0 → rd M' (e + s) = 0 := fun s s0 s1 s4 => by
    have := p.body (s / 4) (by lia) (by (clear L kd hk ha he m Z tab p le g old tb s0; lia))
    unfold rd
    rw [show (e + s) / 4 = e / 4 + s / 4 by (clear L kd hk ha he m Z tab p hz le g old tb s0 s1 this; lia)]; exact this
  refine ⟨⟨fun x hx => ?_, fun x hx => ?_, fun x hx => ?_, fun hlt => ?_⟩, fun x hx s s0 s1 s4 => ?_, tb⟩
  · rcases List.mem_append.mp hx with hx | hx
    · have := g x hx; have := bs_rng (kd x hx).z
      rw [old _ (by (clear L kd hk ha he m Z tab p hz le g old tb new hx; omega))]; exact m.head x hx
    · rw [List.mem_singleton.mp hx, ha, show e + 8 - 8 = e by lia]; exact p.head
  · rcases List.mem_append.mp hx with hx | hx
    · have := g x hx; have := bs_rng (kd x hx).z
      rw [old _ (by (clear L kd hk ha he m Z tab p hz le g old tb new hx; omega))]; exact m.mark x hx
    · rw [List.mem_singleton.mp hx, ha, show e + 8 - 4 = e + 4 by lia]; exact new 4 (by decide) (by lia) (by decide)
  · rcases List.mem_append.mp hx with hx | hx
    · exact tb _ _ _ (kd x hx).w.2.1 ((kd x hx).os.len (kd x hx).z.2.1) (m.tab x hx)
    · rw [List.mem_singleton.mp hx]; exact tb _ _ _ hk.w.2.1 (hk.os.len hk.z.2.1) tab
  · have := p.rest (by (clear L kd hk ha he m Z tab p hz le g old tb new; lia))
    refine ⟨?_, ?_⟩
    · show M' _ = _
      rw [this.1]; (clear L kd hk ha he m Z tab p hz le g old tb new hlt this; lia)
    · unfold rd
      rw [show (e + bs h.k.z + 4) / 4 = (e + bs h.k.z) / 4 + 1 by (clear L kd hk ha he m Z tab p hz le g old tb new hlt this; lia)]; exact this.2
  · rcases List.mem_append.mp hx with hx | hx
    · have := g x hx; have := bs_rng (kd x hx).z
      rw [old _ (by (clear L kd hk ha m Z tab p hz le g old tb new s0 s4 hx; lia))]; exact Z x hx s s0 s1 s4
    · have e1 := List.mem_singleton.mp hx
      subst e1
      rw [ha, show e + 8 + s = e + (8 + s) by lia]; exact new _ (by (clear L kd he m Z le g old tb s1 s4 hk ha tab p hz new hx; lia)) (by (clear L kd he m Z le g old tb s0 s4 hk ha tab p new hx; lia)) (by lia)
section
variable {P : Params} {w : World} {c : Cx} {l l' : Loc} {H H' H₀ : AH} {s s' : Shared} {lvl n : Nat} {Q : AV → AH → Prop} {A : Ad} {M M' : Int → Int} {F : List Int} {f r hl kr n₀ : Addr} {lim e : Int} {kds : List KD} {hs : List HD} {N : Loc → AH → Prop} {R : AV → AH → Prop}
noncomputable def AO.soft : AO → Prop
  | .inst .. => False
  | .attrs _ => False
  | .words _ => False
  | _ => True
theorem MemAt.soft {S : List Addr} (x : MemAt H A M) (k : Keep S H H') (hS : ∀ a ∈ S, ∃ o, H a = some o ∧ o.soft) : MemAt H' A M := by
  have no : ∀ a o, H a = some o → ¬ o.soft → a ∉ S := fun a o ha ho hm => by
    obtain ⟨_, h, q⟩ := hS a hm
    rw [ha] at h; cases h; exact ho q
  exact ⟨k.get (no _ _ x.m id) x.m, k.get (no _ _ x.md id) x.md, k.get (no _ _ x.w id) x.w⟩
theorem HpAt.soft {S : List Addr} (x : HpAt H A lim f M F) (k : Keep S H H') (hS : ∀ a ∈ S, a ≠ f ∧ ∃ o, H a = some o ∧ o.soft) : HpAt H' A lim f M F := by
  have no : ∀ a o, H a = some o → ¬ o.soft → a ∉ S := fun a o ha ho hm => by
    obtain ⟨_, _, h, q⟩ := hS a hm
    rw [ha] at h; cases h; exact ho q
  exact ⟨x.mem.soft k fun a ha => (hS a ha).2, k.get (no _ _ x.h id) x.h, k.get (no _ _ x.hd id) x.hd, k.get (fun hm => (hS f hm).1 rfl) x.f⟩
/-- what the law's own names stand for, and what stays -/
structure Fz (H : AH) (A : Ad) (n hl kr : Addr) (kds : List KD) (cp : Option AV) (ps : Array Value) : Prop where
  cm : H n = some (.cell (some (.ref A.m)))
  ch : H (n + 1) = some (.cell (some (.ref hl)))
  cp : H (n + 2) = some (.cell cp)
  P : H 324 = some (.pred (· = tabObj ps))
  kl : H kr = some (.list (kds.map fun k => .ref k.t))
  kd : ∀ k ∈ kds, KdAt H k
theorem Fz.keep {cp : Option AV} {ps : Array Value} {S : List Addr} (I : Fz H A n₀ hl kr kds cp ps) (k : Keep S H H') (hS : ∀ a ∈ S, (∃ M, H a = some (.words M)) ∨ (a ≠ kr ∧ (∀ k ∈ kds, a ≠ k.oa) ∧ ∃ xs, H a = some (.list xs))) : Fz H' A n₀ hl kr kds cp ps := by
  have no : ∀ a o, H a = some o → (∀ xs, o ≠ .list xs) → (∀ M, o ≠ .words M) → a ∉ S := fun a o ha ho hw hm => by
    rcases hS a hm with ⟨M, h⟩ | ⟨_, _, xs, h⟩
    · rw [ha] at h; cases h; exact hw _ rfl
    · rw [ha] at h; cases h; exact ho _ rfl
  refine ⟨k.get (no _ _ I.cm (by simp) (by simp)) I.cm, k.get (no _ _ I.ch (by simp) (by simp)) I.ch, k.get (no _ _ I.cp (by simp) (by simp)) I.cp, k.get (no _ _ I.P (by simp) (by simp)) I.P, k.get (fun hm => ?_) I.kl, fun x hx => ⟨k.get (no _ _ (I.kd x hx).t (by simp) (by simp)) (I.kd x hx).t, k.get (fun hm => ?_) (I.kd x hx).o⟩⟩
  · rcases hS _ hm with ⟨M, h⟩ | ⟨h, _⟩
    · rw [I.kl] at h; cases h
    · exact h rfl
  · rcases hS _ hm with ⟨M, h⟩ | ⟨_, h, _⟩
    · rw [(I.kd x hx).o] at h; cases h
    · exact h x hx rfl
/-- before the records -/
structure L1 (H : AH) (A : Ad) (n r hl kr f : Addr) (lim : Int) (kds : List KD) (M : Int → Int) : Prop where
  fz : Fz H A n hl kr kds none #[]
  row : ∃ ms : List Int, ms.length ≤ 160 ∧ H r = some (.list (ms.map .int))
  lst : H hl = some (.list [])
  hp : HpAt H A lim f M (fl 1024 (lim - 1024))
  ks : ∀ k ∈ kds, KdOk k ∧ TabAt M k.w k.z k.os ∧ k.oa ∉ [f, r, hl]
  kn : 1 ≤ kds.length ∧ kds.length ≤ 3
  ne : r ≠ hl ∧ r ≠ f ∧ hl ≠ f ∧ kr ∉ [f, r, hl]
  lm : 1264 ≤ lim ∧ lim ≤ 1664 ∧ lim % 16 = 0
  tail : rd M 1024 = lim - 1024 + 1 ∧ rd M 1028 = 0
theorem sec1 {ms : List Int} {n : Nat} (fn : Fn (KK P) (n + 8) (fnScope (stAt 43)) (lawCl n₀) c) (hr1 : H r = some (.list (ms.map .int))) (hms : ms.length ≤ 160) (c0 : H n₀ = some (.cell none)) (c1 : H (n₀ + 1) = some (.cell none)) (c2 : H (n₀ + 2) = some (.cell none)) (hP : H 324 = some (.pred (· = tabObj #[])))
    (q : ∀ H' A hl kr f lim kds M, L1 H' A n₀ r hl kr f lim kds M → Exs w c (LB 6) [("row", .ref r), ("kinds", .ref kr), ("limit", .int lim), ("area", .ref A.h)] H' N R) : Exs w c (LB 1) [("row", .ref r)] H N R := by
  have hn := fn.names (ls := [("row", .local), ("memory", .cell), ("kinds", .local), ("limit", .local), ("area", .local), ("held", .cell), ("Memory", .globalImplicit), ("_law_kinds", .globalImplicit), ("_law_next", .globalImplicit), ("Heap", .globalImplicit)]) (by decide +kernel)
  have ok := fn.ok
  have hc := fn.comp
  have hm : c.env.cells.lookup (Str.ofString "memory") = some n₀ := by rw [fn.cells]; rfl
  have hh : c.env.cells.lookup (Str.ofString "held") = some (n₀ + 1) := by rw [fn.cells]; rfl
  refine Exs.cons (Ex.assign_cell (v₀ := none) ok hn (by rfl) hm (Ev.callf ok (globOk _) hn (by rfl) (by rfl) (new_Memory P).keep ?_))
  refine Ev.int ?_
  refine k_Memory fun H2 x dx wd mm k2 => ⟨none, k2.get (by simp) c0, ?_⟩
  have k3 : Keep [n₀] H (H2.set n₀ (.cell (some (.ref x)))) := (k2.mono (by simp)).trans (Keep.set (.head _))
  have mm : MemAt (H2.set n₀ (.cell (some (.ref x)))) ⟨x, dx, wd, 0, 0⟩ fun _ => 0 := (mm 0 0).soft (Keep.set (.head _)) fun a ha => by
    rw [List.mem_singleton.mp ha]; exact ⟨_, k2.get (by simp) c0, trivial⟩
  have no : ∀ a o, H a = some o → (∀ v, o ≠ .cell v) → a ∉ [n₀] := fun a o ha ho hm => by
    rw [List.mem_singleton.mp hm, c0] at ha; cases ha; exact ho _ rfl
  have c0 : (H2.set n₀ (.cell (some (.ref x)))) n₀ = some (.cell (some (.ref x))) := AH.set_self ..
  have c1 := k3.get (by simp) c1
  have c2 := k3.get (by simp) c2
  have hP := k3.get (no _ _ hP (by simp)) hP
  have hr1 := k3.get (no _ _ hr1 (by simp)) hr1
  clear no k3 k2
  generalize H2.set n₀ (.cell (some (.ref x))) = H3 at mm c0 c1 c2 hP hr1 ⊢
  refine Exs.cons (Ex.set ok hn hc (by rfl) (Ev.callf ok (globOk _) hn (by rfl) (by rfl) (d_kinds P).keep ?_))
  refine Ev.loc ‹_› ‹_› (by rfl) (by rfl) ?_
  refine Ev.cellv ok hn (by rfl) hm c0 ?_
  refine k_kinds mm hr1 hms fun H4 kr kds M1 kn1 kn3 hkr hkl mm4 row4 hkd k4 => ?_
  have no : ∀ a o, H3 a = some o → (∀ xs, o ≠ .list xs) → (∀ M, o ≠ .words M) → a ∉ [wd, r] := fun a o ha ho hw hm => by
    simp at hm
    rcases hm with e | e
    · rw [e, mm.w] at ha; cases ha; exact hw _ rfl
    · rw [e, hr1] at ha; cases ha; exact ho _ rfl
  have c0 := k4.get (no _ _ c0 (by simp) (by simp)) c0
  have c1 := k4.get (no _ _ c1 (by simp) (by simp)) c1
  have c2 := k4.get (no _ _ c2 (by simp) (by simp)) c2
  have hP := k4.get (no _ _ hP (by simp) (by simp)) hP
  have krr : kr ≠ r := fun e => by rw [e, hr1] at hkr; cases hkr
  have oar : ∀ k ∈ kds, KdOk k ∧ KdAt H4 k ∧ TabAt M1 k.w k.z k.os ∧ k.oa ≠ r := fun k hk => by
    obtain ⟨j, hj⟩ := List.getElem?_of_mem hk
    obtain ⟨a, _, b, d, e, _⟩ := hkd j k hj
    exact ⟨a, b, d, fun q => by rw [q, hr1] at e; cases e⟩
  clear no k4 hkr hr1 mm hkd
  obtain ⟨ms4, hl4, hr4⟩ := row4
  refine Exs.cons (Ex.set ok hn hc (by rfl) (Ev.bin (Ev.int (Ev.bin (Ev.int (Ev.bin (Ev.int (Ev.bin (Ev.callf ok (globOk _) hn (by rfl) (by rfl) (d_next P).keep ?_)))))))))
  refine Ev.loc ‹_› ‹_› (by rfl) (by rfl) ?_
  refine k_next hr4 hl4 fun H5 v5 ms5 hl5 hr5 k5 => Ev.int ⟨by decide, .inl (by decide), ?_⟩
  have lm : 1264 ≤ 1024 + 16 * (15 + v5 % 26) ∧ 1024 + 16 * (15 + v5 % 26) ≤ 1664 ∧ (1024 + 16 * (15 + v5 % 26)) % 16 = 0 := by lia
  refine (?_ : Exs _ _ _ (Loc.put _ (.int (1024 + 16 * (15 + v5 % 26))) _) _ _ _)
  generalize 1024 + 16 * (15 + v5 % 26) = lim at lm ⊢
  have no : ∀ a o, H4 a = some o → a ≠ r → a ∉ [r] := fun a o _ h hm => h (List.mem_singleton.mp hm)
  have nl : ∀ a o, H4 a = some o → (∀ xs, o ≠ .list xs) → a ≠ r := fun a o ha ho e => by rw [e, hr4] at ha; cases ha; exact ho _ rfl
  have c0 := k5.get (no _ _ c0 (nl _ _ c0 (by simp))) c0
  have c1 := k5.get (no _ _ c1 (nl _ _ c1 (by simp))) c1
  have c2 := k5.get (no _ _ c2 (nl _ _ c2 (by simp))) c2
  have hP := k5.get (no _ _ hP (nl _ _ hP (by simp))) hP
  have hkl := k5.get (no _ _ hkl krr) hkl
  have mm5 := mm4.soft k5 fun a ha => by rw [List.mem_singleton.mp ha]; exact ⟨_, hr4, trivial⟩
  have kd5 : ∀ k ∈ kds, KdAt H5 k := fun k hk => ⟨k5.get (no _ _ (oar k hk).2.1.t (nl _ _ (oar k hk).2.1.t (by simp))) (oar k hk).2.1.t, k5.get (no _ _ (oar k hk).2.1.o (oar k hk).2.2.2) (oar k hk).2.1.o⟩
  clear no nl k5 hr4 mm4
  refine Exs.cons (Ex.set ok hn hc (by rfl) (Ev.callf ok (globOk _) hn (by rfl) (by rfl) (new_Heap P).keep ?_))
  refine Ev.cellv ok hn (by rfl) hm c0 (Ev.int ?_)
  refine Ev.loc ‹_› ‹_› (by rfl) (by rfl) ?_
  refine k_Heap (fun h hd => ⟨mm5.m, mm5.md, mm5.w⟩) (by (clear fn hr1 hms q hn ok hc hm hh mm kn1 kn3 krr oar hl4 hl5 hr5 c0 c1 c2 hP hkl mm5 kd5; omega)) fun H6 h hd f x6 k6 hf => ?_
  have no : ∀ a o, H5 a = some o → (∀ M, o ≠ .words M) → a ∉ [wd] := fun a o ha hw hm => by
    rw [List.mem_singleton.mp hm, mm5.w] at ha; cases ha; exact hw _ rfl
  have fne : ∀ a o, H5 a = some o → a ≠ f := fun a o ha e => by rw [e, hf] at ha; cases ha
  have c0 := k6.get (no _ _ c0 (by simp)) c0
  have c1 := k6.get (no _ _ c1 (by simp)) c1
  have c2 := k6.get (no _ _ c2 (by simp)) c2
  have hP := k6.get (no _ _ hP (by simp)) hP
  have krf := fne _ _ hkl
  have hkl := k6.get (no _ _ hkl (by simp)) hkl
  have rf := fne _ _ hr5
  have hr6 := k6.get (no _ _ hr5 (by simp)) hr5
  have kd6 : ∀ k ∈ kds, KdAt H6 k ∧ k.oa ≠ f := fun k hk => ⟨⟨k6.get (no _ _ (kd5 k hk).t (by simp)) (kd5 k hk).t, k6.get (no _ _ (kd5 k hk).o (by simp)) (kd5 k hk).o⟩, fne _ _ (kd5 k hk).o⟩
  clear no fne k6 kd5 hr5 hf mm5
  refine Exs.cons (Ex.assign_cell (v₀ := none) ok hn (by rfl) hh (Ev.list ⟨by simp, fun hl hhl => ⟨none, (Keep.new (S := []) hhl).get (by simp) c1, ?_⟩⟩))
  have k7 : Keep [n₀ + 1] H6 ((H6.set hl (.list [])).set (n₀ + 1) (.cell (some (.ref hl)))) := (Keep.new hhl).trans (Keep.set (.head _))
  have hln : ∀ a o, H6 a = some o → hl ≠ a := fun a o ha e => by rw [← e, hhl] at ha; cases ha
  have no : ∀ a o, H6 a = some o → (∀ v, o ≠ .cell v) → a ∉ [n₀ + 1] := fun a o ha ho hm => by
    rw [List.mem_singleton.mp hm, c1] at ha; cases ha; exact ho _ rfl
  have x7 := x6.soft k7 fun a ha => by
    rw [List.mem_singleton.mp ha]
    exact ⟨fun e => (by rw [e, x6.f] at c1; cases c1), _, c1, trivial⟩
  have c0' := k7.get (by simp) c0
  have c2' := k7.get (by simp) c2
  have hP' := k7.get (no _ _ hP (by simp)) hP
  have hkl' := k7.get (no _ _ hkl (by simp)) hkl
  have hr7 := k7.get (no _ _ hr6 (by simp)) hr6
  have M2 := x7.mem.w
  have hl7 : ((H6.set hl (.list [])).set (n₀ + 1) (.cell (some (.ref hl)))) hl = some (.list []) := by rw [AH.set_ne (hln _ _ c1), AH.set_self]
  refine Exs.weaken [("row", .ref r), ("kinds", .ref kr), ("limit", .int lim), ("area", .ref h)] _ (by rfl) (fun _ _ e => e) ?_
  refine q _ ⟨x, dx, wd, h, hd⟩ hl kr f lim kds _ ⟨⟨c0', AH.set_self .., c2', hP', hkl', fun k hk => ?_⟩, ⟨ms5, hl5, hr7⟩, hl7, x7, fun k hk => ⟨(oar k hk).1, ?_, ?_⟩, ⟨kn1, kn3⟩, ⟨(hln _ _ hr6).symm, rf, hln _ _ x6.f, ?_⟩, lm, ⟨?_, ?_⟩⟩
  · exact ⟨k7.get (no _ _ (kd6 k hk).1.t (by simp)) (kd6 k hk).1.t, k7.get (no _ _ (kd6 k hk).1.o (by simp)) (kd6 k hk).1.o⟩
  · have kw := (oar k hk).1.w
    exact (oar k hk).2.2.1.mono ((oar k hk).1.os.len (oar k hk).1.z.2.1) fun y hy => by
      unfold wr
      rw [setM_ne (by lia), setM_ne (by lia)]
  · have := (oar k hk).2.2.2; have := (kd6 k hk).2; have := hln _ _ (kd6 k hk).1.o
    simp only [List.mem_cons, List.not_mem_nil, or_false, not_or]
    exact ⟨by assumption, by assumption, this.symm⟩
  · have := hln _ _ hkl
    simp only [List.mem_cons, List.not_mem_nil, or_false, not_or]
    exact ⟨krf, krr, this.symm⟩
  · rw [rd_wr_ne _ _ (by decide), rd_wr_eq rfl (by (clear fn hr1 hms q hn ok hc hm hh mm kn1 kn3 krr oar hl4 hl5 x6 c0 c1 c2 hP krf hkl rf hr6 kd6 hhl k7 hln no x7 c0' c2' hP' hkl' hr7 M2 hl7; lia))]
  · exact rd_wr_eq rfl (by decide)
end


section
variable {P : Params} {w : World} {c : Cx} {l l' : Loc} {H H' H₀ : AH} {s s' : Shared} {lvl n : Nat} {Q : AV → AH → Prop} {A : Ad} {M M' : Int → Int} {F : List Int} {f r hl kr n₀ : Addr} {lim e e' : Int} {kds : List KD} {hs hs' : List HD} {N : Loc → AH → Prop} {R : AV → AH → Prop}
/-- while the records are made -/
structure L2 (H : AH) (A : Ad) (n r hl kr f : Addr) (lim : Int) (kds : List KD) (hs : List HD) (e : Int) (M : Int → Int) : Prop where
  fz : Fz H A n hl kr kds none #[]
  row : ∃ ms : List Int, ms.length ≤ 160 ∧ H r = some (.list (ms.map .int))
  lst : H hl = some (.list (hs.map fun h => .ref h.t))
  hp : HpAt H A lim f M (fl e (lim - e))
  ks : ∀ k ∈ kds, KdOk k ∧ TabAt M k.w k.z k.os ∧ k.oa ∉ [f, r, hl]
  kn : 1 ≤ kds.length ∧ kds.length ≤ 3
  ne : r ≠ hl ∧ r ≠ f ∧ hl ≠ f ∧ kr ∉ [f, r, hl]
  lm : 1264 ≤ lim ∧ lim ≤ 1664 ∧ lim % 16 = 0
  hd : ∀ h ∈ hs, H h.t = some (.tuple [.int h.a, .ref h.k.t]) ∧ h.k ∈ kds
  lay : Lay 1024 hs e
  le : e ≤ lim ∧ e % 16 = 0
  mem : HMem hs M e lim
  zero : HZero hs M
theorem L1.l2 (I : L1 H A n₀ r hl kr f lim kds M) : L2 H A n₀ r hl kr f lim kds [] 1024 M :=
  ⟨I.fz, I.row, I.lst, I.hp, I.ks, I.kn, I.ne, I.lm, (fun _ h => nomatch h), .nil, ⟨by have := I.lm; lia, by decide⟩, ⟨(fun _ h => nomatch h), (fun _ h => nomatch h), (fun _ h => nomatch h), fun _ => I.tail⟩, fun _ h => nomatch h⟩
theorem L2.kds_ (I : L2 H A n₀ r hl kr f lim kds hs e M) : Kds hs := fun h hh => (I.ks _ (I.hd h hh).2).1
theorem L2.soft (I : L2 H A n₀ r hl kr f lim kds hs e M) : ∀ a ∈ [A.w, f, r, hl], (∃ M, H a = some (.words M)) ∨ (a ≠ kr ∧ (∀ k ∈ kds, a ≠ k.oa) ∧ ∃ xs, H a = some (.list xs)) := fun a ha => by
  obtain ⟨ms, _, hr⟩ := I.row
  obtain ⟨_, _, _, k1⟩ := I.ne
  simp only [List.mem_cons, List.not_mem_nil, or_false, not_or] at k1 ha
  have k2 : ∀ k ∈ kds, ¬ k.oa = f ∧ ¬ k.oa = r ∧ ¬ k.oa = hl := fun k hk => by
    have := (I.ks k hk).2.2
    simpa only [List.mem_cons, List.not_mem_nil, or_false, not_or] using this
  rcases ha with rfl | rfl | rfl | rfl
  · exact .inl ⟨_, I.hp.mem.w⟩
  · exact .inr ⟨fun e => k1.1 e.symm, fun k hk e => (k2 k hk).1 e.symm, _, I.hp.f⟩
  · exact .inr ⟨fun e => k1.2.1 e.symm, fun k hk e => (k2 k hk).2.1 e.symm, _, hr⟩
  · exact .inr ⟨fun e => k1.2.2 e.symm, fun k hk e => (k2 k hk).2.2 e.symm, _, I.lst⟩
theorem L2.tups (I : L2 H A n₀ r hl kr f lim kds hs e M) {t : Addr} {xs : List AV} (ht : H t = some (.tuple xs)) : t ∉ [A.w, f, r, hl] := fun hm => by
  rcases I.soft t hm with ⟨_, h⟩ | ⟨_, _, _, h⟩ <;> (rw [ht] at h; cases h)
theorem L2.row_ (I : L2 H A n₀ r hl kr f lim kds hs e M) (k : Keep [r] H H') (row : ∃ ms : List Int, ms.length ≤ 160 ∧ H' r = some (.list (ms.map .int))) : L2 H' A n₀ r hl kr f lim kds hs e M := by
  obtain ⟨ms, _, hr⟩ := I.row
  have k4 : Keep [A.w, f, r, hl] H H' := k.mono (by simp)
  exact { I with
    fz := I.fz.keep k4 I.soft
    row := row
    lst := k.get (by simpa using I.ne.1.symm) I.lst
    hp := I.hp.soft k fun a ha => by rw [List.mem_singleton.mp ha]; exact ⟨I.ne.2.1, _, hr, trivial⟩
    hd := fun h hh => ⟨k4.get (I.tups (I.hd h hh).1) (I.hd h hh).1, (I.hd h hh).2⟩ }
theorem L2.new (I : L2 H A n₀ r hl kr f lim kds hs e M) (k : Keep [] H H') : L2 H' A n₀ r hl kr f lim kds hs e M := by
  obtain ⟨ms, hm, hr⟩ := I.row
  exact I.row_ (k.mono (by simp)) ⟨ms, hm, k.get (by simp) hr⟩
/-- alloc has turned the memory -/
theorem L2.wr (I : L2 H A n₀ r hl kr f lim kds hs e M) (k : Keep [A.w, f] H H') : Fz H' A n₀ hl kr kds none #[] ∧ (∃ ms : List Int, ms.length ≤ 160 ∧ H' r = some (.list (ms.map .int))) ∧ H' hl = some (.list (hs.map fun h => .ref h.t)) ∧ ∀ h ∈ hs, H' h.t = some (.tuple [.int h.a, .ref h.k.t]) ∧ h.k ∈ kds := by
  obtain ⟨ms, hm, hr⟩ := I.row
  have k4 : Keep [A.w, f, r, hl] H H' := k.mono (by simp)
  have no : ∀ a xs, H a = some (.list xs) → a ≠ f → a ∉ [A.w, f] := fun a xs ha hf hm => by
    simp at hm
    rcases hm with e | e
    · rw [e, I.hp.mem.w] at ha; cases ha
    · exact hf e
  exact ⟨I.fz.keep k4 I.soft, ⟨ms, hm, k.get (no _ _ hr I.ne.2.1) hr⟩, k.get (no _ _ I.lst I.ne.2.2.1) I.lst, fun h hh => ⟨k4.get (I.tups (I.hd h hh).1) (I.hd h hh).1, (I.hd h hh).2⟩⟩
theorem sec2 {n : Nat} (fn : Fn (KK P) (n + 8) (fnScope (stAt 43)) (lawCl n₀) c) (I : L1 H A n₀ r hl kr f lim kds M)
    (q : ∀ H' hs e M, L2 H' A n₀ r hl kr f lim kds hs e M → hs.length ≤ 10 → Exs w c (LB 7) [("row", .ref r), ("limit", .int lim), ("area", .ref A.h)] H' N R) : Exs w c (LB 6) [("row", .ref r), ("kinds", .ref kr), ("limit", .int lim), ("area", .ref A.h)] H N R := by
  have hn := fn.names (ls := [("row", .local), ("lap", .local), ("range", .globalImplicit), ("_law_next", .globalImplicit)]) (by decide +kernel)
  have ok := fn.ok
  have hc := fn.comp
  have I := I.l2
  refine Exs.cons (Ex.for_ fn (Ev.range1 (by exact Bi.of ‹_› (globOk _) ‹_› (by rfl) (by rfl)) ?_))
  refine Ev.bin (Ev.callf ok (globOk _) hn (by rfl) (by rfl) (d_next P).keep ?_)
  refine Ev.loc ‹_› ‹_› (by rfl) (by rfl) ?_
  obtain ⟨ms, hms, hr⟩ := I.row
  refine k_next hr hms fun H1 v ms1 hl1 hr1 k1 => Ev.int ⟨by decide, v % 11, rfl, fun rg hrg => ?_⟩
  have I := I.row_ k1 ⟨ms1, hl1, hr1⟩
  have hv : 0 ≤ v % 11 ∧ v % 11 ≤ 10 := by lia
  generalize v % 11 = v at hv hrg ⊢
  clear k1 hr hms hr1 hl1
  refine ⟨.range 0 1 (v - 0).toNat, fun i l' H' => l' = [("row", .ref r), ("kinds", .ref kr), ("limit", .int lim), ("area", .ref A.h)] ∧ ∃ hs e M, L2 H' A n₀ r hl kr f lim kds hs e M ∧ hs.length ≤ i, from_1 (AH.set_self ..) (by lia) (by lia) (by lia), ⟨rfl, [], _, _, I.new (Keep.new hrg), Nat.le_refl _⟩, fun _ _ _ _ => trivial, ?_, ?_⟩
  rotate_left
  · rintro l H2 ⟨rfl, hs, e, M, I, hlen⟩
    refine Exs.weaken _ H2 ?_ (fun _ _ e => e) (q H2 hs e M I ?_)
    · rfl
    · have : (Src.range 0 1 (v - 0).toNat).len = (v - 0).toNat := rfl
      lia
  clear I hn ok hc
  rintro c NN fn i u l H2 hi hu hN ⟨rfl, hs, e, M, I, hlen⟩
  have hi : i < (v - 0).toNat := hi
  have hn := fn.names (ls := [("row", .local), ("kinds", .local), ("limit", .local), ("area", .local), ("lap", .local), ("kind", .local), ("where", .local), ("held", .cell), ("len", .globalImplicit), ("_law_next", .globalImplicit)]) (by decide +kernel)
  have ok := fn.ok
  have hc := fn.comp
  have hh : c.env.cells.lookup (Str.ofString "held") = some (n₀ + 1) := by rw [fn.cells]; rfl
  refine Asg.name ok hc hn (by rfl) ?_
  refine Exs.cons (Ex.set ok hn hc (by rfl) (Ev.item ?_))
  refine Ev.loc ‹_› ‹_› (by rfl) (by rfl) ?_
  refine Ev.bin (Ev.callf ok (globOk _) hn (by rfl) (by rfl) (d_next P).keep ?_)
  refine Ev.loc ‹_› ‹_› (by rfl) (by rfl) ?_
  obtain ⟨ms, hms, hr⟩ := I.row
  refine k_next hr hms fun H3 v3 ms3 hl3 hr3 k3 => Ev.len (by exact Bi.of ‹_› (globOk _) ‹_› (by rfl) (by rfl)) ?_
  have I := I.row_ k3 ⟨ms3, hl3, hr3⟩
  clear k3 hr hms hr3 hl3
  refine Ev.loc ‹_› ‹_› (by rfl) (by rfl) ?_
  have kn := I.kn
  refine ⟨kr, _, rfl, I.fz.kl, by rw [List.length_map]; lia, ?_⟩
  rw [List.length_map]
  refine ⟨by lia, ?_⟩
  have hj : 0 ≤ v3 % (kds.length : Int) ∧ v3 % (kds.length : Int) < kds.length := ⟨Int.emod_nonneg _ (by lia), Int.emod_lt_of_pos _ (by omega)⟩
  refine (?_ : ItemP (.ref kr) (.int (v3 % (kds.length : Int))) H3 _)
  generalize v3 % (kds.length : Int) = j at hj ⊢
  have hjl : j.toNat < kds.length := by lia
  have hjk := List.getElem?_eq_getElem hjl
  generalize kds[j.toNat] = k at hjk
  have hk := List.mem_of_getElem? hjk
  refine ⟨.ref k.t, .list I.fz.kl hj.1 (by rw [List.getElem?_map, hjk]; rfl) (by lia), ?_⟩
  obtain ⟨ko, kt, koa⟩ := I.ks k hk
  have kw := ko.w
  have hz := bs_rng ko.z
  refine Exs.cons (Ex.set ok hn hc (by rfl) (Ev.hmeth ok (m_alloc P) (by simp) ?_))
  refine Ev.loc ‹_› ‹_› (by rfl) (by rfl) ?_
  refine ⟨A, lim, f, M, _, rfl, I.hp, Ev.item ?_⟩
  refine Ev.loc ‹_› ‹_› (by rfl) (by rfl) ?_
  have lm := I.lm
  have le := I.le
  have lo := I.lay.le I.kds_
  have zz := kt.z
  refine Ev.int ⟨.int k.w, .tuple (I.fz.kd k hk).t (by decide) rfl (by decide), k_alloc I.hp (z := bs k.z) hz.2 (by lia) (by lia) (fun h => by have := I.mem.tail (by (clear q hrg hv fn hu hN hlen hi hn ok hc hh I kn hj hjl hjk hk ko kt koa kw hz lm le lo zz; lia)); rw [this.1, this.2]; exact ⟨by lia, rfl⟩) (by lia) (by rw [zz]) (fun hfit H4 M4 hp4 k4 pst => ?_) fun hno H4 hp4 k4 => ?_⟩
  · have W := I.wr k4
    refine Exs.cons (Ex.ifs (Tr.cmp ?_))
    refine Ev.loc ‹_› ‹_› (by rfl) (by rfl) ?_
    refine Ev.int ⟨fun _ => ?_, fun h => by simp at h; lia⟩
    refine Exs.cons (Ex.expr (Ev.append ?_) (inter ok))
    refine Ev.cellv ok hn (by rfl) hh W.1.ch ?_
    refine ⟨hl, _, rfl, W.2.2.1, Ev.tuple ?_⟩
    refine Ev.loc ‹_› ‹_› (by rfl) (by rfl) ?_
    refine Ev.loc ‹_› ‹_› (by rfl) (by rfl) ?_
    refine ⟨by simp, fun t ht => ⟨_, (Keep.new (S := []) ht).get (by simp) W.2.2.1, by rw [List.length_map]; (clear q hrg fn hu hN hn ok hc hh I kn hj hjl hjk hk ko kt koa kw hz lm le lo zz hfit hp4 k4 pst W ht; lia), trivial, ?_⟩⟩
    obtain ⟨m4, z4, t4⟩ := HMem.alloc (h := ⟨t, e + 8, k⟩) I.lay I.kds_ ko rfl le.2 I.mem I.zero kt pst
    have hlt : hl ≠ t := fun e => by rw [← e, W.2.2.1] at ht; cases ht
    have k5 : Keep [hl] H4 ((H4.set t (.tuple [.int (e + 8), .ref k.t])).set hl (.list ((hs.map fun h => AV.ref h.t) ++ [.ref t]))) := (Keep.new ht).trans (Keep.set (.head _))
    have hl5 : ((H4.set t (.tuple [.int (e + 8), .ref k.t])).set hl (.list ((hs.map fun h => AV.ref h.t) ++ [.ref t]))) hl = _ := AH.set_self ..
    have ht5 : ((H4.set t (.tuple [.int (e + 8), .ref k.t])).set hl (.list ((hs.map fun h => AV.ref h.t) ++ [.ref t]))) t = some (.tuple [.int (e + 8), .ref k.t]) := by rw [AH.set_ne hlt.symm, AH.set_self]
    refine Exs.nil (Exs.nil (hN _ (by rfl) ⟨rfl, hs ++ [⟨t, e + 8, k⟩], e + bs k.z, M4, ?_, by simp; exact hlen⟩))
    generalize (H4.set t (.tuple [.int (e + 8), .ref k.t])).set hl (.list ((hs.map fun h => AV.ref h.t) ++ [.ref t])) = H5 at k5 hl5 ht5 ⊢
    obtain ⟨ms4, hm4, hr4⟩ := W.2.1
    obtain ⟨n1, n2, n3, n4⟩ := I.ne
    have n4' : kr ≠ hl := fun e => n4 (by simp [e])
    refine ⟨W.1.keep k5 fun a ha => ?_, ⟨ms4, hm4, k5.get (by simpa using n1) hr4⟩, by rw [hl5, List.map_append]; rfl, ?_, fun x hx => ⟨(I.ks x hx).1, ?_, (I.ks x hx).2.2⟩, I.kn, I.ne, lm, fun x hx => ?_, I.lay.snoc rfl, ⟨by (clear q hrg hv fn hu hN hlen hi hn ok hc hh I kn hj hjl hjk hk ko kt koa kw hz lm le lo zz hp4 k4 pst W ht m4 z4 t4 hlt k5 hl5 ht5 hm4 hr4 n1 n2 n3 n4 n4'; lia), by (clear q hrg hv fn hu hN hlen hi hn ok hc hh I kn hj hjl hjk hk ko kt koa kw lm lo zz hfit hp4 k4 pst W ht m4 z4 t4 hlt k5 hl5 ht5 hm4 hr4 n1 n2 n3 n4 n4'; lia)⟩, m4, z4⟩
    · rw [List.mem_singleton.mp ha]
      exact .inr ⟨n4'.symm, fun x hx e => (I.ks x hx).2.2 (by simp [← e]), _, W.2.2.1⟩
    · rw [show lim - (e + bs k.z) = lim - e - bs k.z by (clear q hrg hv fn hu hN hlen hi hn ok hc hh I kn hj hjl hjk hk ko kt koa kw hz lm le lo zz hfit hp4 k4 pst W ht m4 z4 t4 hlt k5 hl5 ht5 hm4 hr4 n1 n2 n3 n4 n4'; lia)]
      exact hp4.soft k5 fun a ha => by rw [List.mem_singleton.mp ha]; exact ⟨n3, _, W.2.2.1, trivial⟩
    · exact t4 _ _ _ (I.ks x hx).1.w.2.1 ((I.ks x hx).1.os.len (I.ks x hx).1.z.2.1) (I.ks x hx).2.1
    · rcases List.mem_append.mp hx with hx | hx
      · exact ⟨k5.get (fun hm => by have := (W.2.2.2 x hx).1; rw [List.mem_singleton.mp hm, W.2.2.1] at this; cases this) (W.2.2.2 x hx).1, (I.hd x hx).2⟩
      · rw [List.mem_singleton.mp hx]; exact ⟨ht5, hk⟩
  · have W := I.wr k4
    refine Exs.cons (Ex.ifs (Tr.cmp ?_))
    refine Ev.loc ‹_› ‹_› (by rfl) (by rfl) ?_
    refine Ev.int ⟨fun h => by simp at h, fun _ => Exs.nil (Exs.nil (hN _ (by rfl) ⟨rfl, hs, e, M, { I with fz := W.1, row := W.2.1, lst := W.2.2.1, hp := hp4, hd := W.2.2.2 }, by lia⟩))⟩
end


section
variable {P : Params} {w : World} {c : Cx} {l l' : Loc} {H H' H₀ : AH} {s s' : Shared} {lvl n : Nat} {Q : AV → AH → Prop} {A : Ad} {M M' : Int → Int} {F : List Int} {f r hl lk kr n₀ : Addr} {lim e e' : Int} {kds : List KD} {hs hs' : List HD} {xs : List LK} {N : Loc → AH → Prop} {R : AV → AH → Prop}
/-- the records and their links, as the ledger has them -/
structure L3 (H : AH) (A : Ad) (n hl lk : Addr) (hs : List HD) (xs : List LK) : Prop where
  cm : H n = some (.cell (some (.ref A.m)))
  ch : H (n + 1) = some (.cell (some (.ref hl)))
  held : H hl = some (.list (hs.map fun h => .ref h.t))
  hd : ∀ h ∈ hs, HdAt H h
  lks : H lk = some (.list (xs.map fun x => .ref x.a))
  lx : ∀ x ∈ xs, LkAt H x
/-- addresses that none of these is -/
noncomputable def Off (hl lk n : Addr) (hs : List HD) (H : AH) (a : Addr) : Prop := a ≠ n ∧ a ≠ n + 1 ∧ ∃ o, H a = some o ∧ match o with
  | .list _ => a ≠ hl ∧ a ≠ lk ∧ ∀ h ∈ hs, a ≠ h.k.oa
  | .tuple _ => False
  | .idict _ => False
  | _ => True
theorem L3.keep {S : List Addr} (I : L3 H A n₀ hl lk hs xs) (k : Keep S H H') (hS : ∀ a ∈ S, Off hl lk n₀ hs H a) : L3 H' A n₀ hl lk hs xs := by
  have tn : ∀ a ys, H a = some (.tuple ys) → a ∉ S := fun a ys ha hm => by
    obtain ⟨_, _, o, ho, q⟩ := hS a hm
    rw [ha] at ho; cases ho; exact q
  have dn : ∀ a ys, H a = some (.idict ys) → a ∉ S := fun a ys ha hm => by
    obtain ⟨_, _, o, ho, q⟩ := hS a hm
    rw [ha] at ho; cases ho; exact q
  have ln : ∀ a ys, H a = some (.list ys) → a = hl ∨ a = lk ∨ (∃ h ∈ hs, a = h.k.oa) → a ∉ S := fun a ys ha hq hm => by
    obtain ⟨_, _, o, ho, q⟩ := hS a hm
    rw [ha] at ho; cases ho
    rcases hq with e | e | ⟨h, hh, e⟩
    · exact q.1 e
    · exact q.2.1 e
    · exact q.2.2 h hh e
  exact ⟨k.get (fun hm => (hS _ hm).1 rfl) I.cm, k.get (fun hm => (hS _ hm).2.1 rfl) I.ch, k.get (ln _ _ I.held (.inl rfl)) I.held, fun h hh => (I.hd h hh).keep k (tn _ _ (I.hd h hh).1) (tn _ _ (I.hd h hh).2.t) (ln _ _ (I.hd h hh).2.o (.inr (.inr ⟨h, hh, rfl⟩))), k.get (ln _ _ I.lks (.inr (.inl rfl))) I.lks, fun x hx => k.get (dn _ _ (I.lx x hx)) (I.lx x hx)⟩
/-- the same in plain words -/
structure Sc0 (hs : List HD) (xs : List LK) (M : Int → Int) (lim e : Int) : Prop where
  lay : Lay 1024 hs e
  kd : Kds hs
  le : e ≤ lim
  lm : 1264 ≤ lim ∧ lim ≤ 1664 ∧ lim % 16 = 0
  rng : Rng M
  mem : HMem hs M e lim
  len : xs.length = hs.length
  n10 : hs.length ≤ 10
  lk : ∀ (j : Nat) h x, hs[j]? = some h → xs[j]? = some x → LinkOk hs M h x
theorem HMem.out {hs : List HD} {M M' : Int → Int} {e lim : Int} (m : HMem hs M e lim) (L : Lay 1024 hs e) (kd : Kds hs) (o : Out hs M M') : HMem hs M' e lim := by
  have g := L.get kd (by decide)
  have low : ∀ y, y < 1024 → rd M' y = rd M y := fun y hy => o y fun h hh => by have := g h hh; lia
  have sep : ∀ h ∈ hs, ∀ x ∈ hs, h = x ∨ h.a + bs h.k.z ≤ x.a ∨ x.a + bs x.k.z ≤ h.a := fun h hh x hx => by
    obtain ⟨i, hi⟩ := List.getElem?_of_mem hh
    obtain ⟨j, hj⟩ := List.getElem?_of_mem hx
    rcases Nat.lt_trichotomy i j with q | q | q
    · exact .inr (.inl (L.lt kd (by decide) i j h x q hi hj))
    · subst q; rw [hi] at hj; cases hj; exact .inl rfl
    · exact .inr (.inr (L.lt kd (by decide) j i x h q hj hi))
  have nb : ∀ h ∈ hs, ∀ y, h.a - 8 ≤ y → y < h.a → rd M' y = rd M y := fun h hh y y0 y1 => o y fun x hx => by
    have := g h hh; have := g x hx; have := bs_rng (kd x hx).z; have := (kd x hx).z; have := bs_rng (kd h hh).z
    rcases sep h hh x hx with rfl | q | q <;> lia
  refine ⟨fun h hh => (nb h hh _ (by lia) (by lia)).trans (m.head h hh), fun h hh => (nb h hh _ (by lia) (by lia)).trans (m.mark h hh), fun h hh => ?_, fun hlt => ?_⟩
  · have t := m.tab h hh
    have kw := (kd h hh).w
    have kl := (kd h hh).os.len (kd h hh).z.2.1
    refine ⟨(low _ (by lia)).trans t.z, fun k o hk => ?_, (low _ (by lia)).trans t.e⟩
    have := (List.getElem?_eq_some_iff.mp hk).1
    exact (low _ (by lia)).trans (t.t k o hk)
  · have hi : ∀ y, e ≤ y → rd M' y = rd M y := fun y hy => o y fun x hx => by have := g x hx; have := bs_rng (kd x hx).z; lia
    rw [hi _ (Int.le_refl _), hi _ (by lia)]; exact m.tail hlt
theorem sec3 {n : Nat} (fn : Fn (KK P) (n + 8) (fnScope (stAt 43)) (lawCl n₀) c) (I : L2 H A n₀ r hl kr f lim kds hs e M) (h10 : hs.length ≤ 10)
    (q : ∀ H' lk xs M', L3 H' A n₀ hl lk hs xs → Sc0 hs xs M' lim e → HpAt H' A lim f M' (fl e (lim - e)) → Off hl lk n₀ hs H' r → r ≠ f → H' (n₀ + 2) = some (.cell none) → H' 324 = some (.pred (· = tabObj #[])) → (∃ ms : List Int, ms.length ≤ 160 ∧ H' r = some (.list (ms.map .int))) →
      Exs w c (LB 8) [("row", .ref r), ("limit", .int lim), ("area", .ref A.h), ("links", .ref lk)] H' N R) : Exs w c (LB 7) [("row", .ref r), ("limit", .int lim), ("area", .ref A.h)] H N R := by
  have hn := fn.names (ls := [("row", .local), ("memory", .cell), ("held", .cell), ("links", .local), ("_law_filled", .globalImplicit)]) (by decide +kernel)
  have ok := fn.ok
  have hc := fn.comp
  have hm : c.env.cells.lookup (Str.ofString "memory") = some n₀ := by rw [fn.cells]; rfl
  have hh : c.env.cells.lookup (Str.ofString "held") = some (n₀ + 1) := by rw [fn.cells]; rfl
  refine Exs.cons (Ex.set ok hn hc (by rfl) (Ev.callf ok (globOk _) hn (by rfl) (by rfl) (d_filled P).keep ?_))
  refine Ev.loc ‹_› ‹_› (by rfl) (by rfl) ?_
  refine Ev.cellv ok hn (by rfl) hm I.fz.cm (Ev.cellv ok hn (by rfl) hh I.fz.ch ?_)
  obtain ⟨ms, hms, hr⟩ := I.row
  obtain ⟨n1, n2, n3, n4⟩ := I.ne
  have oan : ∀ h ∈ hs, h.k.oa ≠ f ∧ h.k.oa ≠ r ∧ h.k.oa ≠ hl := fun h hh => by
    have := (I.ks _ (I.hd h hh).2).2.2
    simpa only [List.mem_cons, List.not_mem_nil, or_false, not_or] using this
  have hdat : ∀ h ∈ hs, HdAt H h := fun h hh => ⟨(I.hd h hh).1, I.fz.kd _ (I.hd h hh).2⟩
  have lm := I.lm
  have le := I.le
  refine k_filled I.hp.mem hr hms I.lst n1.symm (fun h hh => ⟨hdat h hh, I.kds_ h hh, (oan h hh).2.1⟩) (by lia) I.lay (by lia) I.zero fun H1 lk xs M1 hlk hlk1 hlen mm1 row1 out lnk k1 => ?_
  have no : ∀ a o, H a = some o → (∀ M, o ≠ .words M) → a ≠ r → a ∉ [A.w, r] := fun a o ha hw hr hm => by
    simp at hm
    rcases hm with e | e
    · rw [e, I.hp.mem.w] at ha; cases ha; exact hw _ rfl
    · exact hr e
  have nl : ∀ a o, H a = some o → (∀ xs, o ≠ .list xs) → a ≠ r := fun a o ha ho e => by rw [e, hr] at ha; cases ha; exact ho _ rfl
  have lkn : ∀ a o, H a = some o → lk ≠ a := fun a o ha e => by rw [← e, hlk] at ha; cases ha
  obtain ⟨ms1, hms1, hr1⟩ := row1
  refine Exs.rng mm1.w fun rg => ?_
  refine Exs.weaken [("row", .ref r), ("limit", .int lim), ("area", .ref A.h), ("links", .ref lk)] H1 (by rfl) (fun _ _ e => e) ?_
  refine q H1 lk xs M1 ⟨?_, ?_, ?_, fun h hh => ?_, hlk1, fun x hx => ?_⟩ ⟨I.lay, I.kds_, le.1, lm, rg, I.mem.out I.lay I.kds_ out, hlen, h10, fun j h x hj hx => (lnk j h x hj hx).2.2⟩ ⟨mm1, ?_, ?_, ?_⟩ ⟨?_, ?_, _, hr1, n1, (lkn _ _ hr).symm, fun h hh => (oan h hh).2.1.symm⟩ n2 ?_ ?_ ⟨ms1, hms1, hr1⟩
  · exact k1.get (no _ _ I.fz.cm (by simp) (nl _ _ I.fz.cm (by simp))) I.fz.cm
  · exact k1.get (no _ _ I.fz.ch (by simp) (nl _ _ I.fz.ch (by simp))) I.fz.ch
  · exact k1.get (no _ _ I.lst (by simp) n1.symm) I.lst
  · have D := hdat h hh
    exact D.keep k1 (no _ _ D.1 (by simp) (nl _ _ D.1 (by simp))) (no _ _ D.2.t (by simp) (nl _ _ D.2.t (by simp))) (no _ _ D.2.o (by simp) (oan h hh).2.1)
  · obtain ⟨j, hj⟩ := List.getElem?_of_mem hx
    have hjl := (List.getElem?_eq_some_iff.mp hj).1
    exact (lnk j _ x (List.getElem?_eq_getElem (by lia)) hj).1
  · exact k1.get (no _ _ I.hp.h (by simp) (nl _ _ I.hp.h (by simp))) I.hp.h
  · exact k1.get (no _ _ I.hp.hd (by simp) (nl _ _ I.hp.hd (by simp))) I.hp.hd
  · exact k1.get (no _ _ I.hp.f (by simp) n2.symm) I.hp.f
  · exact (nl _ _ I.fz.cm (by simp)).symm
  · exact (nl _ _ I.fz.ch (by simp)).symm
  · exact k1.get (no _ _ I.fz.cp (by simp) (nl _ _ I.fz.cp (by simp))) I.fz.cp
  · exact k1.get (no _ _ I.fz.P (by simp) (nl _ _ I.fz.P (by simp))) I.fz.P
end


section
variable {P : Params} {w : World} {c : Cx} {l l' : Loc} {H H' H₀ : AH} {s s' : Shared} {lvl n : Nat} {Q : AV → AH → Prop} {A : Ad} {M M' : Int → Int} {F : List Int} {f r hl lk sa wa kr n₀ : Addr} {lim e e' : Int} {kds : List KD} {hs hs' : List HD} {xs : List LK} {ss ws ss' ws' : List Int} {N : Loc → AH → Prop} {R : AV → AH → Prop}
/-- the root words drawn -/
structure W4 (hs : List HD) (lim : Int) (ss ws : List Int) : Prop where
  wd : ∀ w ∈ ws, (∃ s ∈ ss, ∃ h, hs[s.toNat]? = some h ∧ h.a ≤ w ∧ w < h.a - 8 + bs h.k.z) ∨ w < 1024 ∨ lim ≤ w
  sw : ∀ s ∈ ss, 0 ≤ s ∧ ∃ h, hs[s.toNat]? = some h ∧ ∃ w ∈ ws, h.a ≤ w ∧ w < h.a - 8 + bs h.k.z
theorem W4.plain {w : Int} (I : W4 hs lim ss ws) (h : w < 1024 ∨ lim ≤ w) : W4 hs lim ss (ws ++ [w]) :=
  ⟨fun x hx => (List.mem_append.mp hx).elim (I.wd x) fun hx => by rw [List.mem_singleton.mp hx]; exact .inr h, fun s hs => by
    obtain ⟨a, h, b, x, hx, r⟩ := I.sw s hs
    exact ⟨a, h, b, x, List.mem_append_left _ hx, r⟩⟩
theorem W4.root {w s : Int} {h : HD} (I : W4 hs lim ss ws) (h0 : 0 ≤ s) (hh : hs[s.toNat]? = some h) (w0 : h.a ≤ w) (w1 : w < h.a - 8 + bs h.k.z) : W4 hs lim (ss ++ [s]) (ws ++ [w]) := by
  refine ⟨fun x hx => ?_, fun t ht => ?_⟩
  · rcases List.mem_append.mp hx with hx | hx
    · rcases I.wd x hx with ⟨t, ht, r⟩ | r
      · exact .inl ⟨t, List.mem_append_left _ ht, r⟩
      · exact .inr r
    · rw [List.mem_singleton.mp hx]; exact .inl ⟨s, List.mem_append_right _ (.head _), h, hh, w0, w1⟩
  · rcases List.mem_append.mp ht with ht | ht
    · obtain ⟨a, h, b, x, hx, r⟩ := I.sw t ht
      exact ⟨a, h, b, x, List.mem_append_left _ hx, r⟩
    · rw [List.mem_singleton.mp ht]; exact ⟨h0, h, hh, w, List.mem_append_right _ (.head _), w0, w1⟩
/-- while the roots are drawn -/
structure L4 (H : AH) (A : Ad) (n r hl lk sa wa f : Addr) (lim : Int) (hs : List HD) (xs : List LK) (e : Int) (M : Int → Int) (ss ws : List Int) : Prop where
  l3 : L3 H A n hl lk hs xs
  hp : HpAt H A lim f M (fl e (lim - e))
  cp : H (n + 2) = some (.cell none)
  P : H 324 = some (.pred (· = tabObj #[]))
  row : ∃ ms : List Int, ms.length ≤ 160 ∧ H r = some (.list (ms.map .int))
  st : H sa = some (.list (ss.map .int))
  wt : H wa = some (.list (ws.map .int))
  ne : ∀ a ∈ [r, sa, wa], a ≠ f ∧ a ≠ hl ∧ a ≠ lk ∧ ∀ h ∈ hs, a ≠ h.k.oa
  nd : r ≠ sa ∧ r ≠ wa ∧ sa ≠ wa
theorem L4.lst (I : L4 H A n₀ r hl lk sa wa f lim hs xs e M ss ws) : ∀ a ∈ [r, sa, wa], ∃ ys, H a = some (.list ys) := fun a ha => by
  obtain ⟨ms, _, hr⟩ := I.row
  simp at ha
  rcases ha with rfl | rfl | rfl
  · exact ⟨_, hr⟩
  · exact ⟨_, I.st⟩
  · exact ⟨_, I.wt⟩
theorem L4.step (I : L4 H A n₀ r hl lk sa wa f lim hs xs e M ss ws) (k : Keep [r, sa, wa] H H') (row : ∃ ms : List Int, ms.length ≤ 160 ∧ H' r = some (.list (ms.map .int))) (st : H' sa = some (.list (ss'.map .int))) (wt : H' wa = some (.list (ws'.map .int))) :
    L4 H' A n₀ r hl lk sa wa f lim hs xs e M ss' ws' := by
  have nl : ∀ a o, H a = some o → (∀ ys, o ≠ .list ys) → a ∉ [r, sa, wa] := fun a o ha ho hm => by
    obtain ⟨ys, h⟩ := I.lst a hm
    rw [ha] at h; cases h; exact ho _ rfl
  refine ⟨I.l3.keep k fun a ha => ?_, I.hp.soft k fun a ha => ?_, k.get (nl _ _ I.cp (by simp)) I.cp, k.get (nl _ _ I.P (by simp)) I.P, row, st, wt, I.ne, I.nd⟩
  · obtain ⟨ys, h⟩ := I.lst a ha
    obtain ⟨_, q⟩ := I.ne a ha
    exact ⟨fun e => nl _ _ I.l3.cm (by simp) (e ▸ ha), fun e => nl _ _ I.l3.ch (by simp) (e ▸ ha), _, h, q⟩
  · obtain ⟨ys, h⟩ := I.lst a ha
    exact ⟨(I.ne a ha).1, _, h, trivial⟩
theorem L4.next (I : L4 H A n₀ r hl lk sa wa f lim hs xs e M ss ws) (k : Keep [r] H H') (row : ∃ ms : List Int, ms.length ≤ 160 ∧ H' r = some (.list (ms.map .int))) : L4 H' A n₀ r hl lk sa wa f lim hs xs e M ss ws :=
  I.step (k.mono (by simp)) row (k.get (by simpa using I.nd.1.symm) I.st) (k.get (by simpa using I.nd.2.1.symm) I.wt)
theorem L4.new (I : L4 H A n₀ r hl lk sa wa f lim hs xs e M ss ws) (k : Keep [] H H') : L4 H' A n₀ r hl lk sa wa f lim hs xs e M ss ws := by
  obtain ⟨ms, hm, hr⟩ := I.row
  exact I.next (k.mono (by simp)) ⟨ms, hm, k.get (by simp) hr⟩
theorem held_rv (I : L3 H A n₀ hl lk hs xs) : ∀ x ∈ hs.map fun h => AV.ref h.t, Rv H 3 x := fun x hx => by
  obtain ⟨h, hh, rfl⟩ := List.mem_map.mp hx
  have D := I.hd h hh
  have i0 : ∀ n i, Rv H n (.int i) := fun n i => by cases n with
    | zero => exact .inr ⟨i, rfl⟩
    | succ n => exact .inl (.inr ⟨i, rfl⟩)
  refine .inr ⟨_, _, rfl, .inl D.1, fun y hy => ?_⟩
  simp at hy
  rcases hy with rfl | rfl
  · exact i0 _ _
  · refine .inr ⟨_, _, rfl, .inl D.2.t, fun y hy => ?_⟩
    simp at hy
    rcases hy with rfl | rfl | rfl
    · exact i0 _ _
    · exact i0 _ _
    · refine .inr ⟨_, _, rfl, .inr D.2.o, fun y hy => ?_⟩
      obtain ⟨i, _, rfl⟩ := List.mem_map.mp hy
      exact i0 _ _
theorem sec4 {n : Nat} (fn : Fn (KK P) (n + 8) (fnScope (stAt 43)) (lawCl n₀) c) (I : L3 H A n₀ hl lk hs xs) (S : Sc0 hs xs M lim e) (hp : HpAt H A lim f M (fl e (lim - e))) (hr : Off hl lk n₀ hs H r) (hrf : r ≠ f) (cp : H (n₀ + 2) = some (.cell none)) (hP : H 324 = some (.pred (· = tabObj #[]))) (row : ∃ ms : List Int, ms.length ≤ 160 ∧ H r = some (.list (ms.map .int)))
    (q : ∀ H' sa wa ss ws, L4 H' A n₀ r hl lk sa wa f lim hs xs e M ss ws → W4 hs lim ss ws → ss.length ≤ 5 → ws.length ≤ 5 → Exs w c (LB 11) [("limit", .int lim), ("area", .ref A.h), ("links", .ref lk), ("starts", .ref sa), ("words", .ref wa)] H' N R) :
    Exs w c (LB 8) [("row", .ref r), ("limit", .int lim), ("area", .ref A.h), ("links", .ref lk)] H N R := by
  have hn := fn.names (ls := [("row", .local), ("lap", .local), ("starts", .local), ("words", .local), ("range", .globalImplicit), ("_law_next", .globalImplicit)]) (by decide +kernel)
  have ok := fn.ok
  have hc := fn.comp
  refine Exs.cons (Ex.set ok hn hc (by rfl) (Ev.list ⟨by simp, fun sa hsa => ?_⟩))
  refine Exs.cons (Ex.set ok hn hc (by rfl) (Ev.list ⟨by simp, fun wa hwa => ?_⟩))
  have I4 : L4 ((H.set sa (.list [])).set wa (.list [])) A n₀ r hl lk sa wa f lim hs xs e M [] [] := by
    have k : Keep [] H ((H.set sa (.list [])).set wa (.list [])) := (Keep.new hsa).trans (Keep.new hwa)
    have sw : sa ≠ wa := fun e => by rw [← e, AH.set_self] at hwa; cases hwa
    have hwa : H wa = none := by rw [AH.set_ne sw.symm] at hwa; exact hwa
    have nn : ∀ a, H a = none → ∀ b o, H b = some o → a ≠ b := fun a ha b o hb e => by rw [e, hb] at ha; cases ha
    obtain ⟨ms, hm, hr1⟩ := row
    obtain ⟨_, _, _, h, q⟩ := hr
    rw [hr1] at h; cases h
    have fr : ∀ a, H a = none → a ≠ f ∧ a ≠ hl ∧ a ≠ lk ∧ ∀ h ∈ hs, a ≠ h.k.oa := fun a ha => ⟨nn a ha _ _ hp.f, nn a ha _ _ I.held, nn a ha _ _ I.lks, fun h hh => nn a ha _ _ (I.hd h hh).2.o⟩
    refine ⟨I.keep k (by simp), hp.mono k, k.get (by simp) cp, k.get (by simp) hP, ⟨ms, hm, k.get (by simp) hr1⟩, by rw [AH.set_ne sw, AH.set_self]; rfl, AH.set_self .., fun a ha => ?_, (nn sa hsa _ _ hr1).symm, (nn wa hwa _ _ hr1).symm, sw⟩
    simp at ha
    rcases ha with rfl | rfl | rfl
    · exact ⟨hrf, q⟩
    · exact fr _ hsa
    · exact fr _ hwa
  clear I hp hr cp hP row hsa hwa hrf
  generalize (H.set sa (.list [])).set wa (.list []) = H0 at I4 ⊢
  refine Exs.weaken [("row", .ref r), ("limit", .int lim), ("area", .ref A.h), ("links", .ref lk), ("starts", .ref sa), ("words", .ref wa)] H0 (by rfl) (fun _ _ e => e) ?_
  refine Exs.cons (Ex.for_ fn (Ev.range1 (by exact Bi.of ‹_› (globOk _) ‹_› (by rfl) (by rfl)) ?_))
  refine Ev.bin (Ev.callf ok (globOk _) hn (by rfl) (by rfl) (d_next P).keep ?_)
  refine Ev.loc ‹_› ‹_› (by rfl) (by rfl) ?_
  obtain ⟨ms, hms, hr⟩ := I4.row
  refine k_next hr hms fun H1 v ms1 hl1 hr1 k1 => Ev.int ⟨by decide, v % 6, rfl, fun rg hrg => ?_⟩
  have I4 := I4.next k1 ⟨ms1, hl1, hr1⟩
  have hv : 0 ≤ v % 6 ∧ v % 6 ≤ 5 := by lia
  generalize v % 6 = v at hv hrg ⊢
  clear k1 hr hms hr1 hl1
  refine ⟨.range 0 1 (v - 0).toNat, fun i l' H' => l' = [("row", .ref r), ("limit", .int lim), ("area", .ref A.h), ("links", .ref lk), ("starts", .ref sa), ("words", .ref wa)] ∧ ∃ ss ws, L4 H' A n₀ r hl lk sa wa f lim hs xs e M ss ws ∧ W4 hs lim ss ws ∧ ss.length ≤ i ∧ ws.length ≤ i, from_1 (AH.set_self ..) (by lia) (by lia) (by lia),
    ⟨rfl, [], [], I4.new (Keep.new hrg), ⟨(fun _ h => nomatch h), fun _ h => nomatch h⟩, Nat.le_refl _, Nat.le_refl _⟩, fun _ _ _ _ => trivial, ?_, ?_⟩
  rotate_left
  · rintro l H2 ⟨rfl, ss, ws, I4, W, l1, l2⟩
    have : (Src.range 0 1 (v - 0).toNat).len = (v - 0).toNat := rfl
    exact Exs.weaken _ H2 (by rfl) (fun _ _ e => e) (q H2 sa wa ss ws I4 W (by lia) (by lia))
  clear I4 hn ok hc hrg
  rintro c NN fn i u l H2 hi hu hN ⟨rfl, ss, ws, I, W, l1, l2⟩
  have hi : i < (v - 0).toNat := hi
  have hn := fn.names (ls := [("row", .local), ("limit", .local), ("starts", .local), ("words", .local), ("lap", .local), ("draw", .local), ("one", .local), ("held", .cell), ("len", .globalImplicit), ("_law_next", .globalImplicit), ("_law_wide", .globalImplicit)]) (by decide +kernel)
  have ok := fn.ok
  have hc := fn.comp
  have hh : c.env.cells.lookup (Str.ofString "held") = some (n₀ + 1) := by rw [fn.cells]; rfl
  refine Asg.name ok hc hn (by rfl) ?_
  refine Exs.cons (Ex.set ok hn hc (by rfl) (Ev.bin (Ev.callf ok (globOk _) hn (by rfl) (by rfl) (d_next P).keep ?_)))
  refine Ev.loc ‹_› ‹_› (by rfl) (by rfl) ?_
  obtain ⟨ms, hms, hr⟩ := I.row
  refine k_next hr hms fun H3 d ms3 hl3 hr3 k3 => Ev.int ⟨by decide, ?_⟩
  have I := I.next k3 ⟨ms3, hl3, hr3⟩
  have hd : 0 ≤ d % 4 ∧ d % 4 ≤ 3 := by lia
  refine (?_ : Exs _ _ _ (Loc.put _ (.int (d % 4)) _) _ _ _)
  generalize d % 4 = d at hd ⊢
  clear k3 hr hms hr3 hl3
  refine Exs.cons (Ex.ifs (Tr.mono (Q := fun b H' => (b = true → hs ≠ []) ∧ L4 H' A n₀ r hl lk sa wa f lim hs xs e M ss ws) (Tr.and (Tr.cmp ?_)) fun b H4 ⟨hb, I⟩ => ⟨fun e => ?_, fun _ => ?_⟩))
  · refine Ev.loc ‹_› ‹_› (by rfl) (by rfl) ?_
    refine Ev.int ⟨fun _ => ⟨(nomatch ·), I⟩, fun _ => Tr.and (Tr.cmpS (Ev.cellv ok hn (by rfl) hh I.l3.ch (Ev.list ⟨by simp, fun u hu => ?_⟩)))⟩
    have k : Keep [] H3 (H3.set u (.list [])) := Keep.new hu
    have I' := I.new k
    exact CmpS.nenil ok (n := 3) (by decide) I'.l3.held (held_rv I'.l3) (AH.set_self ..) ⟨fun _ => ⟨(nomatch ·), I'⟩, fun h => Tr.and_nil ⟨fun _ e => (by rw [e] at h; cases h), I'⟩⟩
  · have hne := hb e
    have hpos : 0 < hs.length := List.length_pos_iff.mpr hne
    refine Exs.cons (Ex.set ok hn hc (by rfl) (Ev.bin (Ev.callf ok (globOk _) hn (by rfl) (by rfl) (d_next P).keep ?_)))
    refine Ev.loc ‹_› ‹_› (by rfl) (by rfl) ?_
    obtain ⟨ms, hms, hr⟩ := I.row
    refine k_next hr hms fun H5 o ms5 hl5 hr5 k5 => Ev.len (by exact Bi.of ‹_› (globOk _) ‹_› (by rfl) (by rfl)) ?_
    have I := I.next k5 ⟨ms5, hl5, hr5⟩
    clear k5 hr hms hr5 hl5
    refine Ev.cellv ok hn (by rfl) hh I.l3.ch ⟨hl, _, rfl, I.l3.held, by rw [List.length_map]; have := S.n10; lia, ?_⟩
    rw [List.length_map]
    refine ⟨by lia, ?_⟩
    have ho : 0 ≤ o % (hs.length : Int) ∧ o % (hs.length : Int) < hs.length := ⟨Int.emod_nonneg _ (by lia), Int.emod_lt_of_pos _ (by omega)⟩
    refine (?_ : Exs _ _ _ (Loc.put _ (.int (o % (hs.length : Int))) _) _ _ _)
    generalize o % (hs.length : Int) = o at ho ⊢
    have hjl : o.toNat < hs.length := by lia
    have hjk := List.getElem?_eq_getElem hjl
    generalize hs[o.toNat] = h at hjk
    have hm := List.mem_of_getElem? hjk
    have hz := bs_rng (S.kd h hm).z
    refine Exs.cons (Ex.expr (Ev.append ?_) (inter ok))
    refine Ev.loc ‹_› ‹_› (by rfl) (by rfl) ?_
    refine ⟨sa, _, rfl, I.st, ?_⟩
    refine Ev.loc ‹_› ‹_› (by rfl) (by rfl) ?_
    refine ⟨_, I.st, by rw [List.length_map]; lia, trivial, ?_⟩
    have I := I.step (ss' := ss ++ [o]) (ws' := ws) (H' := H5.set sa (.list ((ss.map AV.int) ++ [.int o]))) (Keep.set (by simp)) (by obtain ⟨ms, hm, hr⟩ := I.row; exact ⟨ms, hm, by rw [AH.set_ne I.nd.1]; exact hr⟩) (by rw [AH.set_self, List.map_append]; rfl) (by rw [AH.set_ne I.nd.2.2.symm]; exact I.wt)
    generalize H5.set sa (.list ((ss.map AV.int) ++ [.int o])) = H6 at I ⊢
    have it : ∀ {H : AH}, L3 H A n₀ hl lk hs xs → Item H (.ref hl) (.int o) (.ref h.t) := fun I => .list I.held ho.1 (by rw [List.getElem?_map, hjk]; rfl) (by have := S.n10; lia)
    refine Exs.cons (Ex.expr (Ev.append ?_) (inter ok))
    refine Ev.loc ‹_› ‹_› (by rfl) (by rfl) ?_
    refine ⟨wa, _, rfl, I.wt, Ev.bin (Ev.item (Ev.item (Ev.cellv ok hn (by rfl) hh I.l3.ch ?_)))⟩
    refine Ev.loc ‹_› ‹_› (by rfl) (by rfl) ?_
    refine ⟨.ref h.t, it I.l3, Ev.int ⟨.int h.a, .tuple (I.l3.hd h hm).1 (by decide) rfl (by decide), Ev.bin (Ev.callf ok (globOk _) hn (by rfl) (by rfl) (d_next P).keep ?_)⟩⟩
    refine Ev.loc ‹_› ‹_› (by rfl) (by rfl) ?_
    obtain ⟨ms, hms, hr⟩ := I.row
    refine k_next hr hms fun H7 y ms7 hl7 hr7 k7 => Ev.bin (Ev.callg ok ?_)
    have I := I.next k7 ⟨ms7, hl7, hr7⟩
    clear k7 hr hms hr7 hl7
    refine Ev.gr ‹_› (globOk _) ‹_› (by rfl) (by rfl) ?_
    refine ⟨308, rfl, (d_wide P).keep, Ev.item (Ev.item (Ev.cellv ok hn (by rfl) hh I.l3.ch ?_))⟩
    refine Ev.loc ‹_› ‹_› (by rfl) (by rfl) ?_
    refine ⟨.ref h.t, it I.l3, Ev.int ⟨.ref h.k.t, .tuple (I.l3.hd h hm).1 (by decide) rfl (by decide), k_wide (I.l3.hd h hm).2.t (S.kd h hm).z.1 (Ev.int ⟨by lia, ?_⟩)⟩⟩
    have hy : 0 ≤ y % (bs h.k.z - 8) ∧ y % (bs h.k.z - 8) < bs h.k.z - 8 := ⟨Int.emod_nonneg _ (by lia), Int.emod_lt_of_pos _ (by omega)⟩
    refine ⟨_, I.wt, by rw [List.length_map]; lia, trivial, ?_⟩
    refine (?_ : Exs _ _ _ _ (AH.set _ _ (.list (_ ++ [.int (h.a + y % (bs h.k.z - 8))]))) _ _)
    generalize y % (bs h.k.z - 8) = y at hy ⊢
    refine Exs.nil (Exs.nil (hN _ (by rfl) ⟨rfl, ss ++ [o], ws ++ [h.a + y], I.step (Keep.set (by simp)) (by obtain ⟨ms, hm, hr⟩ := I.row; exact ⟨ms, hm, by rw [AH.set_ne I.nd.2.1]; exact hr⟩) (by rw [AH.set_ne I.nd.2.2]; exact I.st) (by rw [AH.set_self, List.map_append]; rfl), W.root ho.1 hjk (by lia) (by lia), by simp; exact l1, by simp; exact l2⟩))
  · refine Exs.cons (Ex.expr (Ev.append ?_) (inter ok))
    refine Ev.loc ‹_› ‹_› (by rfl) (by rfl) ?_
    refine ⟨wa, _, rfl, I.wt, Ev.item (Ev.list ?_)⟩
    refine (?_ : Ev _ _ _ _ _ _)
    refine Ev.int (?_ : Ev _ _ _ _ _ _)
    refine Ev.int (?_ : Ev _ _ _ _ _ _)
    refine Ev.loc ‹_› ‹_› (by rfl) (by rfl) ?_
    refine (?_ : Ev _ _ _ _ _ _)
    refine Ev.int ⟨by simp, fun u hu => ?_⟩
    have k : Keep [] H4 (H4.set u (.list [.int 0, .int 64, .int lim, .int 4095])) := Keep.new hu
    have I := I.new k
    have hu := AH.set_self (H := H4) u (.list [.int 0, .int 64, .int lim, .int 4095])
    generalize H4.set u (.list [.int 0, .int 64, .int lim, .int 4095]) = H5 at I hu ⊢
    refine Ev.loc ‹_› ‹_› (by rfl) (by rfl) ?_
    have lm := S.lm
    obtain ⟨x, hx, hx'⟩ : ∃ x : Int, ([.int 0, .int 64, .int lim, .int 4095] : List AV)[d.toNat]? = some (.int x) ∧ (x < 1024 ∨ lim ≤ x) := by
      rcases (by lia : d = 0 ∨ d = 1 ∨ d = 2 ∨ d = 3) with rfl | rfl | rfl | rfl
      · exact ⟨0, rfl, by lia⟩
      · exact ⟨64, rfl, by lia⟩
      · exact ⟨lim, rfl, by lia⟩
      · exact ⟨4095, rfl, by lia⟩
    refine ⟨.int x, .list hu hd.1 hx (by lia), _, I.wt, by rw [List.length_map]; lia, trivial, Exs.nil (Exs.nil (hN _ (by rfl) ⟨rfl, ss, ws ++ [x], I.step (Keep.set (by simp)) (by obtain ⟨ms, hm, hr⟩ := I.row; exact ⟨ms, hm, by rw [AH.set_ne I.nd.2.1]; exact hr⟩) (by rw [AH.set_ne I.nd.2.2]; exact I.st) (by rw [AH.set_self, List.map_append]; rfl), W.plain hx', by lia, by simp; exact l2⟩))⟩
end


section
variable {P : Params} {w : World} {c : Cx} {l l' : Loc} {H H' H₀ : AH} {s s' : Shared} {lvl n : Nat} {Q : AV → AH → Prop} {A : Ad} {M M' : Int → Int} {F : List Int} {f r hl lk sa wa kr n₀ : Addr} {lim e e' : Int} {kds : List KD} {hs hs' : List HD} {xs : List LK} {ss ws ss' ws' : List Int} {N : Loc → AH → Prop} {R : AV → AH → Prop}
/-- a record's words -/
noncomputable def bw (M : Int → Int) (h : HD) : List Int := (List.range (h.k.z / 4).toNat).map fun (j : Nat) => rd M (h.a + 4 * j)
theorem bw_get {h : HD} {j : Nat} (hj : j < (h.k.z / 4).toNat) : (bw M h)[j]? = some (rd M (h.a + 4 * j)) := by
  unfold bw
  rw [List.getElem?_map, List.getElem?_range hj]; rfl
/-- the lists of the records' words -/
noncomputable def Bf (H : AH) (M : Int → Int) (hs : List HD) (bs : List Addr) : Prop := ∀ (j : Nat) h b, hs[j]? = some h → bs[j]? = some b → H b = some (.list ((bw M h).map .int))
theorem L3.new (I : L3 H A n₀ hl lk hs xs) (k : Keep [] H H') : L3 H' A n₀ hl lk hs xs := I.keep k (by simp)
theorem sec5 {n : Nat} (fn : Fn (KK P) (n + 8) (fnScope (stAt 43)) (lawCl n₀) c) (S : Sc0 hs xs M lim e) (I : L3 H A n₀ hl lk hs xs) (hp : HpAt H A lim f M F)
    (q : ∀ H' ba bs, Keep [] H H' → H' ba = some (.list (bs.map .ref)) → bs.length = hs.length → Bf H' M hs bs → Exs w c (LB 12) [("limit", .int lim), ("area", .ref A.h), ("links", .ref lk), ("starts", .ref sa), ("words", .ref wa), ("before", .ref ba)] H' N R) :
    Exs w c (LB 11) [("limit", .int lim), ("area", .ref A.h), ("links", .ref lk), ("starts", .ref sa), ("words", .ref wa)] H N R := by
  have hn := fn.names (ls := [("before", .local), ("held", .cell)]) (by decide +kernel)
  have ok := fn.ok
  have hc := fn.comp
  have hh : c.env.cells.lookup (Str.ofString "held") = some (n₀ + 1) := by rw [fn.cells]; rfl
  refine Exs.cons (Ex.comp (cl := [(Str.ofString "memory", n₀)]) fn hn (by rfl) ?hsw rfl ?hnames ?hclos ?_)
  case hsw =>
    unfold swapsWith Env.blockKind Env.kindOf
    rw [fn.scope]
    kernel_rfl
  case hnames => decide +kernel
  case hclos =>
    unfold closureFor cellOf
    rw [fn.cells]
    kernel_rfl
  refine Ev.cellv ok hn (by rfl) hh I.ch ?_
  have n10 := S.n10
  refine ⟨.list hl (hs.map fun h => .ref h.t), fun n i H' ys => H n = none ∧ Keep [] H H' ∧ (∃ v, H' n = some (.cell v)) ∧ ∃ bs : List Addr, ys = bs.map .ref ∧ bs.length = i ∧ Bf H' M hs bs, ⟨rfl, I.held, by rw [List.length_map]; lia⟩, by show (hs.map fun h => AV.ref h.t).length ≤ 900; rw [List.length_map]; omega,
    fun n hn => ⟨hn n (Nat.le_refl _), Keep.new (hn n (Nat.le_refl _)), ⟨none, AH.set_self ..⟩, [], rfl, rfl, fun j h b _ hb => by simp at hb⟩, ?_, ?_, ?_⟩
  · rintro n i H' ys ⟨_, k, _, bs, rfl, rfl, _⟩
    exact ⟨k.get (by simp) I.held, by rw [List.length_map]; lia⟩
  rotate_left
  · rintro n H1 ys D ⟨_, k, _, bs, rfl, hb, B⟩ hD
    have k1 : Keep [] H1 (H1.set D (.list (bs.map .ref))) := Keep.new hD
    refine Exs.weaken _ _ ?_ (fun _ _ e => e) (q _ D bs (k.trans k1) (AH.set_self ..) (hb.trans (List.length_map _)) fun j h b hj hbj => k1.get (by simp) (B j h b hj hbj))
    rfl
  rintro n' c1 fn1 i v H1 ys hi hv ⟨hn0, k, ⟨v₀, hcell⟩, bs, rfl, rfl, B⟩
  obtain ⟨h, hi', rfl⟩ : ∃ h, hs[bs.length]? = some h ∧ v = .ref h.t := by
    have hv : (hs.map fun h => AV.ref h.t)[bs.length]? = some v := hv
    rw [List.getElem?_map] at hv
    cases e : hs[bs.length]? with
    | none => rw [e] at hv; cases hv
    | some x => rw [e] at hv; cases hv; exact ⟨x, rfl, rfl⟩
  have hm := List.mem_of_getElem? hi'
  have I1 := I.new k
  have D := I1.hd h hm
  have hn1 := fn1.names (ls := [("where", .cell), ("kind", .local), ("range", .globalImplicit), ("memory", .cell)]) (by
    unfold relabel Env.kindOf
    rw [fn.scope]
    decide +kernel)
  have ok1 := fn1.ok
  have hw1 : c1.env.cells.lookup (Str.ofString "where") = some n' := by rw [fn1.cells]; rfl
  have hm1 : c1.env.cells.lookup (Str.ofString "memory") = some n₀ := by rw [fn1.cells]; rfl
  refine Asg.tup ok1 D.1 rfl rfl (Asg.cell ok1 hn1 (by rfl) hw1 hcell ?_)
  have k2 : Keep [] H (H1.set n' (.cell (some (.int h.a)))) := k.own hn0
  have hw2 : (H1.set n' (.cell (some (.int h.a)))) n' = some (.cell (some (.int h.a))) := AH.set_self ..
  have B2 : Bf (H1.set n' (.cell (some (.int h.a)))) M hs bs := fun j x b hj hb => by
    have := B j x b hj hb
    rw [AH.set_ne (fun e => by rw [e, hcell] at this; cases this)]; exact this
  generalize H1.set n' (.cell (some (.int h.a))) = H2 at k2 hw2 B2 ⊢
  clear k hcell B I1 D
  have I2 := I.new k2
  have D := I2.hd h hm
  refine Asg.cname fn1 hn1 (by rfl) ⟨(nomatch ·), fun _ => ?_⟩
  refine Ev.comp (cl := [(Str.ofString "where", n'), (Str.ofString "memory", n₀)]) ok1 (fun D mF e => by obtain ⟨D', mF', e', r⟩ := fn1.comp; rw [e] at e'; cases e'; exact r) rfl ?hnames2 ?hclos2 ?_ (by intro _; rfl)
  case hnames2 => decide +kernel
  case hclos2 =>
    unfold closureFor cellOf
    rw [fn1.cells]
    kernel_rfl
  refine Ev.range3 (by exact Bi.of ‹_› (globOk _) ‹_› (by rfl) (by rfl)) ?_
  refine Ev.int ⟨0, rfl, Ev.item ?_⟩
  refine Ev.loc ‹_› ‹_› (by rfl) (by rfl) ?_
  refine Ev.int ⟨.int h.k.z, .tuple D.2.t (by decide) rfl (by decide), _, rfl, Ev.int ⟨rfl, fun rg hrg => ?_⟩⟩
  have kz := (S.kd h hm).z
  have hz := bs_rng kz
  have ez : (0 : Int) + 4 * ((h.k.z / 4).toNat : Int) = h.k.z := by lia
  refine ⟨.range 0 4 (h.k.z / 4).toNat, fun _ j H' ys => Keep [] H2 H' ∧ ys = ((List.range j).map fun (j : Nat) => rd M (h.a + 4 * j)).map .int, from_4 (by rw [AH.set_self, ez]) (by lia) (by lia) (by lia), by show (h.k.z / 4).toNat ≤ 900; lia, fun n hn => ⟨Keep.new hrg, rfl⟩, ?_, ?_, ?_⟩
  · rintro _ j H' ys ⟨_, rfl⟩
    exact ⟨trivial, by simp⟩
  rotate_left
  · rintro _ H3 ys D' ⟨k3, rfl⟩ hD
    have k4 : Keep [] H3 (H3.set D' (.list ((bw M h).map .int))) := Keep.new hD
    have k5 := k3.trans k4
    refine ⟨hn0, k2.trans k5, ⟨_, k5.get (by simp) hw2⟩, bs ++ [D'], by simp, by simp, fun j x b hj hb => ?_⟩
    rcases Nat.lt_or_ge j bs.length with hl | hl
    · rw [List.getElem?_append_left hl] at hb
      exact k5.get (by simp) (B2 j x b hj hb)
    · have e : j = bs.length := by
        have := (List.getElem?_eq_some_iff.mp hb).1
        simp at this; lia
      subst e
      rw [List.getElem?_append_right (Nat.le_refl _), Nat.sub_self] at hb
      cases hb
      rw [hi'] at hj; cases hj
      exact AH.set_self ..
  rintro _ c2 fn2 j v H3 ys hj hv ⟨k3, rfl⟩
  have hj : j < (h.k.z / 4).toNat := hj
  have hn2 := fn2.names (ls := [("spot", .local), ("where", .cell), ("memory", .cell)]) (by
    unfold relabel Env.kindOf
    rw [fn1.scope]
    unfold relabel Env.kindOf
    rw [fn.scope]
    decide +kernel)
  have ok2 := fn2.ok
  have hw3 : c2.env.cells.lookup (Str.ofString "where") = some n' := by rw [fn2.cells]; rfl
  have hm3 : c2.env.cells.lookup (Str.ofString "memory") = some n₀ := by rw [fn2.cells]; rfl
  have I3 := I2.new k3
  have g := S.lay.get S.kd (by decide) h hm
  have le := S.le
  have lm := S.lm
  cases hv
  refine Asg.cname fn2 hn2 (by rfl) ⟨(nomatch ·), fun _ => Ev.rd ok2 (Ev.cellv ok2 hn2 (by rfl) hm3 I3.cm ⟨A, M, rfl, hp.mem.mono (k2.trans k3), Ev.bin (Ev.cellv ok2 hn2 (by rfl) hw3 (k3.get (by simp) hw2) ?_)⟩)⟩
  refine Ev.loc ‹_› ‹_› (by rfl) (by rfl) ?_
  refine ⟨_, M, rfl, hp.mem.mono (k2.trans k3), by (clear fn S I hp q hn ok hc hh n10 fn1 hn0 hi hi' hv hm hn1 ok1 hw1 hm1 k2 hw2 B2 I2 D hrg kz fn2 k3 hn2 ok2 hw3 hm3 I3; lia), k3, ?_⟩
  rw [List.range_succ, List.map_append, List.map_append, show (0 : Int) + (j : Int) * 4 = 4 * j by lia]
  rfl
end


section
variable {P : Params} {w : World} {c : Cx} {l l' : Loc} {H H' H₀ : AH} {s s' : Shared} {lvl n : Nat} {Q : AV → AH → Prop} {A : Ad} {M M' : Int → Int} {F : List Int} {f r hl lk sa wa ba sy pa kr n₀ : Addr} {bs' : List Addr} {lim e e' t : Int} {kds : List KD} {hs hs' K : List HD} {xs : List LK} {ss ws st ss' ws' : List Int} {ps : Array Value} {m : Nat} {N : Loc → AH → Prop} {R : AV → AH → Prop}
theorem Sc0.linkOk (S : Sc0 hs xs M lim e) : ∀ x ∈ xs, LkOk xs.length x := fun x hx => by
  obtain ⟨j, hj⟩ := List.getElem?_of_mem hx
  have hjl := (List.getElem?_eq_some_iff.mp hj).1
  have hjh : j < hs.length := by rw [← S.len]; exact hjl
  have hh := List.getElem?_eq_getElem hjh
  generalize hs[j]'hjh = h at hh
  have L := S.lk j h x hh hj
  have k := S.kd h (List.mem_of_getElem? hh)
  refine ⟨L.nd, ?_, fun p hp i hi => ?_⟩
  · have := keys_le 64 (x.kv.map (·.1)) L.nd fun o ho => by
      have := k.os.mem o ((L.key o).mp ho); have := k.z; (clear S hx hj hjl hjh hh L k ho; omega)
    have := keys_le 20 (x.kv.map (·.1)) L.nd fun o ho => by
      have := k.os.mem o ((L.key o).mp ho); have := k.z; (clear S hx hj hjl hjh hh L k ho; omega)
    rw [List.length_map] at this; lia
  · rcases L.ptr p hp with ⟨q, _⟩ | ⟨d, h', q, d0, d1, _⟩
    · rw [hi] at q; cases q
    · rw [hi] at q; cases q; have := S.len; (clear S hx hj hjl hjh hh L k hp hi; omega)
theorem Sc0.scene (S : Sc0 hs xs M lim e) (W : W4 hs lim ss ws) (srt : st.Pairwise (· < ·)) (cl : ClI xs ss st) (has : ∀ s ∈ ss, s ∈ st) (clo : ∀ i ∈ st, ∀ j, Nx xs i j → j ∈ st) : Scene hs xs M lim e ss ws st :=
  ⟨S.lay, S.kd, S.le, ⟨by have := S.lm; lia, by have := S.lm; lia, S.lm.2.2⟩, S.rng, S.mem, S.len, by have := S.n10; lia, S.lk, W.wd, W.sw, srt, cl, has, clo⟩
/-- what stands from here on -/
structure L5 (H : AH) (A : Ad) (n hl lk wa ba sy : Addr) (hs : List HD) (xs : List LK) (bs : List Addr) (M : Int → Int) (ws st : List Int) : Prop where
  l3 : L3 H A n hl lk hs xs
  wt : H wa = some (.list (ws.map .int))
  bt : H ba = some (.list (bs.map .ref))
  bl : bs.length = hs.length
  bf : Bf H M hs bs
  sy : H sy = some (.list (st.map .int))
noncomputable def AO.hard : AO → Prop
  | .list _ => False
  | .tuple _ => False
  | .idict _ => False
  | _ => True
theorem L5.keep {S : List Addr} (I : L5 H A n₀ hl lk wa ba sy hs xs bs' M ws st) (k : Keep S H H') (hS : ∀ a ∈ S, a ≠ n₀ ∧ a ≠ n₀ + 1 ∧ ∃ o, H a = some o ∧ o.hard) : L5 H' A n₀ hl lk wa ba sy hs xs bs' M ws st := by
  have nl : ∀ a ys, H a = some (.list ys) → a ∉ S := fun a ys ha hm => by
    obtain ⟨_, _, o, ho, q⟩ := hS a hm
    rw [ha] at ho; cases ho; exact q
  refine ⟨I.l3.keep k fun a ha => ?_, k.get (nl _ _ I.wt) I.wt, k.get (nl _ _ I.bt) I.bt, I.bl, fun j h b hj hb => k.get (nl _ _ (I.bf j h b hj hb)) (I.bf j h b hj hb), k.get (nl _ _ I.sy) I.sy⟩
  obtain ⟨a1, a2, o, ho, q⟩ := hS a ha
  refine ⟨a1, a2, o, ho, ?_⟩
  cases o <;> first | trivial | exact q.elim
theorem sec6 {n : Nat} (fn : Fn (KK P) (n + 8) (fnScope (stAt 43)) (lawCl n₀) c) (S : Sc0 hs xs M lim e) (W : W4 hs lim ss ws) (hss : ss.length ≤ 5) (I : L3 H A n₀ hl lk hs xs) (hsa : H sa = some (.list (ss.map .int))) (hwa : H wa = some (.list (ws.map .int))) (hba : H ba = some (.list (bs'.map .ref))) (hbl : bs'.length = hs.length) (B : Bf H M hs bs')
    (q : ∀ H' sy st, Keep [] H H' → L5 H' A n₀ hl lk wa ba sy hs xs bs' M ws st → Scene hs xs M lim e ss ws st → Exs w c (LB 13) [("limit", .int lim), ("area", .ref A.h), ("links", .ref lk), ("words", .ref wa), ("before", .ref ba), ("stay", .ref sy)] H' N R) :
    Exs w c (LB 12) [("limit", .int lim), ("area", .ref A.h), ("links", .ref lk), ("starts", .ref sa), ("words", .ref wa), ("before", .ref ba)] H N R := by
  have hn := fn.names (ls := [("links", .local), ("starts", .local), ("stay", .local), ("_law_closure", .globalImplicit)]) (by decide +kernel)
  have ok := fn.ok
  have hc := fn.comp
  have n10 := S.n10
  have len := S.len
  refine Exs.cons (Ex.set ok hn hc (by rfl) (Ev.callf ok (globOk _) hn (by rfl) (by rfl) (d_closure P).keep ?_))
  refine Ev.loc ‹_› ‹_› (by rfl) (by rfl) ?_
  refine Ev.loc ‹_› ‹_› (by rfl) (by rfl) ?_
  refine k_closure I.lks (fun x hx => ⟨I.lx x hx, S.linkOk x hx⟩) (by lia) hsa (by lia) (fun s hs' => ?_) fun H1 sy st srt cl has clo hsy k1 hst => ?_
  · obtain ⟨s0, h, hh, _⟩ := W.sw s hs'
    have := (List.getElem?_eq_some_iff.mp hh).1
    lia
  · exact Exs.weaken _ H1 (by rfl) (fun _ _ e => e) (q H1 sy st k1 ⟨I.new k1, k1.get (by simp) hwa, k1.get (by simp) hba, hbl, fun j h b hj hb => k1.get (by simp) (B j h b hj hb), hst⟩ (S.scene W srt cl has clo))
/-- the places, the first m -/
noncomputable def plcs (K : List HD) (st : List Int) (m : Nat) : List (Int × Option Int) := (List.range m).map fun j => (st.getD j 0, some (tg K j + 8))
theorem plcs_keys : ∀ {m : Nat}, m ≤ st.length → (plcs K st m).map (·.1) = st.take m := fun {m} hm => by
  unfold plcs
  rw [List.map_map]
  refine List.ext_getElem? fun j => ?_
  rw [List.getElem?_map]
  by_cases hj : j < m
  · rw [List.getElem?_range hj, List.getElem?_take_of_lt hj, List.getElem?_eq_getElem (by lia)]
    show some (st.getD j 0) = _
    rw [List.getD_eq_getElem?_getD, List.getElem?_eq_getElem (show j < st.length by omega)]; rfl
  · rw [List.getElem?_eq_none (by rw [List.length_range]; lia), List.getElem?_eq_none (by rw [List.length_take]; lia)]; rfl
theorem plcs_succ : plcs K st (m + 1) = plcs K st m ++ [(st.getD m 0, some (tg K m + 8))] := by
  unfold plcs
  rw [List.range_succ, List.map_append]; rfl
theorem plcs_get {i : Int} (nd : st.Nodup) (hm : st[m]? = some i) : idGet ((plcs K st st.length).map fun p => (p.1, oInt p.2)) i = some (.int (tg K m + 8)) := by
  have hml := (List.getElem?_eq_some_iff.mp hm).1
  have := idGet_nodup (kv := plcs K st st.length) (k := i) (v := some (tg K m + 8)) (by rw [plcs_keys (Nat.le_refl _), List.take_length]; exact nd) (List.mem_map.mpr ⟨m, List.mem_range.mpr hml, by rw [List.getD_eq_getElem?_getD, hm]; rfl⟩)
  exact this
theorem tg_succ {h : HD} (hm : K[m]? = some h) : tg K (m + 1) = tg K m + bs h.k.z := by
  unfold tg
  rw [List.take_add_one, hm]
  show endT 1024 ((K.take m ++ [h]).map hb) = _
  rw [List.map_append]
  exact endT_snoc
theorem Scene.nd (S : Scene hs xs M lim e ss ws st) : st.Nodup := S.srt.imp fun h => by lia
theorem Scene.at_ (S : Scene hs xs M lim e ss ws st) {i : Int} (hm : st[m]? = some i) : ∃ h, 0 ≤ i ∧ i < hs.length ∧ hs[i.toNat]? = some h ∧ hs.getD i.toNat d0 = h ∧ (kp hs st)[m]? = some h := by
  have r := S.cl.rng i (List.mem_of_getElem? hm)
  have := S.len
  have hi := List.getElem?_eq_getElem (show i.toNat < hs.length by omega)
  exact ⟨_, r.1, by lia, hi, by rw [List.getD_eq_getElem?_getD, hi]; rfl, kp_get hm hi⟩
/-- sorting by the place held changes nothing -/
theorem Scene.sorted (S : Scene hs xs M lim e ss ws st) {key : Int → Int} (hk : ∀ i ∈ st, ∀ j ∈ st, i < j → key i < key j) {ns : List Int} (hp : ns.Perm st) (hs' : ns.Pairwise fun a b => key a ≤ key b) : ns = st := by
  refine List.Perm.eq_of_pairwise (le := fun a b => key a ≤ key b) (fun a b ha hb h1 h2 => ?_) hs' (S.srt.imp_of_mem fun {a b} ha hb h => by have := hk a ha b hb h; lia) hp
  have ha := (hp.mem_iff).mp ha
  rcases Int.lt_trichotomy a b with h | h | h
  · have := hk a ha b hb h; (clear S hk hp hs' hb h1 ha h; lia)
  · exact h
  · have := hk b hb a ha h; (clear S hk hp hs' hb h2 ha h; lia)
theorem sec7 {n : Nat} (fn : Fn (KK P) (n + 8) (fnScope (stAt 43)) (lawCl n₀) c) (hcode : c.env.code = .ref 326) (S : Scene hs xs M lim e ss ws st) (n10 : hs.length ≤ 10) (I : L5 H A n₀ hl lk wa ba sy hs xs bs' M ws st) (hp : HpAt H A lim f M F) (cp : H (n₀ + 2) = some (.cell none)) (hP : H 324 = some (.pred (· = tabObj #[])))
    (q : ∀ H' pa c', L5 H' A n₀ hl lk wa ba sy hs xs bs' M ws st → HpAt H' A lim f M F → H' (n₀ + 2) = some (.cell (some (.ref pa))) → H' 324 = some (.pred (· = tabObj (#[] ++ #[rawInt 325, rawInt 32, .ref c']))) → H' pa = some (.idict ((plcs (kp hs st) st st.length).map fun p => (p.1, oInt p.2))) →
      Exs w c (LB 16) [("limit", .int lim), ("area", .ref A.h), ("links", .ref lk), ("words", .ref wa), ("before", .ref ba), ("stay", .ref sy), ("top", .int (tg (kp hs st) st.length))] H' N R) :
    Exs w c (LB 13) [("limit", .int lim), ("area", .ref A.h), ("links", .ref lk), ("words", .ref wa), ("before", .ref ba), ("stay", .ref sy)] H N R := by
  have hn := fn.names (ls := [("places", .cell), ("top", .local), ("stay", .local), ("sorted", .globalImplicit)]) (by decide +kernel)
  have ok := fn.ok
  have hc := fn.comp
  have hpl : c.env.cells.lookup (Str.ofString "places") = some (n₀ + 2) := by rw [fn.cells]; rfl
  refine Exs.cons (Ex.assign_cell (v₀ := none) ok hn (by rfl) hpl (Ev.dict fun pa hpa => ⟨none, (Keep.new (S := []) hpa).get (by simp) cp, ?_⟩))
  have k1 : Keep [n₀ + 2, 324] H ((H.set pa (.idict [])).set (n₀ + 2) (.cell (some (.ref pa)))) := (Keep.new hpa).trans (Keep.set (.head _))
  have pn : pa ≠ n₀ + 2 := fun e => by rw [e, cp] at hpa; cases hpa
  have p3 : (324 : Addr) ≠ n₀ + 2 := fun e => by rw [e, cp] at hP; cases hP
  have p4 : pa ≠ 324 := fun e => by rw [e, hP] at hpa; cases hpa
  have c1 : ((H.set pa (.idict [])).set (n₀ + 2) (.cell (some (.ref pa)))) (n₀ + 2) = some (.cell (some (.ref pa))) := AH.set_self ..
  have pa1 : ((H.set pa (.idict [])).set (n₀ + 2) (.cell (some (.ref pa)))) pa = some (.idict []) := by rw [AH.set_ne pn, AH.set_self]
  have hP1 : ((H.set pa (.idict [])).set (n₀ + 2) (.cell (some (.ref pa)))) 324 = some (.pred (· = tabObj #[])) := by rw [AH.set_ne p3, AH.set_ne p4.symm]; exact hP
  have hS : ∀ a ∈ [n₀ + 2, 324], a ≠ n₀ ∧ a ≠ n₀ + 1 ∧ ∃ o, H a = some o ∧ o.hard := fun a ha => by
    simp at ha
    rcases ha with rfl | rfl
    · exact ⟨fun e => absurd e (Nat.ne_of_gt (Nat.lt_add_of_pos_right (by decide))), fun e => absurd e (Nat.succ_ne_self (n₀ + 1)), _, cp, trivial⟩
    · exact ⟨fun e => (by have := I.l3.cm; rw [← e, hP] at this; cases this), fun e => (by have := I.l3.ch; rw [← e, hP] at this; cases this), _, hP, trivial⟩
  have hS2 : ∀ a ∈ [n₀ + 2, 324], a ≠ f ∧ ∃ o, H a = some o ∧ o.soft := fun a ha => by
    simp at ha
    rcases ha with rfl | rfl
    · exact ⟨fun e => (by rw [e, hp.f] at cp; cases cp), _, cp, trivial⟩
    · exact ⟨fun e => (by rw [e, hp.f] at hP; cases hP), _, hP, trivial⟩
  generalize (H.set pa (.idict [])).set (n₀ + 2) (.cell (some (.ref pa))) = H1 at k1 c1 pa1 hP1 ⊢
  refine Exs.cons (Ex.set ok hn hc (by rfl) (Ev.int ?_))
  refine Exs.weaken [("limit", .int lim), ("area", .ref A.h), ("links", .ref lk), ("words", .ref wa), ("before", .ref ba), ("stay", .ref sy), ("top", .int 1024)] H1 (by rfl) (fun _ _ e => e) ?_
  have sl : st.length ≤ 10 := by have := S.cl.len; have := S.len; lia
  refine Exs.cons (Ex.for_ fn (Ev.sortkey (P := 324) (cd := 326) (ps := #[]) (x := Str.ofString "each") (clos := [(Str.ofString "held", n₀ + 1)]) ok hc hcode (by kernel_rfl) ?hcl rfl True.intro rfl ?hbind rfl rfl rfl rfl (by decide +kernel) (by exact Bi.of ‹_› (globOk _) ‹_› (by rfl) (by rfl)) ?_))
  case hcl =>
    unfold closureFor cellOf
    rw [fn.cells]
    kernel_rfl
  case hbind => intro V qual pm cdv ctv; kernel_rfl
  refine Ev.loc ‹_› ‹_› (by rfl) (by rfl) ?_
  have I1 := I.keep k1 hS
  refine ⟨sy, st, fun i => (hs.getD i.toNat d0).a, rfl, I1.sy, by lia, hP1, fun i hi A' env h m V hsc hcl hns hmv hV see => ?_, fun D c' ns hD hperm hpw => ?_⟩
  · obtain ⟨m', hm'⟩ := List.getElem?_of_mem hi
    obtain ⟨h', i0, i1, hh', hg, _⟩ := S.at_ hm'
    show Rd w A' env h _ (.int (hs.getD i.toNat d0).a)
    rw [hg]
    refine Rd.item (Rd.item (Rd.free (a := n₀ + 1) (v := .ref hl) (by rw [hsc]) ?_ (by rw [hcl]; rfl) I1.l3.ch see (by decide) (by decide)) (Rd.loc (by rw [hsc]) ?_ hns hmv hV (by decide)) (.list I1.l3.held i0 (by rw [List.getElem?_map, hh']; rfl) (by lia)) see (by intro _ _; with_unfolding_all rfl)) Rd.int (.tuple (I1.l3.hd h' (List.mem_of_getElem? hh')).1 (by decide) rfl (by decide)) see (by intro _ _; with_unfolding_all rfl)
    · unfold Env.kindOf; rw [hsc]; kernel_rfl
    · unfold Env.kindOf; rw [hsc]; kernel_rfl
  have ens : ns = st := S.sorted (fun i hi j hj hij => by
    obtain ⟨mi, hmi⟩ := List.getElem?_of_mem hi
    obtain ⟨mj, hmj⟩ := List.getElem?_of_mem hj
    obtain ⟨x, x0, _, hx, ex, _⟩ := S.at_ hmi
    obtain ⟨y, y0, _, hy, ey, _⟩ := S.at_ hmj
    show (hs.getD i.toNat d0).a < (hs.getD j.toNat d0).a
    rw [ex, ey]
    have := S.lay.lt S.kd (by decide) i.toNat j.toNat x y (by lia) hx hy
    have := bs_rng (S.kd x (List.mem_of_getElem? hx)).z
    have := (S.kd x (List.mem_of_getElem? hx)).z
    (clear fn hcode S n10 I hp cp hP q hn ok hc hpl hpa pn p3 p4 hS hS2 k1 c1 pa1 hP1 sl I1 hD hperm hpw hi hj hij hmi hmj x0 hx ex y0 hy ey this; lia)) hperm hpw
  subst ens
  have k2 : Keep [n₀ + 2, 324] H ((H1.set 324 (.pred (· = tabObj (#[] ++ #[rawInt 325, rawInt 32, .ref c'])))).set D (.list (ns.map .int))) := k1.trans ((Keep.set (by simp)).trans (Keep.new (by rw [AH.set_ne (fun e => by rw [e, hP1] at hD; cases hD)]; exact hD)))
  have dn : ∀ a o, H1 a = some o → a ≠ D := fun a o ha e => by rw [← e, ha] at hD; cases hD
  have c2 : ((H1.set 324 (.pred (· = tabObj (#[] ++ #[rawInt 325, rawInt 32, .ref c'])))).set D (.list (ns.map .int))) (n₀ + 2) = some (.cell (some (.ref pa))) := by rw [AH.set_ne (dn _ _ c1), AH.set_ne p3.symm]; exact c1
  have pa2 : ((H1.set 324 (.pred (· = tabObj (#[] ++ #[rawInt 325, rawInt 32, .ref c'])))).set D (.list (ns.map .int))) pa = some (.idict []) := by rw [AH.set_ne (dn _ _ pa1), AH.set_ne p4]; exact pa1
  have hP2 : ((H1.set 324 (.pred (· = tabObj (#[] ++ #[rawInt 325, rawInt 32, .ref c'])))).set D (.list (ns.map .int))) 324 = some (.pred (· = tabObj (#[] ++ #[rawInt 325, rawInt 32, .ref c']))) := by rw [AH.set_ne (dn _ _ hP1), AH.set_self]
  have hD2 : ((H1.set 324 (.pred (· = tabObj (#[] ++ #[rawInt 325, rawInt 32, .ref c'])))).set D (.list (ns.map .int))) D = some (.list (ns.map .int)) := AH.set_self ..
  have paD := (dn _ _ pa1).symm
  generalize (H1.set 324 (.pred (· = tabObj (#[] ++ #[rawInt 325, rawInt 32, .ref c'])))).set D (.list (ns.map .int)) = H2 at k2 c2 pa2 hP2 hD2 ⊢
  clear k1 c1 pa1 hP1 hD dn I1
  refine ⟨.list D (ns.map .int), fun m l' H' => l' = [("limit", .int lim), ("area", .ref A.h), ("links", .ref lk), ("words", .ref wa), ("before", .ref ba), ("stay", .ref sy), ("top", .int (tg (kp hs ns) m))] ∧ Keep [n₀ + 2, 324] H H' ∧ H' (n₀ + 2) = some (.cell (some (.ref pa))) ∧ H' 324 = some (.pred (· = tabObj (#[] ++ #[rawInt 325, rawInt 32, .ref c']))) ∧ H' D = some (.list (ns.map .int)) ∧ H' pa = some (.idict ((plcs (kp hs ns) ns m).map fun p => (p.1, oInt p.2))),
    ⟨rfl, hD2, by rw [List.length_map]; lia⟩, ⟨rfl, k2, c2, hP2, hD2, pa2⟩, fun m l H h => h.2.2.2.2.1, ?_, ?_⟩
  rotate_left
  · rintro l H3 ⟨rfl, k3, c3, hP3, hD3, pa3⟩
    have el : (Src.list D (ns.map AV.int)).len = ns.length := List.length_map _
    rw [el] at pa3 ⊢
    exact q H3 pa c' (I.keep k3 hS) (hp.soft k3 hS2) c3 hP3 pa3
  clear k2 c2 pa2 hP2 hD2 hn ok hc hpl
  rintro c1 NN fn m v l H3 hm hv hN ⟨rfl, k3, c3, hP3, hD3, pa3⟩
  have hn := fn.names (ls := [("one", .local), ("top", .local), ("places", .cell), ("held", .cell), ("_law_wide", .globalImplicit)]) (by decide +kernel)
  have ok := fn.ok
  have hc := fn.comp
  have hpl : c1.env.cells.lookup (Str.ofString "places") = some (n₀ + 2) := by rw [fn.cells]; rfl
  have hh : c1.env.cells.lookup (Str.ofString "held") = some (n₀ + 1) := by rw [fn.cells]; rfl
  obtain ⟨i, hi, rfl⟩ := map_ints hv
  have hml := (List.getElem?_eq_some_iff.mp hi).1
  obtain ⟨h, i0, i1, hh', _, hk⟩ := S.at_ hi
  refine Asg.name ok hc hn (by rfl) ?_
  refine Exs.cons (Ex.setdict (Ev.bin ?_))
  refine Ev.loc ‹_› ‹_› (by rfl) (by rfl) ?_
  refine Ev.int ?_
  refine (?_ : Ev _ _ _ _ _ _)
  refine Ev.cellv ok hn (by rfl) hpl c3 ⟨pa, rfl, ?_⟩
  refine Ev.loc ‹_› ‹_› (by rfl) (by rfl) ?_
  refine ⟨i, _, rfl, pa3, by rw [List.length_map]; unfold plcs; rw [List.length_map, List.length_range]; lia, ?_⟩
  have gi : ns.getD m 0 = i := by rw [List.getD_eq_getElem?_getD, hi]; rfl
  have e1 := idSet_new (kv := plcs (kp hs ns) ns m) (k := i) (v := some (tg (kp hs ns) m + 8)) (by
    rw [plcs_keys (by lia)]
    intro hmem
    obtain ⟨j, hj⟩ := List.getElem?_of_mem hmem
    have hjm : j < m := by have := (List.getElem?_eq_some_iff.mp hj).1; rw [List.length_take] at this; lia
    rw [List.getElem?_take_of_lt hjm] at hj
    obtain ⟨a1, a2⟩ := List.getElem?_eq_some_iff.mp hj
    obtain ⟨b1, b2⟩ := List.getElem?_eq_some_iff.mp hi
    have := List.pairwise_iff_getElem.mp S.srt j m a1 b1 hjm
    (clear hcode n10 hp cp hP hpa pn p3 p4 hS hS2 hpw S I q sl hperm paD fn hm hN k3 c3 hP3 hD3 pa3 hn ok hc hpl hh hi hv hml i0 i1 hh' hk gi hmem hj hjm; lia))
  have e2 : plcs (kp hs ns) ns m ++ [(i, some (tg (kp hs ns) m + 8))] = plcs (kp hs ns) ns (m + 1) := by rw [plcs_succ, gi]
  rw [e2] at e1
  have e1 : idSet ((plcs (kp hs ns) ns m).map fun p => (p.1, oInt p.2)) i (.int (tg (kp hs ns) m + 8)) = _ := e1
  rw [e1]
  have pfr : H pa = none := hpa
  have nq : ∀ a o, H3 a = some o → (∀ kv, o ≠ .idict kv) → a ≠ pa := fun a o ha ho e => by rw [e, pa3] at ha; cases ha; exact ho _ rfl
  have k4 : Keep [n₀ + 2, 324] H (H3.set pa (.idict ((plcs (kp hs ns) ns (m + 1)).map fun p => (p.1, oInt p.2)))) := k3.own pfr
  have pa4 : (H3.set pa (.idict ((plcs (kp hs ns) ns (m + 1)).map fun p => (p.1, oInt p.2)))) pa = _ := AH.set_self ..
  have c4 : (H3.set pa (.idict ((plcs (kp hs ns) ns (m + 1)).map fun p => (p.1, oInt p.2)))) (n₀ + 2) = some (.cell (some (.ref pa))) := by rw [AH.set_ne (nq _ _ c3 (by simp))]; exact c3
  have hP4 : (H3.set pa (.idict ((plcs (kp hs ns) ns (m + 1)).map fun p => (p.1, oInt p.2)))) 324 = some (.pred (· = tabObj (#[] ++ #[rawInt 325, rawInt 32, .ref c']))) := by rw [AH.set_ne (nq _ _ hP3 (by simp))]; exact hP3
  have hD4 : (H3.set pa (.idict ((plcs (kp hs ns) ns (m + 1)).map fun p => (p.1, oInt p.2)))) D = some (.list (ns.map .int)) := by rw [AH.set_ne (nq _ _ hD3 (by simp))]; exact hD3
  generalize H3.set pa (.idict ((plcs (kp hs ns) ns (m + 1)).map fun p => (p.1, oInt p.2))) = H4 at k4 pa4 c4 hP4 hD4 ⊢
  have I4 := I.keep k4 hS
  have Dh := I4.l3.hd h (List.mem_of_getElem? hh')
  refine Exs.cons (Ex.inc ok hn hc (by rfl) (by rfl) (Ev.callf ok (globOk _) hn (by rfl) (by rfl) (d_wide P).keep ?_))
  refine Ev.item (Ev.item (Ev.cellv ok hn (by rfl) hh I4.l3.ch ?_))
  refine Ev.loc ‹_› ‹_› (by rfl) (by rfl) ?_
  refine ⟨.ref h.t, .list I4.l3.held i0 (by rw [List.getElem?_map, hh']; rfl) (by lia), Ev.int ⟨.ref h.k.t, .tuple Dh.1 (by decide) rfl (by decide), k_wide Dh.2.t (S.kd h (List.mem_of_getElem? hh')).z.1 ⟨_, rfl, Exs.nil (hN _ (by rw [tg_succ hk]; rfl) ⟨rfl, k4, c4, hP4, hD4, pa4⟩)⟩⟩⟩
end


section
variable {P : Params} {w : World} {c : Cx} {l l' : Loc} {H H' H₀ B : AH} {s s' : Shared} {lvl n : Nat} {Q : AV → AH → Prop} {A : Ad} {M M' MF M1 : Int → Int} {F : List Int} {f g r hl lk sa wa ba sy pa du ta kr n₀ c₁ : Addr} {bs' : List Addr} {lim e e' t acc : Int} {kds : List KD} {h : HD} {hs hs' K : List HD} {xs : List LK} {ss ws st ss' ws' : List Int} {ps : Array Value} {m : Nat} {N : Loc → AH → Prop} {R : AV → AH → Prop}
/-- what stands after compact -/
structure L6 (H : AH) (A : Ad) (n hl lk wa ba sy pa ta c₁ g : Addr) (lim : Int) (hs : List HD) (xs : List LK) (bs : List Addr) (M MF : Int → Int) (ws st : List Int) : Prop where
  l5 : L5 H A n hl lk wa ba sy hs xs bs M ws st
  cp : H (n + 2) = some (.cell (some (.ref pa)))
  P : H 324 = some (.pred (· = tabObj (#[] ++ #[rawInt 325, rawInt 32, .ref c₁])))
  pl : H pa = some (.idict ((plcs (kp hs st) st st.length).map fun p => (p.1, oInt p.2)))
  tl : H ta = some (.list ((ws.map fun w => aimF w 1024 w (kp hs st)).map .int))
  hp : HpAt H A lim g MF (fl (tg (kp hs st) st.length) (lim - tg (kp hs st) st.length))
theorem L6.mono (I : L6 H A n₀ hl lk wa ba sy pa ta c₁ g lim hs xs bs' M MF ws st) (k : Keep [] H H') : L6 H' A n₀ hl lk wa ba sy pa ta c₁ g lim hs xs bs' M MF ws st :=
  ⟨I.l5.keep k (by simp), k.get (by simp) I.cp, k.get (by simp) I.P, k.get (by simp) I.pl, k.get (by simp) I.tl, I.hp.mono k⟩
theorem kp_len : (kp hs st).length = st.length := List.length_map _
theorem tg_all : tg (kp hs st) st.length = endT 1024 ((kp hs st).map hb) := by
  unfold tg
  rw [List.take_of_length_le (by rw [kp_len]; exact Nat.le_refl _)]
theorem sec8 {n : Nat} (fn : Fn (KK P) (n + 8) (fnScope (stAt 43)) (lawCl n₀) c) (S : Scene hs xs M lim e ss ws st) (hws : ws.length ≤ 5) (I : L5 H A n₀ hl lk wa ba sy hs xs bs' M ws st) (hp : HpAt H A lim f M F) (cp : H (n₀ + 2) = some (.cell (some (.ref pa)))) (hP : H 324 = some (.pred (· = tabObj (#[] ++ #[rawInt 325, rawInt 32, .ref c₁])))) (pl : H pa = some (.idict ((plcs (kp hs st) st st.length).map fun p => (p.1, oInt p.2))))
    (q : ∀ B H' du ta g MF M1, L6 B A n₀ hl lk wa ba sy pa ta c₁ g lim hs xs bs' M MF ws st → Fin hs xs M MF M1 lim e ws st → B du = none → Keep [] B H' → H' du = some (.list []) →
      Exs w c (LB 18) [("limit", .int lim), ("area", .ref A.h), ("links", .ref lk), ("words", .ref wa), ("before", .ref ba), ("stay", .ref sy), ("top", .int (tg (kp hs st) st.length)), ("due", .ref du), ("told", .ref ta)] H' N R) :
    Exs w c (LB 16) [("limit", .int lim), ("area", .ref A.h), ("links", .ref lk), ("words", .ref wa), ("before", .ref ba), ("stay", .ref sy), ("top", .int (tg (kp hs st) st.length))] H N R := by
  have hn := fn.names (ls := [("due", .local), ("told", .local), ("area", .local), ("words", .local), ("compact", .globalImplicit)]) (by decide +kernel)
  have ok := fn.ok
  have hc := fn.comp
  refine Exs.cons (Ex.set ok hn hc (by rfl) (Ev.list ⟨by simp, fun du hdu => ?_⟩))
  have k1 : Keep [] H (H.set du (.list [])) := Keep.new hdu
  have x1 := hp.mono k1
  have wt1 := k1.get (by simp) I.wt
  have du1 : (H.set du (.list [])) du = some (.list []) := AH.set_self ..
  generalize H.set du (.list []) = H1 at k1 x1 wt1 du1 ⊢
  refine Exs.cons (Ex.set ok hn hc (by rfl) (Ev.callf ok (globOk _) hn (by rfl) (by rfl) (d_compact P).keep ?_))
  refine Ev.loc ‹_› ‹_› (by rfl) (by rfl) ?_
  refine Ev.loc ‹_› ‹_› (by rfl) (by rfl) ?_
  refine k_compact x1 S.lm.2.1 S.sta S.gclo S.h0 S.tl wt1 (by lia) S.hws fun Mk W rk hm => ?_
  obtain ⟨C, Fi⟩ := S.fin W rk hm
  refine ⟨_, C, fun H2 ta g x2 k2 hta htn => ?_⟩
  rw [map_rc] at x2 hta
  rw [List.map_congr_left Fi.told] at hta
  generalize fin4 lim (slideL (altR lim (setT Mk 1024 ((kp hs st).map hb)) ((kp hs st).map rc)) ((kp hs st).map hb)) (endT 1024 ((kp hs st).map hb)) = MF at x2 Fi
  rw [← tg_all] at x2
  have no : ∀ a o, H1 a = some o → (∀ M, o ≠ .words M) → (∀ M, o ≠ .attrs M) → a ∉ [A.w, A.hd] := fun a o ha hw hd hm => by
    simp at hm
    rcases hm with e | e
    · rw [e, x1.mem.w] at ha; cases ha; exact hw _ rfl
    · rw [e, x1.hd] at ha; cases ha; exact hd _ rfl
  have du2 := k2.get (no _ _ du1 (by simp) (by simp)) du1
  have k3 : Keep [A.w, A.hd] H (minus H2 du) := fun b hb o ho => by
    have hbd : b ≠ du := fun e => by rw [e, hdu] at ho; cases ho
    rw [minus_ne hbd]
    exact k2.get hb (k1.get (by simp) ho)
  have k4 : Keep [] (minus H2 du) H2 := fun b _ o ho => by
    have hbd : b ≠ du := fun e => by rw [e] at ho; unfold minus at ho; rw [if_pos rfl] at ho; cases ho
    rw [minus_ne hbd] at ho; exact ho
  have no2 : ∀ a o, H a = some o → (∀ M, o ≠ .words M) → (∀ M, o ≠ .attrs M) → a ∉ [A.w, A.hd] := fun a o ha => no a o (k1.get (by simp) ha)
  have dn : ∀ a o, H2 a = some o → o ≠ .list [] → a ≠ du := fun a o ha ho e => by rw [e, du2] at ha; cases ha; exact ho rfl
  refine Exs.weaken _ H2 ?_ (fun _ _ e => e) (q (minus H2 du) H2 du ta g MF _ ⟨I.keep k3 fun a ha => ?_, k3.get (no2 _ _ cp (by simp) (by simp)) cp, k3.get (no2 _ _ hP (by simp) (by simp)) hP, k3.get (no2 _ _ pl (by simp) (by simp)) pl, ?_, ⟨⟨?_, ?_, ?_⟩, ?_, ?_, ?_⟩⟩ Fi (if_pos rfl) k4 du2)
  · rfl
  · simp at ha
    rcases ha with rfl | rfl
    · exact ⟨fun e => (by have := I.l3.cm; rw [← e, hp.mem.w] at this; cases this), fun e => (by have := I.l3.ch; rw [← e, hp.mem.w] at this; cases this), _, hp.mem.w, trivial⟩
    · exact ⟨fun e => (by have := I.l3.cm; rw [← e, hp.hd] at this; cases this), fun e => (by have := I.l3.ch; rw [← e, hp.hd] at this; cases this), _, hp.hd, trivial⟩
  · rw [minus_ne (fun e => by rw [e, du1] at htn; cases htn)]; exact hta
  · rw [minus_ne (dn _ _ x2.mem.m (by simp))]; exact x2.mem.m
  · rw [minus_ne (dn _ _ x2.mem.md (by simp))]; exact x2.mem.md
  · rw [minus_ne (dn _ _ x2.mem.w (by simp))]; exact x2.mem.w
  · rw [minus_ne (dn _ _ x2.h (by simp))]; exact x2.h
  · rw [minus_ne (dn _ _ x2.hd (by simp))]; exact x2.hd
  · rw [minus_ne (dn _ _ x2.f (fun e => by
      have := congrArg (fun o => match o with | AO.list xs => xs.length | _ => 0) e
      simp [fl_length] at this))]; exact x2.f
theorem aimF_snoc {w : Int} : ∀ {K : List HD} {t acc : Int}, aimF w t acc (K ++ [h]) = if h.a ≤ w ∧ w < h.a - 8 + bs h.k.z then endT t (K.map hb) + 8 + w - h.a else aimF w t acc K
  | [], t, acc => rfl
  | x :: r, t, acc => aimF_snoc (K := r)
theorem sec9 {n : Nat} (fn : Fn (KK P) (n + 8) (fnScope (stAt 43)) (lawCl n₀) c) (S : Scene hs xs M lim e ss ws st) (n10 : hs.length ≤ 10) (hws : ws.length ≤ 5) (I : L6 B A n₀ hl lk wa ba sy pa ta c₁ g lim hs xs bs' M MF ws st) (hdu : B du = none) (k : Keep [] B H) (du1 : H du = some (.list []))
    (q : ∀ H', Keep [] B H' → Exs w c (LB 20) [("limit", .int lim), ("area", .ref A.h), ("links", .ref lk), ("before", .ref ba), ("stay", .ref sy), ("top", .int (tg (kp hs st) st.length))] H' N R) :
    Exs w c (LB 18) [("limit", .int lim), ("area", .ref A.h), ("links", .ref lk), ("words", .ref wa), ("before", .ref ba), ("stay", .ref sy), ("top", .int (tg (kp hs st) st.length)), ("due", .ref du), ("told", .ref ta)] H N R := by
  have hn := fn.names (ls := [("words", .local), ("due", .local), ("told", .local)]) (by decide +kernel)
  have ok := fn.ok
  have hc := fn.comp
  have sl : st.length ≤ 10 := by have := S.cl.len; have := S.len; lia
  refine Exs.cons (Ex.for_ fn ?_)
  refine Ev.loc ‹_› ‹_› (by rfl) (by rfl) ?_
  refine ⟨.list wa (ws.map .int), fun m l' H' => l' = [("limit", .int lim), ("area", .ref A.h), ("links", .ref lk), ("words", .ref wa), ("before", .ref ba), ("stay", .ref sy), ("top", .int (tg (kp hs st) st.length)), ("due", .ref du), ("told", .ref ta)] ∧ Keep [] B H' ∧ H' du = some (.list (((ws.take m).map fun w => aimF w 1024 w (kp hs st)).map .int)),
    ⟨rfl, k.get (by simp) I.l5.wt, by rw [List.length_map]; lia⟩, ⟨rfl, k, du1⟩, fun m l H h => h.2.1.get (by simp) I.l5.wt, ?_, ?_⟩
  rotate_left
  · rintro l H1 ⟨rfl, k1, du1⟩
    have el : (Src.list wa (ws.map AV.int)).len = ws.length := List.length_map _
    rw [el, List.take_length] at du1
    have tl := k1.get (by simp) I.tl
    refine Exs.cons (Ex.ifs (Tr.cmpS ?_))
    refine Ev.loc ‹_› ‹_› (by rfl) (by rfl) ?_
    refine Ev.loc ‹_› ‹_› (by rfl) (by rfl) ?_
    refine CmpS.neints ok tl du1 ⟨fun h => by simp at h, fun _ => Exs.nil (Exs.weaken _ H1 ?_ (fun _ _ e => e) (q H1 k1))⟩
    rfl
  clear k du1 hn ok hc
  rintro c1 NN fn m v l H1 hm hv hN ⟨rfl, k1, du1⟩
  have hn := fn.names (ls := [("word", .local), ("aim", .local), ("stay", .local), ("due", .local)]) (by decide +kernel)
  have ok := fn.ok
  have hc := fn.comp
  obtain ⟨wd, hwd, rfl⟩ := map_ints hv
  refine Asg.name ok hc hn (by rfl) ?_
  refine Exs.cons (Ex.set ok hn hc (by rfl) ?_)
  refine Ev.loc ‹_› ‹_› (by rfl) (by rfl) ?_
  refine Exs.weaken [("stay", .ref sy), ("due", .ref du), ("limit", .int lim), ("area", .ref A.h), ("links", .ref lk), ("words", .ref wa), ("before", .ref ba), ("top", .int (tg (kp hs st) st.length)), ("told", .ref ta), ("word", .int wd), ("aim", .int wd)] H1 (by rfl) (fun _ _ e => e) ?_
  have I1 := I.mono k1
  refine Exs.cons (Ex.for_ fn ?_)
  refine Ev.loc ‹_› ‹_› (by rfl) (by rfl) ?_
  refine ⟨.list sy (st.map .int), fun i l' H' => l' = [("stay", .ref sy), ("due", .ref du), ("limit", .int lim), ("area", .ref A.h), ("links", .ref lk), ("words", .ref wa), ("before", .ref ba), ("top", .int (tg (kp hs st) st.length)), ("told", .ref ta), ("word", .int wd), ("aim", .int (aimF wd 1024 wd ((kp hs st).take i)))] ∧ H' = H1,
    ⟨rfl, I1.l5.sy, by rw [List.length_map]; lia⟩, ⟨rfl, rfl⟩, fun i l H h => by rw [h.2]; exact I1.l5.sy, ?_, ?_⟩
  rotate_left
  · rintro l H2 ⟨rfl, rfl⟩
    have el : (Src.list sy (st.map AV.int)).len = (kp hs st).length := (List.length_map _).trans kp_len.symm
    rw [el, List.take_length]
    refine Exs.cons (Ex.expr (Ev.append ?_) (inter ok))
    refine Ev.loc ‹_› ‹_› (by rfl) (by rfl) ?_
    refine ⟨du, _, rfl, du1, ?_⟩
    refine Ev.loc ‹_› ‹_› (by rfl) (by rfl) ?_
    have hml := (List.getElem?_eq_some_iff.mp hwd).1
    refine ⟨_, du1, by rw [List.length_map, List.length_map, List.length_take]; (clear S n10 I hdu q sl fn hm hN hn ok hc hwd hv k1 du1 I1 el hml; lia), trivial, Exs.nil (hN _ (by rfl) ⟨rfl, k1.own hdu, ?_⟩)⟩
    rw [AH.set_self, List.take_add_one, hwd]
    simp
  clear hn ok hc
  rintro c2 NN fn i v l H2 hi hv hN ⟨rfl, rfl⟩
  have hn := fn.names (ls := [("word", .local), ("aim", .local), ("one", .local), ("held", .cell), ("places", .cell), ("_law_wide", .globalImplicit)]) (by decide +kernel)
  have ok := fn.ok
  have hc := fn.comp
  have hpl : c2.env.cells.lookup (Str.ofString "places") = some (n₀ + 2) := by rw [fn.cells]; rfl
  have hh : c2.env.cells.lookup (Str.ofString "held") = some (n₀ + 1) := by rw [fn.cells]; rfl
  obtain ⟨j, hj, rfl⟩ := map_ints hv
  obtain ⟨h, j0, j1, hh', _, hk⟩ := S.at_ hj
  have D := I1.l5.l3.hd h (List.mem_of_getElem? hh')
  have it : Item H2 (.ref hl) (.int j) (.ref h.t) := .list I1.l5.l3.held j0 (by rw [List.getElem?_map, hh']; rfl) (by lia)
  have ia : Item H2 (.ref h.t) (.int 0) (.int h.a) := .tuple D.1 (by decide) rfl (by decide)
  have eq1 : aimF wd 1024 wd ((kp hs st).take (i + 1)) = if h.a ≤ wd ∧ wd < h.a - 8 + bs h.k.z then tg (kp hs st) i + 8 + wd - h.a else aimF wd 1024 wd ((kp hs st).take i) := by
    rw [List.take_add_one, hk]
    exact aimF_snoc
  refine Asg.name ok hc hn (by rfl) ?_
  refine Exs.cons (Ex.ifs (Tr.cmp2 (Ev.item (Ev.item (Ev.cellv ok hn (by rfl) hh I1.l5.l3.ch ?_)))))
  refine Ev.loc ‹_› ‹_› (by rfl) (by rfl) ?_
  refine ⟨.ref h.t, it, Ev.int ⟨.int h.a, ia, ?_⟩⟩
  refine Ev.loc ‹_› ‹_› (by rfl) (by rfl) ?_
  refine CmpS.of (show Cmp .LtE (.int h.a) (.int wd) _ from ⟨fun hf => ⟨nofun, fun _ => ?_⟩, fun ht => Ev.bin (Ev.bin (Ev.item (Ev.item (Ev.cellv ok hn (by rfl) hh I1.l5.l3.ch ?_))))⟩)
  · have hf := of_decide_eq_false hf
    refine Exs.nil (Exs.nil (hN _ ?_ ⟨rfl, rfl⟩))
    rw [eq1, if_neg (fun x => hf x.1)]
    rfl
  refine Ev.loc ‹_› ‹_› (by rfl) (by rfl) ?_
  refine ⟨.ref h.t, it, Ev.int ⟨.int h.a, ia, Ev.int (?_ : Ev _ _ _ _ _ _)⟩⟩
  refine Ev.callf ok (globOk _) hn (by rfl) (by rfl) (d_wide P).keep ?_
  refine Ev.item (Ev.item (Ev.cellv ok hn (by rfl) hh I1.l5.l3.ch ?_))
  refine Ev.loc ‹_› ‹_› (by rfl) (by rfl) ?_
  refine ⟨.ref h.t, it, Ev.int ⟨.ref h.k.t, .tuple D.1 (by decide) rfl (by decide), k_wide D.2.t (S.kd h (List.mem_of_getElem? hh')).z.1 ?_⟩⟩
  refine CmpS.of (show Cmp .Lt (.int wd) (.int (h.a - 8 + bs h.k.z)) _ from ⟨fun h2 => ?_, fun h2 => Exs.nil (Exs.nil (hN _ ?_ ⟨rfl, rfl⟩))⟩)
  · have ht := of_decide_eq_true ht
    have h2 := of_decide_eq_true h2
    refine Exs.cons (Ex.set ok hn hc (by rfl) (Ev.bin (Ev.bin (Ev.item (Ev.cellv ok hn (by rfl) hpl I1.cp ?_)))))
    refine Ev.loc ‹_› ‹_› (by rfl) (by rfl) ?_
    refine ⟨.int (tg (kp hs st) i + 8), .idict I1.pl (plcs_get S.nd hj), ?_⟩
    refine Ev.loc ‹_› ‹_› (by rfl) (by rfl) ?_
    refine (?_ : Ev _ _ _ _ _ _)
    refine Ev.item (Ev.item (Ev.cellv ok hn (by rfl) hh I1.l5.l3.ch ?_))
    refine Ev.loc ‹_› ‹_› (by rfl) (by rfl) ?_
    refine ⟨.ref h.t, it, Ev.int ⟨.int h.a, ia, Exs.nil (Exs.nil (hN _ ?_ ⟨rfl, rfl⟩))⟩⟩
    rw [eq1, if_pos ⟨ht, h2⟩]
    rfl
  · have h2 := of_decide_eq_false h2
    rw [eq1, if_neg (fun x => h2 x.2)]
    rfl
end


section
variable {P : Params} {w : World} {c : Cx} {l l' : Loc} {H H' H₀ B : AH} {s s' : Shared} {lvl n : Nat} {Q : AV → AH → Prop} {A : Ad} {M M' MF M1 : Int → Int} {F : List Int} {f g r hl lk sa wa ba sy pa du ta bd kr n₀ c₁ : Addr} {bs' : List Addr} {ts : List AV} {bl : List Blk} {lim e e' t acc o : Int} {kds : List KD} {h : HD} {hs hs' K : List HD} {x : LK} {xs : List LK} {ss ws st ss' ws' : List Int} {ps : Array Value} {m : Nat} {N : Loc → AH → Prop} {R : AV → AH → Prop}
/-- what the last checks read -/
structure L7 (H : AH) (A : Ad) (n hl lk wa ba sy pa g : Addr) (lim : Int) (hs : List HD) (xs : List LK) (bs : List Addr) (M MF : Int → Int) (ws st : List Int) : Prop where
  l5 : L5 H A n hl lk wa ba sy hs xs bs M ws st
  cp : H (n + 2) = some (.cell (some (.ref pa)))
  pl : H pa = some (.idict ((plcs (kp hs st) st st.length).map fun p => (p.1, oInt p.2)))
  hp : HpAt H A lim g MF (fl (tg (kp hs st) st.length) (lim - tg (kp hs st) st.length))
theorem L6.l7 (I : L6 B A n₀ hl lk wa ba sy pa ta c₁ g lim hs xs bs' M MF ws st) (k : Keep [324] B H) : L7 H A n₀ hl lk wa ba sy pa g lim hs xs bs' M MF ws st := by
  have no : ∀ a o, B a = some o → (∀ p, o ≠ .pred p) → a ∉ [324] := fun a o ha ho hm => by
    rw [List.mem_singleton.mp hm, I.P] at ha; cases ha; exact ho _ rfl
  refine ⟨I.l5.keep k fun a ha => ?_, k.get (no _ _ I.cp (by simp)) I.cp, k.get (no _ _ I.pl (by simp)) I.pl, I.hp.soft k fun a ha => ?_⟩
  · rw [List.mem_singleton.mp ha]
    exact ⟨fun e => no _ _ I.l5.l3.cm (by simp) (by rw [← e]; exact .head _), fun e => no _ _ I.l5.l3.ch (by simp) (by rw [← e]; exact .head _), _, I.P, trivial⟩
  · rw [List.mem_singleton.mp ha]
    exact ⟨fun e => no _ _ I.hp.f (by simp) (by rw [← e]; exact .head _), _, I.P, trivial⟩
theorem kv_one {kv : List (Int × Option Int)} {k : Int} {u v : Option Int} (nd : (kv.map (·.1)).Nodup) (hu : (k, u) ∈ kv) (hv : (k, v) ∈ kv) : u = v := by
  have a := idGet_nodup nd hu
  rw [idGet_nodup nd hv] at a
  cases u <;> cases v <;> simp [oInt] at a <;> first | rfl | exact congrArg some a.symm
/-- what a word of a moved record is -/
theorem Fin.cases (S : Scene hs xs M lim e ss ws st) (Fi : Fin hs xs M MF M1 lim e ws st) {i : Int} (hm : st[m]? = some i) (hh : hs[i.toNat]? = some h) (hx : xs[i.toNat]? = some x) (o0 : 0 ≤ o) (o1 : o < h.k.z) (o4 : o % 4 = 0) :
    (o ∉ h.k.os ∧ rd MF (tg (kp hs st) m + 8 + o) = rd M (h.a + o)) ∨ (o ∈ h.k.os ∧ ∃ v, (o, v) ∈ x.kv ∧ ((v = none ∧ rd MF (tg (kp hs st) m + 8 + o) = rd M (h.a + o)) ∨ ∃ d m', v = some d ∧ st[m']? = some d ∧ rd MF (tg (kp hs st) m + 8 + o) = tg (kp hs st) m' + 8)) := by
  have L := S.lk i.toNat h x hh hx
  obtain ⟨p1, p2⟩ := Fi.ptr m i h x o hm hh hx o0 o1 o4
  by_cases ho : o ∈ h.k.os
  · obtain ⟨p, hp, e⟩ := List.mem_map.mp ((L.key o).mpr ho)
    subst e
    refine .inr ⟨ho, p.2, hp, ?_⟩
    cases hv : p.2 with
    | none => exact .inl ⟨rfl, p2 fun d hd => by have := kv_one L.nd hd (show (p.1, p.2) ∈ x.kv from hp); rw [hv] at this; cases this⟩
    | some d =>
      obtain ⟨m', a, b⟩ := p1 d (by rw [← hv]; exact hp)
      exact .inr ⟨d, m', rfl, a, b⟩
  · exact .inl ⟨ho, p2 fun d hd => ho ((L.key o).mp (List.mem_map.mpr ⟨_, hd, rfl⟩))⟩
theorem Tups.keep {S : List Addr} (T : Tups H ts bl) (k : Keep S H H') (hS : ∀ a ∈ S, ∀ ys, H a ≠ some (.tuple ys)) : Tups H' ts bl := by
  induction T with
  | nil => exact .nil
  | cons a _ ih => exact .cons (k.get (fun hm => hS _ hm _ a) a) ih
theorem relay_hb {K : List HD} (hk : K[m]? = some h) : ((relay 1024 K).take (m + 1)).map hb = ((relay 1024 K).take m).map hb ++ [⟨tg K m + 8 - 8, bs h.k.z, some h.k.w⟩] := by
  rw [List.take_add_one, relay_get hk, List.map_append]; rfl
noncomputable def iv : Option AV → Int
  | some (.int v) => v
  | _ => 0
theorem Scene.tg_lt {i j : Int} {mi mj : Nat} (S : Scene hs xs M lim e ss ws st) (hmi : st[mi]? = some i) (hmj : st[mj]? = some j) (hij : i < j) : tg (kp hs st) mi < tg (kp hs st) mj := by
  obtain ⟨a1, a2⟩ := List.getElem?_eq_some_iff.mp hmi
  obtain ⟨b1, b2⟩ := List.getElem?_eq_some_iff.mp hmj
  have lt : mi < mj := by
    rcases Nat.lt_trichotomy mi mj with h | h | h
    · exact h
    · subst h; lia
    · have := List.pairwise_iff_getElem.mp S.srt mj mi b1 a1 h; lia
  have mono : ∀ d a, a + d + 1 ≤ st.length → tg (kp hs st) a + 16 * d ≤ tg (kp hs st) (a + d) := by
    intro d
    induction d with
    | zero => intro a _; simp
    | succ d ih =>
      intro a ha
      have := ih a (by lia)
      obtain ⟨x, _, _, hx, _, hkx⟩ := S.at_ (List.getElem?_eq_getElem (show a + d < st.length by lia))
      have := tg_succ hkx
      have := bs_rng (S.kd x (List.mem_of_getElem? hx)).z
      rw [show a + (d + 1) = a + d + 1 by lia]
      push_cast; lia
  have := mono (mj - mi) mi (by (clear hij hmi hmj a1 a2 b2 mono; lia))
  rw [show mi + (mj - mi) = mj by lia] at this
  lia
theorem sec11 {n : Nat} (fn : Fn (KK P) (n + 8) (fnScope (stAt 43)) (lawCl n₀) c) (hcode : c.env.code = .ref 326) (S : Scene hs xs M lim e ss ws st) (n10 : hs.length ≤ 10) (I : L6 B A n₀ hl lk wa ba sy pa ta c₁ g lim hs xs bs' M MF ws st) (Fi : Fin hs xs M MF M1 lim e ws st) (k : Keep [] B H)
    (q : ∀ H' bd ts, Keep [324] B H' → H' bd = some (.list ts) → Tups H' ts ((relay 1024 (kp hs st)).map hb) → B bd = none → (∃ ps, H' 324 = some (.pred (· = tabObj ps))) →
      Exs w c (LB 22) [("limit", .int lim), ("area", .ref A.h), ("top", .int (tg (kp hs st) st.length)), ("blocks_due", .ref bd)] H' N R) :
    Exs w c (LB 20) [("limit", .int lim), ("area", .ref A.h), ("links", .ref lk), ("before", .ref ba), ("stay", .ref sy), ("top", .int (tg (kp hs st) st.length))] H N R := by
  have hn := fn.names (ls := [("blocks_due", .local), ("stay", .local), ("sorted", .globalImplicit)]) (by decide +kernel)
  have ok := fn.ok
  have hc := fn.comp
  have sl : st.length ≤ 10 := by have := S.cl.len; have := S.len; lia
  refine Exs.cons (Ex.set ok hn hc (by rfl) (Ev.list ⟨by simp, fun bd hbd => ?_⟩))
  have bdB := k.none hbd (by simp)
  have k1 : Keep [] B (H.set bd (.list [])) := k.trans (Keep.new hbd)
  have bd1 : (H.set bd (.list [])) bd = some (.list []) := AH.set_self ..
  generalize H.set bd (.list []) = H1 at k1 bd1 ⊢
  have I1 := I.mono k1
  refine Exs.weaken [("limit", .int lim), ("area", .ref A.h), ("links", .ref lk), ("before", .ref ba), ("stay", .ref sy), ("top", .int (tg (kp hs st) st.length)), ("blocks_due", .ref bd)] H1 (by rfl) (fun _ _ e => e) ?_
  refine Exs.cons (Ex.for_ fn (Ev.sortkey (P := 324) (cd := 326) (ps := #[] ++ #[rawInt 325, rawInt 32, .ref c₁]) (x := Str.ofString "each") (clos := [(Str.ofString "places", n₀ + 2)]) ok hc hcode (by kernel_rfl) ?hcl rfl ?ht ?hnf ?hbind rfl rfl rfl rfl (by decide +kernel) (by exact Bi.of ‹_› (globOk _) ‹_› (by rfl) (by rfl)) ?_))
  case hcl =>
    unfold closureFor cellOf
    rw [fn.cells]
    kernel_rfl
  case hbind => intro V qual pm cdv ctv; kernel_rfl
  case ht => simp [TriplesOk, rawInt]
  case hnf => simp [codeAmong, rawInt]
  refine Ev.loc ‹_› ‹_› (by rfl) (by rfl) ?_
  have key : ∀ {m : Nat} {i : Int}, st[m]? = some i → iv (idGet ((plcs (kp hs st) st st.length).map fun p => (p.1, oInt p.2)) i) = tg (kp hs st) m + 8 := fun hm => by rw [plcs_get S.nd hm]; rfl
  refine ⟨sy, st, fun i => iv (idGet ((plcs (kp hs st) st st.length).map fun p => (p.1, oInt p.2)) i), rfl, I1.l5.sy, by lia, I1.P, fun i hi A' env h m V hsc hcl hns hmv hV see => ?_, fun D c' ns hD hperm hpw => ?_⟩
  · obtain ⟨m', hm'⟩ := List.getElem?_of_mem hi
    show Rd w A' env h _ (.int (iv (idGet ((plcs (kp hs st) st st.length).map fun p => (p.1, oInt p.2)) i)))
    rw [key hm']
    refine Rd.item (Rd.free (a := n₀ + 2) (v := .ref pa) (by rw [hsc]) ?_ (by rw [hcl]; rfl) I1.cp see (by decide) (by decide)) (Rd.loc (by rw [hsc]) ?_ hns hmv hV (by decide)) (.idict I1.pl (plcs_get S.nd hm')) see (by intro _ _; with_unfolding_all rfl)
    · unfold Env.kindOf; rw [hsc]; kernel_rfl
    · unfold Env.kindOf; rw [hsc]; kernel_rfl
  have ens : ns = st := S.sorted (fun i hi j hj hij => by
    obtain ⟨mi, hmi⟩ := List.getElem?_of_mem hi
    obtain ⟨mj, hmj⟩ := List.getElem?_of_mem hj
    show iv (idGet ((plcs (kp hs st) st st.length).map fun p => (p.1, oInt p.2)) i) < iv (idGet ((plcs (kp hs st) st st.length).map fun p => (p.1, oInt p.2)) j)
    rw [key hmi, key hmj]
    have := S.tg_lt hmi hmj hij
    lia) hperm hpw
  subst ens
  have n3 : bd ≠ 324 := fun e => by rw [e, I1.P] at bd1; cases bd1
  have dn : ∀ a o, H1 a = some o → a ≠ D := fun a o ha e => by rw [← e, ha] at hD; cases hD
  have k2 : Keep [324] B ((H1.set 324 (.pred (· = tabObj (#[] ++ #[rawInt 325, rawInt 32, .ref c₁] ++ #[rawInt 339, rawInt 32, .ref c'])))).set D (.list (ns.map .int))) := (k1.mono (by simp)).trans ((Keep.set (by simp)).trans (Keep.new (by rw [AH.set_ne (dn _ _ I1.P).symm]; exact hD)))
  have bd2 : ((H1.set 324 (.pred (· = tabObj (#[] ++ #[rawInt 325, rawInt 32, .ref c₁] ++ #[rawInt 339, rawInt 32, .ref c'])))).set D (.list (ns.map .int))) bd = some (.list []) := by rw [AH.set_ne (dn _ _ bd1), AH.set_ne n3]; exact bd1
  have hD2 : ((H1.set 324 (.pred (· = tabObj (#[] ++ #[rawInt 325, rawInt 32, .ref c₁] ++ #[rawInt 339, rawInt 32, .ref c'])))).set D (.list (ns.map .int))) D = some (.list (ns.map .int)) := AH.set_self ..
  have hP2 : ((H1.set 324 (.pred (· = tabObj (#[] ++ #[rawInt 325, rawInt 32, .ref c₁] ++ #[rawInt 339, rawInt 32, .ref c'])))).set D (.list (ns.map .int))) 324 = some (.pred (· = tabObj (#[] ++ #[rawInt 325, rawInt 32, .ref c₁] ++ #[rawInt 339, rawInt 32, .ref c']))) := by rw [AH.set_ne (dn _ _ I1.P), AH.set_self]
  have bdD := dn _ _ bd1
  refine (?_ : ForP _ _ _ _ _ _ _ _ _ _ _ _)
  generalize (H1.set 324 (.pred (· = tabObj (#[] ++ #[rawInt 325, rawInt 32, .ref c₁] ++ #[rawInt 339, rawInt 32, .ref c'])))).set D (.list (ns.map .int)) = H2 at k2 bd2 hD2 hP2 ⊢
  generalize #[] ++ #[rawInt 325, rawInt 32, .ref c₁] ++ #[rawInt 339, rawInt 32, .ref c'] = tps at hP2
  clear k1 bd1 I1 hD dn k hbd
  refine ⟨.list D (ns.map .int), fun m l' H' => l' = [("limit", .int lim), ("area", .ref A.h), ("links", .ref lk), ("before", .ref ba), ("stay", .ref sy), ("top", .int (tg (kp hs ns) ns.length)), ("blocks_due", .ref bd)] ∧ Keep [324] B H' ∧ H' 324 = some (.pred (· = tabObj tps)) ∧ H' D = some (.list (ns.map .int)) ∧ ∃ ts, H' bd = some (.list ts) ∧ Tups H' ts (((relay 1024 (kp hs ns)).take m).map hb),
    ⟨rfl, hD2, by rw [List.length_map]; lia⟩, ⟨rfl, k2, hP2, hD2, [], bd2, .nil⟩, fun m l H h => h.2.2.2.1, ?_, ?_⟩
  rotate_left
  · rintro l H3 ⟨rfl, k3, hP3, hD3, ts, bd3, T⟩
    have el : (Src.list D (ns.map AV.int)).len = (relay 1024 (kp hs ns)).length := (List.length_map _).trans (kp_len.symm.trans relay_len.symm)
    rw [el, List.take_length] at T
    exact Exs.weaken _ H3 (by rfl) (fun _ _ e => e) (q H3 bd ts k3 bd3 T bdB ⟨_, hP3⟩)
  clear k2 bd2 hD2 hP2 hn ok hc q
  rintro c1 NN fn m v l H3 hm hv hN ⟨rfl, k3, hP3, hD3, ts, bd3, T⟩
  have hn := fn.names (ls := [("one", .local), ("where", .local), ("kind", .local), ("blocks_due", .local), ("places", .cell), ("held", .cell), ("memory", .cell), ("_law_wide", .globalImplicit), ("range", .globalImplicit)]) (by decide +kernel)
  have ok := fn.ok
  have hc := fn.comp
  have hpl : c1.env.cells.lookup (Str.ofString "places") = some (n₀ + 2) := by rw [fn.cells]; rfl
  have hh : c1.env.cells.lookup (Str.ofString "held") = some (n₀ + 1) := by rw [fn.cells]; rfl
  have hmm : c1.env.cells.lookup (Str.ofString "memory") = some n₀ := by rw [fn.cells]; rfl
  obtain ⟨i, hi, rfl⟩ := map_ints hv
  have hml := (List.getElem?_eq_some_iff.mp hi).1
  obtain ⟨h, i0, i1, hh', _, hk⟩ := S.at_ hi
  have hmem := List.mem_of_getElem? hh'
  have I3 := I.l7 k3
  have Dh := I3.l5.l3.hd h hmem
  have kz := (S.kd h hmem).z
  have hz := bs_rng kz
  have ge := endT_take (t := 1024) (m := m) (h := h) (l := kp hs ns) (fun x hx => by
    obtain ⟨j, hj, rfl⟩ := List.mem_map.mp hx
    obtain ⟨m', hm'⟩ := List.getElem?_of_mem hj
    obtain ⟨y, _, _, hy, ey, _⟩ := S.at_ hm'
    rw [ey]; exact S.kd y (List.mem_of_getElem? hy)) hk
  have gt : 1024 ≤ tg (kp hs ns) m ∧ tg (kp hs ns) m % 16 = 0 ∧ tg (kp hs ns) m + bs h.k.z ≤ lim := ⟨ge.1, ge.2.1, Int.le_trans ge.2.2 Fi.top.2.1⟩
  have lm := S.lm
  have ip : ∀ {H : AH}, L7 H A n₀ hl lk wa ba sy pa g lim hs xs bs' M MF ws ns → Item H (.ref pa) (.int i) (.int (tg (kp hs ns) m + 8)) := fun I => .idict I.pl (plcs_get S.nd hi)
  clear ge
  refine Asg.name ok hc hn (by rfl) ?_
  refine Exs.cons (Ex.tup (Ev.item (Ev.cellv ok hn (by rfl) hh I3.l5.l3.ch ?_)))
  refine Ev.loc ‹_› ‹_› (by rfl) (by rfl) ?_
  refine ⟨.ref h.t, .list I3.l5.l3.held i0 (by rw [List.getElem?_map, hh']; rfl) (by lia), Asg.tup ok Dh.1 rfl rfl (Asg.name ok hc hn (by rfl) (Asg.name ok hc hn (by rfl) ?_))⟩
  refine Exs.cons (Ex.expr (Ev.append ?_) (inter ok))
  refine Ev.loc ‹_› ‹_› (by rfl) (by rfl) ?_
  refine ⟨bd, _, rfl, bd3, Ev.tuple ?_⟩
  refine (?_ : Ev _ _ _ _ _ _)
  refine Ev.bin (Ev.item (Ev.cellv ok hn (by rfl) hpl I3.cp ?_))
  refine Ev.loc ‹_› ‹_› (by rfl) (by rfl) ?_
  refine ⟨_, ip I3, Ev.int (?_ : Ev _ _ _ _ _ _)⟩
  refine Ev.callf ok (globOk _) hn (by rfl) (by rfl) (d_wide P).keep ?_
  refine Ev.loc ‹_› ‹_› (by rfl) (by rfl) ?_
  refine k_wide Dh.2.t kz.1 (?_ : Ev _ _ _ _ _ _)
  refine Ev.item ?_
  refine Ev.loc ‹_› ‹_› (by rfl) (by rfl) ?_
  have tl := T.length
  have tl2 : ts.length ≤ 10 := by rw [tl, List.length_map, List.length_take, relay_len, kp_len]; (clear hcode n10 bdB S I Fi key hperm hpw n3 bdD fn hm hN k3 hP3 hD3 bd3 T hn ok hc hpl hh hmm hi hv hml i0 i1 hh' hk hmem I3 Dh kz hz gt lm ip tl; lia)
  refine Ev.int ⟨.int h.k.w, .tuple Dh.2.t (by decide) rfl (by decide), by simp, fun t ht => ⟨_, (Keep.new (S := []) ht).get (by simp) bd3, by lia, trivial, ?_⟩⟩
  have k4 : Keep [324] B ((H3.set t (.tuple [.int (tg (kp hs ns) m + 8 - 8), .int (bs h.k.z), .int h.k.w])).set bd (.list (ts ++ [.ref t]))) := (k3.trans (Keep.new ht)).own bdB
  have bt : bd ≠ t := fun e => by rw [← e, bd3] at ht; cases ht
  have T4 : Tups ((H3.set t (.tuple [.int (tg (kp hs ns) m + 8 - 8), .int (bs h.k.z), .int h.k.w])).set bd (.list (ts ++ [.ref t]))) (ts ++ [.ref t]) (((relay 1024 (kp hs ns)).take (m + 1)).map hb) := by
    rw [relay_hb hk]
    refine Tups.snoc ((T.keep (Keep.new (S := []) ht) (by simp)).but (xs := ts) (by rw [AH.set_ne bt]; exact bd3)) ?_
    rw [AH.set_ne bt.symm, AH.set_self]; rfl
  have bd4 : ((H3.set t (.tuple [.int (tg (kp hs ns) m + 8 - 8), .int (bs h.k.z), .int h.k.w])).set bd (.list (ts ++ [.ref t]))) bd = some (.list (ts ++ [.ref t])) := AH.set_self ..
  have hD4 : ((H3.set t (.tuple [.int (tg (kp hs ns) m + 8 - 8), .int (bs h.k.z), .int h.k.w])).set bd (.list (ts ++ [.ref t]))) D = some (.list (ns.map .int)) := by rw [AH.set_ne bdD.symm, AH.set_ne (fun e => by rw [← e, hD3] at ht; cases ht)]; exact hD3
  have hP4 : ((H3.set t (.tuple [.int (tg (kp hs ns) m + 8 - 8), .int (bs h.k.z), .int h.k.w])).set bd (.list (ts ++ [.ref t]))) 324 = some (.pred (· = tabObj tps)) := by rw [AH.set_ne n3.symm, AH.set_ne (fun e => by rw [← e, hP3] at ht; cases ht)]; exact hP3
  generalize (H3.set t (.tuple [.int (tg (kp hs ns) m + 8 - 8), .int (bs h.k.z), .int h.k.w])).set bd (.list (ts ++ [.ref t])) = H4 at k4 T4 bd4 hD4 hP4 ⊢
  clear I3 Dh k3 hD3 hP3 bd3 T ht bt tl tl2
  have I4 := I.l7 k4
  have Dh := I4.l5.l3.hd h hmem
  refine Exs.cons (Ex.ifs (Tr.cmp (Ev.rd ok (Ev.cellv ok hn (by rfl) hmm I4.l5.l3.cm ⟨A, MF, rfl, I4.hp.mem, Ev.bin (Ev.item (Ev.cellv ok hn (by rfl) hpl I4.cp ?_))⟩))))
  refine Ev.loc ‹_› ‹_› (by rfl) (by rfl) ?_
  refine ⟨_, ip I4, Ev.int (?_ : Op _ _ _ _)⟩
  refine ⟨_, MF, rfl, I4.hp.mem, by (clear hcode n10 bdB S I Fi sl key hperm hpw n3 bdD fn hm hN hn ok hc hpl hh hmm hi hv hml i0 i1 hh' hk hmem kz ip k4 T4 bd4 hD4 hP4 I4 Dh; lia), ?_⟩
  have mk := Fi.mark m h hk
  rw [show tg (kp hs ns) m + 8 - 4 = tg (kp hs ns) m + 4 by lia, mk]
  refine Ev.int ⟨fun h => by simp at h, fun _ => Exs.nil ?_⟩
  refine Exs.weaken [("limit", .int lim), ("area", .ref A.h), ("links", .ref lk), ("before", .ref ba), ("stay", .ref sy), ("top", .int (tg (kp hs ns) ns.length)), ("blocks_due", .ref bd), ("one", .int i), ("kind", .ref h.k.t)] H4 (by rfl) (fun _ _ e => e) ?_
  refine Exs.cons (Ex.for_ fn (Ev.range3 (by exact Bi.of ‹_› (globOk _) ‹_› (by rfl) (by rfl)) ?_))
  refine Ev.int ⟨0, rfl, Ev.item ?_⟩
  refine Ev.loc ‹_› ‹_› (by rfl) (by rfl) ?_
  refine Ev.int ⟨.int h.k.z, .tuple Dh.2.t (by decide) rfl (by decide), _, rfl, Ev.int ⟨rfl, fun rg hrg => ?_⟩⟩
  have ez : (0 : Int) + 4 * ((h.k.z / 4).toNat : Int) = h.k.z := by lia
  have kr := Keep.new (S := []) (o := .pred (isRange 0 h.k.z 4)) hrg
  have rg5 := AH.set_self (H := H4) rg (.pred (isRange 0 h.k.z 4))
  have k5 := k4.trans (kr.mono (S' := [324]) (by simp))
  have T5 := T4.keep kr (by simp)
  have bd5 := kr.get (by simp) bd4
  have hD5 := kr.get (by simp) hD4
  have hP5 := kr.get (by simp) hP4
  generalize H4.set rg (.pred (isRange 0 h.k.z 4)) = H5 at kr rg5 k5 T5 bd5 hD5 hP5 ⊢
  clear k4 T4 bd4 hD4 hP4 I4 Dh hrg kr
  have I5 := I.l7 k5
  refine ⟨.range 0 4 (h.k.z / 4).toNat, fun j l' H' => l' = [("limit", .int lim), ("area", .ref A.h), ("links", .ref lk), ("before", .ref ba), ("stay", .ref sy), ("top", .int (tg (kp hs ns) ns.length)), ("blocks_due", .ref bd), ("one", .int i), ("kind", .ref h.k.t)] ∧ H' = H5, from_4 (by rw [ez]; exact rg5) (by lia) (by lia) (by lia), ⟨rfl, rfl⟩, fun _ _ _ _ => trivial, ?_, ?_⟩
  rotate_left
  · rintro l H6 ⟨rfl, rfl⟩
    exact Exs.nil (hN _ (by rfl) ⟨rfl, k5, hP5, hD5, _, bd5, T5⟩)
  clear k5 hD5 hP5 bd5 T5 rg5 hn ok hc hpl hh hmm
  rintro c2 NN fn j v l H6 hj hv hN ⟨rfl, rfl⟩
  have hn := fn.names (ls := [("one", .local), ("kind", .local), ("spot", .local), ("aim", .local), ("before", .local), ("links", .local), ("places", .cell), ("memory", .cell)]) (by decide +kernel)
  have ok := fn.ok
  have hc := fn.comp
  have hpl : c2.env.cells.lookup (Str.ofString "places") = some (n₀ + 2) := by rw [fn.cells]; rfl
  have hmm : c2.env.cells.lookup (Str.ofString "memory") = some n₀ := by rw [fn.cells]; rfl
  have hj : j < (h.k.z / 4).toNat := hj
  cases hv
  refine Asg.name ok hc hn (by rfl) ?_
  rw [show (0 : Int) + (j : Int) * 4 = 4 * j by lia]
  have Dh := I5.l5.l3.hd h hmem
  have len := S.len
  have bl := I5.l5.bl
  obtain ⟨b, hb'⟩ : ∃ b, bs'[i.toNat]? = some b := ⟨_, List.getElem?_eq_getElem (by lia)⟩
  obtain ⟨x, hx⟩ : ∃ x, xs[i.toNat]? = some x := ⟨_, List.getElem?_eq_getElem (by lia)⟩
  have Ca := Fi.cases S hi hh' hx (o := 4 * j) (by lia) (by (clear hcode n10 bdB S I Fi sl key hperm hpw n3 bdD hm hi hv hml i0 i1 hh' hk hmem kz hz gt lm ip mk fn I5 hN hn ok hc hpl hmm Dh len bl hb' hx; lia)) (by lia)
  refine Exs.cons (Ex.set ok hn hc (by rfl) (Ev.item (Ev.item ?_)))
  refine Ev.loc ‹_› ‹_› (by rfl) (by rfl) ?_
  refine Ev.loc ‹_› ‹_› (by rfl) (by rfl) ?_
  refine ⟨.ref b, .list I5.l5.bt i0 (by rw [List.getElem?_map, hb']; rfl) (by lia), Ev.bin ?_⟩
  refine Ev.loc ‹_› ‹_› (by rfl) (by rfl) ?_
  refine Ev.int ⟨by decide, .int (rd M (h.a + 4 * j)), .list (I5.l5.bf _ h b hh' hb') (by lia) ?_ (by lia), ?_⟩
  · rw [List.getElem?_map, show (4 * (j : Int) / 4).toNat = j by lia, bw_get hj]; rfl
  refine Exs.weaken [("one", .int i), ("kind", .ref h.k.t), ("links", .ref lk), ("spot", .int (4 * (j : Int))), ("aim", .int (rd M (h.a + 4 * j))), ("limit", .int lim), ("area", .ref A.h), ("before", .ref ba), ("stay", .ref sy), ("top", .int (tg (kp hs ns) ns.length)), ("blocks_due", .ref bd)] H6 (by rfl) (fun _ _ e => e) ?_
  refine Exs.cons (Ex.mono (N := fun l' H' => H' = H6 ∧ Loc.sub [("one", .int i), ("kind", .ref h.k.t), ("links", .ref lk), ("spot", .int (4 * (j : Int))), ("aim", .int (rd MF (tg (kp hs ns) m + 8 + 4 * j))), ("limit", .int lim), ("area", .ref A.h), ("before", .ref ba), ("stay", .ref sy), ("top", .int (tg (kp hs ns) ns.length)), ("blocks_due", .ref bd)] l') (R := R)
    (Ex.ifs (Tr.mono (Q := fun b H' => H' = H6 ∧ (b = true → ∃ d m', (4 * (j : Int), some d) ∈ x.kv ∧ ns[m']? = some d ∧ rd MF (tg (kp hs ns) m + 8 + 4 * j) = tg (kp hs ns) m' + 8) ∧ (b = false → rd MF (tg (kp hs ns) m + 8 + 4 * j) = rd M (h.a + 4 * j))) (Tr.and (Tr.cmpS ?_)) fun bb H7 ⟨eH, q1, q2⟩ => ⟨fun hb1 => ?_, fun hb1 => ?_⟩)) ?_ fun _ _ h => h)
  · refine Ev.loc ‹_› ‹_› (by rfl) (by rfl) ?_
    refine Ev.item ?_
    refine Ev.loc ‹_› ‹_› (by rfl) (by rfl) ?_
    refine Ev.int ⟨.ref h.k.oa, .tuple Dh.2.t (by decide) rfl (by decide), CmpS.in_ Dh.2.o ⟨fun hf => ⟨rfl, nofun, fun _ => ?_⟩, fun ht => Tr.and (Tr.cmp (Ev.item (Ev.item ?_)))⟩⟩
    · rcases Ca with ⟨_, r⟩ | ⟨ho, _⟩
      · exact r
      · simp at hf; exact absurd rfl (hf _ ho)
    refine Ev.loc ‹_› ‹_› (by rfl) (by rfl) ?_
    refine Ev.loc ‹_› ‹_› (by rfl) (by rfl) ?_
    have ho : 4 * (j : Int) ∈ h.k.os := by simpa using ht
    obtain ⟨v, hv, r⟩ := (Ca.resolve_left fun x => x.1 ho).2
    have L := S.lk i.toNat h x hh' hx
    refine ⟨.ref x.a, .list I5.l5.l3.lks i0 (by rw [List.getElem?_map, hx]; rfl) (by omega), ?_⟩
    refine Ev.loc ‹_› ‹_› (by rfl) (by rfl) ?_
    refine ⟨oInt v, .idict (I5.l5.l3.lx x (List.mem_of_getElem? hx)) (idGet_nodup L.nd hv), Ev.none ?_⟩
    rcases r with ⟨rfl, r⟩ | ⟨d, m', rfl, hm', r⟩
    · exact ⟨fun _ => ⟨rfl, nofun, fun _ => r⟩, nofun⟩
    · exact ⟨nofun, fun _ => Tr.and_nil ⟨rfl, fun _ => ⟨d, m', hv, hm', r⟩, nofun⟩⟩
  · subst eH
    obtain ⟨d, m', hd, hm', r⟩ := q1 hb1
    have L := S.lk i.toNat h x hh' hx
    refine Exs.cons (Ex.set ok hn hc (by rfl) (Ev.item (Ev.cellv ok hn (by rfl) hpl I5.cp (Ev.item (Ev.item ?_)))))
    refine Ev.loc ‹_› ‹_› (by rfl) (by rfl) ?_
    refine Ev.loc ‹_› ‹_› (by rfl) (by rfl) ?_
    refine ⟨.ref x.a, .list I5.l5.l3.lks i0 (by rw [List.getElem?_map, hx]; rfl) (by lia), ?_⟩
    refine Ev.loc ‹_› ‹_› (by rfl) (by rfl) ?_
    refine ⟨.int d, .idict (I5.l5.l3.lx x (List.mem_of_getElem? hx)) (idGet_nodup L.nd hd), .int (tg (kp hs ns) m' + 8), .idict I5.pl (plcs_get S.nd hm'), Exs.nil ⟨rfl, ?_⟩⟩
    rw [r]
    rfl
  · subst eH
    rw [q2 hb1]
    exact Exs.nil ⟨rfl, by rfl⟩
  rintro l' H' ⟨rfl, hl'⟩
  refine Exs.weaken _ H' hl' (fun _ _ e => e) ?_
  refine Exs.cons (Ex.ifs (Tr.cmp (Ev.rd ok (Ev.cellv ok hn (by rfl) hmm I5.l5.l3.cm ⟨A, MF, rfl, I5.hp.mem, Ev.bin (Ev.item (Ev.cellv ok hn (by rfl) hpl I5.cp ?_))⟩))))
  refine Ev.loc ‹_› ‹_› (by rfl) (by rfl) ?_
  refine ⟨_, ip I5, ?_⟩
  refine Ev.loc ‹_› ‹_› (by rfl) (by rfl) ?_
  refine ⟨_, MF, rfl, I5.hp.mem, by (clear hcode n10 bdB S I Fi sl key hperm hpw n3 bdD hm hi hv hml i0 i1 hh' hk hmem kz ip mk fn hn ok hc hpl hmm len bl hb' hx Ca hl' I5 hN Dh; lia), ?_⟩
  refine Ev.loc ‹_› ‹_› (by rfl) (by rfl) ?_
  refine ⟨fun h => by simp at h, fun _ => Exs.nil (Exs.nil (hN _ (by rfl) ⟨rfl, rfl⟩))⟩
end


section
variable {P : Params} {w : World} {c : Cx} {l l' : Loc} {H H' H₀ B : AH} {s s' : Shared} {lvl n : Nat} {Q : AV → AH → Prop} {A : Ad} {M M' MF M1 : Int → Int} {F : List Int} {f g r hl lk sa wa ba sy pa du ta bd ld sc kr n₀ c₁ : Addr} {bs' : List Addr} {ts : List AV} {bl : List Blk} {lim e e' t acc o : Int} {kds : List KD} {h : HD} {hs hs' K : List HD} {x : LK} {xs : List LK} {ss ws st ss' ws' ns : List Int} {ps : Array Value} {m : Nat} {N : Loc → AH → Prop} {R : AV → AH → Prop}
noncomputable def bdat (b : Blk) : PyData := .tuple [.int b.b, .int b.z, match b.d with | none => .none | some d => .int d]
theorem Tups.data (T : Tups H ts bl) : ts.map (dat H 1) = bl.map bdat ∧ ∀ x ∈ ts, Rv H 1 x := by
  induction T with
  | nil => exact ⟨rfl, fun _ h => nomatch h⟩
  | @cons t x ts bs a _ ih =>
    refine ⟨?_, fun y hy => ?_⟩
    · rw [List.map_cons, List.map_cons, ih.1]
      refine congrArg (· :: _) ?_
      show pd (dat H 0) (H t) = _
      rw [a]
      cases x with | mk b z d => cases d <;> rfl
    · rcases List.mem_cons.mp hy with rfl | hy
      · refine .inr ⟨t, _, rfl, .inl a, fun v hv => ?_⟩
        simp at hv
        rcases hv with rfl | rfl | rfl
        · exact .inr ⟨_, rfl⟩
        · exact .inr ⟨_, rfl⟩
        · cases x.d with
          | none => exact .inl rfl
          | some d => exact .inr ⟨d, rfl⟩
      · exact ih.2 y hy
theorem Tups.eq {ts' : List AV} {a b : Addr} (T : Tups H ts bl) (T' : Tups H ts' bl) (ha : H a = some (.list ts)) (hb : H b = some (.list ts')) : dat H 2 (.ref a) = dat H 2 (.ref b) ∧ Rv H 2 (.ref a) ∧ Rv H 2 (.ref b) := by
  refine ⟨?_, .inr ⟨a, _, rfl, .inr ha, T.data.2⟩, .inr ⟨b, _, rfl, .inr hb, T'.data.2⟩⟩
  show pd (dat H 1) (H a) = pd (dat H 1) (H b)
  rw [ha, hb]
  show PyData.list _ = PyData.list _
  rw [T.data.1, T'.data.1]
theorem sec13 {n : Nat} (fn : Fn (KK P) (n + 8) (fnScope (stAt 43)) (lawCl n₀) c) (hp : HpAt H A lim g MF F) (T : Tiles MF lim 1024 bl) (hlen : bl.length ≤ 800) (hbd : H bd = some (.list ts)) (TT : Tups H ts bl) (hld : H ld = some (.list (F.map .int))) (hP : H 324 = some (.pred (· = tabObj ps)))
    (qr : ∀ H' ps, H' 324 = some (.pred (· = tabObj ps)) → R (.bool true) H') : Exs w c (LB 24) [("area", .ref A.h), ("blocks_due", .ref bd), ("lists_due", .ref ld)] H N R := by
  have hn := fn.names (ls := [("area", .local), ("blocks_due", .local), ("lists_due", .local)]) (by decide +kernel)
  have ok := fn.ok
  have hc := fn.comp
  refine Exs.cons (Ex.ret (Ev.and2 (Ev.cmpS (Ev.hmeth ok (m_blocks P) (by simp) ?_))))
  refine Ev.loc ‹_› ‹_› (by rfl) (by rfl) ?_
  refine ⟨A, lim, g, MF, F, rfl, hp, k_blocks hp T hlen fun H1 a ts' ha k1 ha1 T1 => ?_⟩
  refine Ev.loc ‹_› ‹_› (by rfl) (by rfl) ?_
  have TT := TT.mono (S := []) fun t xs => k1.get (by simp)
  obtain ⟨e1, r1, r2⟩ := T1.eq TT ha1 (k1.get (by simp) hbd)
  have hp1 := hp.mono k1
  refine CmpS.eqd ok (n := 2) (by decide) r1 r2 e1 ⟨true, rfl, nofun, fun _ => Ev.cmpS (Ev.attr ok ?_)⟩
  refine Ev.loc ‹_› ‹_› (by rfl) (by rfl) ?_
  refine ⟨A.h, 108, A.hd, _, .ref g, rfl, hp1.h, hp1.hd, a_free P, by (repeat (first | exact Get.head | (refine Get.tail ?_ ?_; decide))), rfl, ?_⟩
  refine Ev.loc ‹_› ‹_› (by rfl) (by rfl) ?_
  refine CmpS.eqints ok hp1.f (k1.get (by simp) hld) ?_
  rw [decide_eq_true rfl]
  exact qr H1 ps (k1.get (by simp) hP)
theorem sec12 {n : Nat} (fn : Fn (KK P) (n + 8) (fnScope (stAt 43)) (lawCl n₀) c) (S : Scene hs xs M lim e ss ws st) (n10 : hs.length ≤ 10) (I : L6 B A n₀ hl lk wa ba sy pa ta c₁ g lim hs xs bs' M MF ws st) (Fi : Fin hs xs M MF M1 lim e ws st) (k : Keep [324] B H) (hbd : H bd = some (.list ts)) (T : Tups H ts ((relay 1024 (kp hs st)).map hb)) (bdB : B bd = none) (hP : H 324 = some (.pred (· = tabObj ps)))
    (qr : ∀ H' ps, H' 324 = some (.pred (· = tabObj ps)) → R (.bool true) H') : Exs w c (LB 22) [("limit", .int lim), ("area", .ref A.h), ("top", .int (tg (kp hs st) st.length)), ("blocks_due", .ref bd)] H N R := by
  have hn := fn.names (ls := [("limit", .local), ("top", .local), ("blocks_due", .local), ("lists_due", .local), ("rest", .local), ("memory", .cell)]) (by decide +kernel)
  have ok := fn.ok
  have hc := fn.comp
  have hmm : c.env.cells.lookup (Str.ofString "memory") = some n₀ := by rw [fn.cells]; rfl
  have lm := S.lm
  have ft := Fi.top
  have ftl := Fi.tiles
  have fta := Fi.tail
  rw [← tg_all] at ft ftl fta
  have sl : st.length ≤ 10 := by have := S.cl.len; have := S.len; lia
  have tl := T.length
  rw [List.length_map, relay_len, kp_len] at tl
  have Ihp := I.hp
  have bln : (bls (relay 1024 (kp hs st)) (tg (kp hs st) st.length) lim).length ≤ 800 := by
    unfold bls tailB
    rw [List.length_append, List.length_map, relay_len, kp_len]
    split <;> simp <;> lia
  refine Exs.cons (Ex.set ok hn hc (by rfl) (Ev.list ?_))
  refine Ev.int (?_ : Ev _ _ _ _ _ _)
  refine Ev.int (?_ : Ev _ _ _ _ _ _)
  refine Ev.int (?_ : Ev _ _ _ _ _ _)
  refine Ev.int ⟨by simp, fun ld hld => ?_⟩
  have kl := Keep.new (S := []) (o := .list [.int 0, .int 0, .int 0, .int 0]) hld
  have ld1 := AH.set_self (H := H) ld (.list [.int 0, .int 0, .int 0, .int 0])
  have k1 := k.trans (kl.mono (S' := [324]) (by simp))
  have T1 := T.keep kl (by simp)
  have bd1 := kl.get (by simp) hbd
  have hP1 := kl.get (by simp) hP
  have ldH := hld
  have ldne : ld ≠ bd := fun e => by rw [e, hbd] at hld; cases hld
  have ldg : ∀ a o, H a = some o → a ≠ ld := fun a o ha e => by rw [e, hld] at ha; cases ha
  have nP := ldg _ _ hP
  generalize H.set ld (.list [.int 0, .int 0, .int 0, .int 0]) = H1 at kl ld1 k1 T1 bd1 hP1 ⊢
  have I1 := I.l7 k1
  have gne : g ≠ ld := ldg _ _ (I.l7 k).hp.f
  refine Exs.cons (Ex.ifs (Tr.cmp ?_))
  refine Ev.loc ‹_› ‹_› (by rfl) (by rfl) ?_
  refine Ev.loc ‹_› ‹_› (by rfl) (by rfl) ?_
  refine ⟨fun ht => ?_, fun hf => Exs.nil (Exs.weaken [("area", .ref A.h), ("blocks_due", .ref bd), ("lists_due", .ref ld)] H1 (by rfl) (fun _ _ e => e) (sec13 fn I1.hp ftl bln bd1 ?_ ?_ hP1 qr))⟩
  rotate_left
  · have hf := of_decide_eq_false hf
    unfold bls tailB
    rw [if_neg hf, List.append_nil]; exact T1
  · have hf := of_decide_eq_false hf
    unfold fl
    rw [if_pos (by (clear fn S n10 I Fi k hbd T bdB hP qr hn ok hc hmm lm ft ftl fta sl tl Ihp bln hld ldH ldne ldg nP kl ld1 k1 T1 bd1 hP1 I1 gne hf; lia))]; exact ld1
  have ht := of_decide_eq_true ht
  refine Exs.cons (Ex.expr (Ev.append ?_) (inter ok))
  refine Ev.loc ‹_› ‹_› (by rfl) (by rfl) ?_
  refine ⟨bd, _, rfl, bd1, Ev.tuple ?_⟩
  refine Ev.loc ‹_› ‹_› (by rfl) (by rfl) ?_
  refine (?_ : Ev _ _ _ _ _ _)
  refine Ev.bin ?_
  refine Ev.loc ‹_› ‹_› (by rfl) (by rfl) ?_
  refine Ev.loc ‹_› ‹_› (by rfl) (by rfl) ?_
  refine (?_ : Ev _ _ _ _ _ _)
  refine Ev.none ⟨by simp, fun t htn => ⟨_, (Keep.new (S := []) htn).get (by simp) bd1, by lia, trivial, ?_⟩⟩
  have bt : bd ≠ t := fun e => by rw [← e, bd1] at htn; cases htn
  have k2 : Keep [324] B ((H1.set t (.tuple [.int (tg (kp hs st) st.length), .int (lim - tg (kp hs st) st.length), .none])).set bd (.list (ts ++ [.ref t]))) := (k1.trans (Keep.new htn)).own bdB
  have T2 : Tups ((H1.set t (.tuple [.int (tg (kp hs st) st.length), .int (lim - tg (kp hs st) st.length), .none])).set bd (.list (ts ++ [.ref t]))) (ts ++ [.ref t]) (bls (relay 1024 (kp hs st)) (tg (kp hs st) st.length) lim) := by
    unfold bls tailB
    rw [if_pos ht]
    refine Tups.snoc ((T1.keep (Keep.new (S := []) htn) (by simp)).but (xs := ts) (by rw [AH.set_ne bt]; exact bd1)) ?_
    rw [AH.set_ne bt.symm, AH.set_self]; rfl
  have bd2 : ((H1.set t (.tuple [.int (tg (kp hs st) st.length), .int (lim - tg (kp hs st) st.length), .none])).set bd (.list (ts ++ [.ref t]))) bd = some (.list (ts ++ [.ref t])) := AH.set_self ..
  have ld2 : ((H1.set t (.tuple [.int (tg (kp hs st) st.length), .int (lim - tg (kp hs st) st.length), .none])).set bd (.list (ts ++ [.ref t]))) ld = some (.list [.int 0, .int 0, .int 0, .int 0]) := by rw [AH.set_ne ldne, AH.set_ne (fun e => by rw [← e, ld1] at htn; cases htn)]; exact ld1
  have hP2 : ((H1.set t (.tuple [.int (tg (kp hs st) st.length), .int (lim - tg (kp hs st) st.length), .none])).set bd (.list (ts ++ [.ref t]))) 324 = some (.pred (· = tabObj ps)) := by rw [AH.set_ne (fun e => by rw [← e, hP1] at bd1; cases bd1), AH.set_ne (fun e => by rw [← e, hP1] at htn; cases htn)]; exact hP1
  generalize (H1.set t (.tuple [.int (tg (kp hs st) st.length), .int (lim - tg (kp hs st) st.length), .none])).set bd (.list (ts ++ [.ref t])) = H2 at k2 T2 bd2 ld2 hP2 ⊢
  have I2 := I.l7 k2
  refine Exs.cons (Ex.set ok hn hc (by rfl) (Ev.bin ?_))
  refine Ev.loc ‹_› ‹_› (by rfl) (by rfl) ?_
  refine Ev.loc ‹_› ‹_› (by rfl) (by rfl) ?_
  have lnr := ln_lo (lim - tg (kp hs st) st.length)
  refine Exs.cons (Ex.setlist ?_)
  refine Ev.loc ‹_› ‹_› (by rfl) (by rfl) ?_
  refine Ev.loc ‹_› ‹_› (by rfl) (by rfl) ?_
  refine ⟨ld, rfl, Ev.mono (Q := fun v H' => v = .int (ln (lim - tg (kp hs st) st.length)) ∧ H' = H2) (Ev.ifexp (Tr.cmp ?_)) fun v H' ⟨ev, eH⟩ => ?_⟩
  · refine Ev.loc ‹_› ‹_› (by rfl) (by rfl) ?_
    unfold ln
    refine Ev.int ⟨fun h => Ev.int ⟨by rw [if_pos (of_decide_eq_true h)], rfl⟩, fun h => Ev.ifexp (Tr.cmp ?_)⟩
    rw [if_neg (of_decide_eq_false h)]
    refine Ev.loc ‹_› ‹_› (by rfl) (by rfl) ?_
    refine Ev.int ⟨fun h => Ev.int ⟨by rw [if_pos (of_decide_eq_true h)], rfl⟩, fun h => Ev.ifexp (Tr.cmp ?_)⟩
    rw [if_neg (of_decide_eq_false h)]
    refine Ev.loc ‹_› ‹_› (by rfl) (by rfl) ?_
    refine Ev.int ⟨fun h => Ev.int ⟨by rw [if_pos (of_decide_eq_true h)], rfl⟩, fun h => Ev.int ⟨by rw [if_neg (of_decide_eq_false h)], rfl⟩⟩
  subst ev; subst eH
  refine ⟨_, _, rfl, ld2, lnr.1, by simp; (clear fn S n10 I Fi k hbd T bdB hP qr hn ok hc hmm lm ft ftl fta sl tl Ihp bln hld ldH ldne ldg nP kl ld1 k1 T1 bd1 hP1 I1 gne ht htn bt k2 T2 bd2 ld2 hP2 I2; omega), by simp, ?_⟩
  have k3 : Keep [ld] H' (H'.set ld (.list (([.int 0, .int 0, .int 0, .int 0] : List AV).set (ln (lim - tg (kp hs st) st.length)).toNat (.int (tg (kp hs st) st.length))))) := Keep.set (.head _)
  have ld3 := AH.set_self (H := H') ld (.list (([.int 0, .int 0, .int 0, .int 0] : List AV).set (ln (lim - tg (kp hs st) st.length)).toNat (.int (tg (kp hs st) st.length))))
  generalize H'.set ld (.list (([.int 0, .int 0, .int 0, .int 0] : List AV).set (ln (lim - tg (kp hs st) st.length)).toNat (.int (tg (kp hs st) st.length)))) = H3 at k3 ld3 ⊢
  have hp3 := I2.hp.soft k3 fun a ha => by rw [List.mem_singleton.mp ha]; exact ⟨gne.symm, _, ld2, trivial⟩
  have no : ∀ a o, H' a = some o → (∀ xs, o ≠ .list xs) → a ∉ [ld] := fun a o ha ho hm => by
    rw [List.mem_singleton.mp hm, ld2] at ha; cases ha; exact ho _ rfl
  have cm3 := k3.get (no _ _ I2.l5.l3.cm (by simp)) I2.l5.l3.cm
  have bd3 := k3.get (by simpa using ldne.symm) bd2
  have T3 := T2.keep k3 fun a ha ys e => by rw [List.mem_singleton.mp ha, ld2] at e; cases e
  refine Exs.cons (Ex.ifs (Tr.cmp (Ev.rd ok (Ev.cellv ok hn (by rfl) hmm cm3 ⟨A, MF, rfl, hp3.mem, Ev.bin ?_⟩))))
  refine Ev.loc ‹_› ‹_› (by rfl) (by rfl) ?_
  refine Ev.int (?_ : Op _ _ _ _)
  refine ⟨_, MF, rfl, hp3.mem, by (clear fn S n10 I Fi k hbd T bdB hP qr hn ok hc hmm ftl fta sl tl Ihp bln hld ldH ldne ldg nP kl ld1 k1 T1 bd1 hP1 I1 gne ht htn bt lnr k2 T2 bd2 ld2 hP2 I2 k3 ld3 hp3 no cm3 bd3 T3; omega), ?_⟩
  rw [fta ht]
  refine Ev.int ⟨fun h => by simp at h, fun _ => Exs.nil (Exs.nil (Exs.weaken [("area", .ref A.h), ("blocks_due", .ref bd), ("lists_due", .ref ld)] H3 (by rfl) (fun _ _ e => e) (sec13 fn hp3 ftl bln bd3 T3 ?_ (k3.get (by simpa using nP) hP2) qr)))⟩
  rw [ld3]
  unfold fl
  rw [if_neg (by (clear fn S n10 I Fi k hbd T bdB hP qr hn ok hc hmm lm ft ftl fta sl tl Ihp bln hld ldH ldne ldg nP kl ld1 k1 T1 bd1 hP1 I1 gne ht htn bt lnr k2 T2 bd2 ld2 hP2 I2 k3 ld3 hp3 no cm3 bd3 T3; lia)), List.map_set]; rfl
/-- the law's body -/
theorem law_body {n : Nat} {o : Obj} {Vs : List Value} {k : Nat} (fn : Fn (KK P) (n + 8) (fnScope (stAt 43)) (lawCl n₀) c) (hcode : c.env.code = .ref 326) (hsc : H sc = some (.pred (· = o))) (ho : o.cls = .type "list") (ho' : o.data = .seq (List.toArray Vs) k) (hok : Oks (ns.map .int) Vs) (hns : ns.length ≤ 63) (hs3 : sc ≠ 324)
    (c0 : H n₀ = some (.cell none)) (c1 : H (n₀ + 1) = some (.cell none)) (c2 : H (n₀ + 2) = some (.cell none)) (hP : H 324 = some (.pred (· = tabObj #[]))) :
    Exs w c (LB 0) [("script", .ref sc)] H N (fun v H' => v = .bool true ∧ H' sc = some (.pred (· = o)) ∧ ∃ ps, H' 324 = some (.pred (· = tabObj ps))) := by
  have hn := fn.names (ls := [("script", .local), ("row", .local), ("_law_row", .globalImplicit)]) (by decide +kernel)
  have ok := fn.ok
  have hc := fn.comp
  refine Exs.cons (Ex.set ok hn hc (by rfl) (Ev.callf ok (globOk _) hn (by rfl) (by rfl) (d_row P).keep ?_))
  refine Ev.loc ‹_› ‹_› (by rfl) (by rfl) ?_
  refine k_row ⟨_, hsc, fun _ o' e => by cases (show o' = o from e); exact ⟨Vs, k, ho, ho', hok⟩⟩ hns fun H1 r ms hms hr1 hrn k1 => ?_
  have hsc1 := k1.get (by simp) hsc
  have ne : ∀ a p, H1 a = some p → (∀ q, p ≠ .pred q) → a ≠ sc := fun a p ha hp e => by rw [e, hsc1] at ha; cases ha; exact hp _ rfl
  have c0 := k1.get (by simp) c0
  have c1 := k1.get (by simp) c1
  have c2 := k1.get (by simp) c2
  have hP := k1.get (by simp) hP
  refine Exs.weaken [("row", .ref r)] H1 (by rfl) (fun _ _ e => e) (Exs.frame hc hsc1 ?_)
  have fn := fn.ro ((sc, o) :: c.ro)
  have c0 := (minus_ne (ne _ _ c0 (by simp))).trans c0
  have c1 := (minus_ne (ne _ _ c1 (by simp))).trans c1
  have c2 := (minus_ne (ne _ _ c2 (by simp))).trans c2
  have hr1 := (minus_ne (ne _ _ hr1 (by simp))).trans hr1
  have hP := (minus_ne (H := H1) hs3.symm).trans hP
  generalize minus H1 sc = H0 at c0 c1 c2 hr1 hP ⊢
  refine sec1 fn hr1 hms c0 c1 c2 hP fun H1 A hl kr f lim kds M I1 => ?_
  refine sec2 fn I1 fun H2 hs e M2 I2 h10 => ?_
  refine sec3 fn I2 h10 fun H3 lk xs M3 I3 S3 hp3 ro3 rf3 cp3 P3 row3 => ?_
  refine sec4 fn I3 S3 hp3 ro3 rf3 cp3 P3 row3 fun H4 sa wa ss ws I4 W4 l1 l2 => ?_
  refine sec5 fn S3 I4.l3 I4.hp fun H5 ba bs k5 hba hbl B5 => ?_
  refine sec6 fn S3 W4 l1 (I4.l3.new k5) (k5.get (by simp) I4.st) (k5.get (by simp) I4.wt) hba hbl B5 fun H6 sy st k6 I6 S6 => ?_
  have k56 := k5.trans k6
  refine sec7 fn hcode S6 h10 I6 (I4.hp.mono k56) (k56.get (by simp) I4.cp) (k56.get (by simp) I4.P) fun H7 pa cc I7 hp7 cp7 P7 pl7 => ?_
  refine sec8 fn S6 l2 I7 hp7 cp7 P7 pl7 fun B H8 du ta g MF M1 I8 Fi hdu k8 du8 => ?_
  refine sec9 fn S6 h10 l2 I8 hdu k8 du8 fun H9 k9 => ?_
  refine sec11 fn hcode S6 h10 I8 Fi k9 fun H10 bd ts k10 hbd T10 bdB ⟨ps, hP⟩ => ?_
  exact sec12 fn S6 h10 I8 Fi k10 hbd T10 bdB hP fun H' ps hp => ⟨rfl, AH.set_self .., ps, by rw [AH.set_ne hs3.symm]; exact hp⟩
end

theorem lo2 : namesResolve pr = true := by kernel_rfl
theorem lo5 : namesMeet pr pr.main.body (fun _ n => attrL n) = true := by kernel_rfl
theorem lo : looksOpen pr = true := by
  unfold looksOpen
  exact look_both (look_both (look_both (look_both (by kernel_rfl) lo2) (by kernel_rfl)) (by kernel_rfl)) lo5
theorem said0 : PySem.Challenge.rw_nu0334_01.row.wellSaid = true := by
  unfold OpenRow.wellSaid OpenRow.partSaid
  iterate 15 (refine look_both ?_ (by kernel_rfl))
  exact lo
theorem said : PySem.Challenge.rw_nu0334_01.wellSaid = true := by
  unfold OpenLaw.wellSaid
  iterate 18 (refine look_both ?_ (by kernel_rfl))
  exact said0
noncomputable def noLists (K : Frag) : Bool := K.all fun p => match p.2.cls with
  | .type x => x != "list"
  | _ => true
/-- the law called from the top, its code table laid aside -/
theorem law_top {w : World} {s₁ : Shared} {R : Result → Shared → Prop} {mg mb : Str → Option Value} {q : Program} {loose : List Str} {mean : ExcName → Option Value} {sc : Addr} {o : Obj} {Vs : List Value} {ns : List Int} {k : Nat}
    (X : (KK w.params).In s₁.heap) (hT : s₁.heap.get? 324 = some (tabObj #[])) (hsys : ∃ o, s₁.heap.get? sysModules = some o ∧ o.cls = .type "dict") (T : Top q loose mean mg mb s₁.heap)
    (hsc : s₁.heap.get? sc = some o) (ho : o.cls = .type "list") (ho' : o.data = .seq (List.toArray Vs) k) (hok : Oks (ns.map .int) Vs) (hns : ns.length ≤ 63)
    (post : ∀ s', s' = { s₁ with heap := s'.heap, toks := s'.toks } → (∀ b o, b ≠ 324 → s₁.heap.get? b = some o → s'.heap.get? b = some o) → (∃ ps, s'.heap.get? 324 = some (tabObj ps)) → R (.ok (.ret (.bool true))) s') :
    codeAny (model pr w) callerA (.call (.ref 327) ⟨[.ref sc], []⟩) R s₁ := by
  have hf : s₁.heap.get? 327 = some (fnO "law" (stAt 43) (.str "law_nu0334_01" 605) 326) := X _ _ (by kernel_rfl)
  have hs3 : sc ≠ 324 := fun e => by rw [e, hT] at hsc; cases hsc; cases ho
  refine call_cellsN (name := "law") (params := fnArgs (stAt 43)) (body := fnBody (stAt 43)) (scope := fnScope (stAt 43)) (pm := .str "law_nu0334_01" 605) (cd := .ref 326) (doc := .none) (binds := [("script", .ref sc)]) (by decide) hf rfl T.nolimit (codeRec_of X (by kernel_rfl)) (by kernel_rfl) (fun x hx => by rw [List.mem_singleton.mp hx]; exact .inl (by kernel_rfl)) (by decide +kernel) (fun h₁ tk cells F N CA => ?_) (by kernel_rfl) (by kernel_rfl) (by kernel_rfl)
  have gof : ∀ {b x}, (hideAll s₁.heap [324, sc]).get? b = some x → s₁.heap.get? b = some x := fun e => of_hideAll _ e
  have gnone : ∀ {b}, s₁.heap.get? b = none → (hideAll s₁.heap [324, sc]).get? b = none := fun {b} e => by
    cases q : (hideAll s₁.heap [324, sc]).get? b with
    | none => rfl
    | some x => rw [gof q] at e; cases e
  have gat : ∀ {b x}, s₁.heap.get? b = some x → x ≠ o → x ≠ tabObj #[] → (hideAll s₁.heap [324, sc]).get? b = some x := fun {b x} e h1 h2 => hideAll_get _ e fun hm => by
    simp at hm
    rcases hm with rfl | rfl
    · rw [hT] at e; cases e; exact h2 rfl
    · rw [hsc] at e; cases e; exact h1 rfl
  have g324 : (hideAll s₁.heap [324, sc]).get? 324 = none := hideAll_none _ (.head _)
  have gsc : (hideAll s₁.heap [324, sc]).get? sc = none := hideAll_none _ (.tail _ (.head _))
  have gsz : (hideAll s₁.heap [324, sc]).objs.size = s₁.heap.objs.size := hideAll_size _ _
  have gkeep : ∀ {b x}, s₁.heap.get? b = some x → b ≠ 324 → b ≠ sc → (hideAll s₁.heap [324, sc]).get? b = some x := fun {b x} e h1 h2 => hideAll_get _ e fun hm => by
    simp at hm; rcases hm with e | e
    · exact h1 e
    · exact h2 e
  generalize hideAll s₁.heap [324, sc] = g at gof gnone gat g324 gsc gsz gkeep
  have nsK : ∀ {a : Addr} {mm : Str → Option Value}, s₁.heap.Ns a mm → g.Ns a mm := fun ⟨x, es, ep, e, hd, r⟩ => ⟨x, es, ep, gat e (fun q => by rw [q, ho'] at hd; cases hd) (fun q => by rw [q] at hd; cases hd), hd, r⟩
  have KL : noLists (KK w.params) = true := by kernel_rfl
  have K3 : (KK w.params).lookup 324 = none := by kernel_rfl
  have Kg : (KK w.params).In g := fun a x e => gkeep (X a x e) (fun q => by rw [q, K3] at e; cases e) fun q => by
    have h2 := List.all_eq_true.mp KL (a, x) (mem_of_lookupK e)
    have h3 := X a x e
    rw [q, hsc] at h3; cases h3
    simp only [ho] at h2
    exact absurd h2 (by decide)
  have ecl : cellsFrom (s₁.heap.objs.size + 1) (fnScope (stAt 43)).names [] = lawCl (s₁.heap.objs.size + 1) := by kernel_rfl
  let env' : Env := envOfC "law" (fnScope (stAt 43)) s₁.heap.objs.size 327 (.ref 326)
  let c : Cx := { A₀ := callerA, A := callerA.deeper env', base := g, outer := [], fenv := env', env := env', h₀ := g, s₀ := s₁, mg := mg, mb := mb, comp := none, ro := [] }
  have ok : c.Ok (KK w.params) 8 := by
    refine ⟨rfl, rfl, rfl, by kernel_rfl, below_caller _, Kg, ⟨nsK T.g, nsK T.b, let ⟨mc, a, r⟩ := T.nolimit; ⟨mc, nsK a, r⟩, T.builtins, ?_, ?_⟩, Nat.le_of_ble_eq_true rfl, Nat.le_of_ble_eq_true rfl, by kernel_rfl, rfl, rfl, rfl⟩
    · obtain ⟨x, e, hx⟩ := hsys
      exact ⟨x, gat e (fun q => by rw [q] at hx; exact absurd (Value.type.inj (ho.symm.trans hx)) (by decide)) fun q => by rw [q] at hx; cases hx⟩
    · obtain ⟨bm, ob, a1, a2, a3, a4, r⟩ := T.bmain
      exact ⟨bm, ob, a1, a2, gat a3 (fun q => by rw [q] at a4; exact absurd (Value.type.inj (ho.symm.trans a4)) (by decide)) (fun q => by rw [q] at a4; cases a4), a4, r⟩
  have fn : Fn (KK w.params) (0 + 8) (fnScope (stAt 43)) (lawCl (s₁.heap.objs.size + 1)) c := ⟨ok, rfl, rfl, ecl⟩
  rw [ecl] at CA
  generalize hn0 : s₁.heap.objs.size + 1 = n₀ at CA fn ecl
  obtain ⟨o0, m0, d0⟩ := cells_hok CA (a := n₀) (p := (Str.ofString "memory", n₀)) (by unfold lawCl; simp [List.find?_cons])
  obtain ⟨o1, m1, d1⟩ := cells_hok CA (a := n₀ + 1) (p := (Str.ofString "held", n₀ + 1)) (by unfold lawCl; simp [List.find?_cons])
  obtain ⟨o2, m2, d2⟩ := cells_hok CA (a := n₀ + 2) (p := (Str.ofString "places", n₀ + 2)) (by unfold lawCl; simp [List.find?_cons])
  have lt3 : (324 : Addr) < s₁.heap.objs.size := Heap.lt_size hT
  have lts : sc < s₁.heap.objs.size := Heap.lt_size hsc
  let H : AH := AH.set (AH.set (AH.set (AH.set (AH.set (fun _ => none) 324 (.pred (· = tabObj #[]))) sc (.pred (· = o))) n₀ (.cell none)) (n₀ + 1) (.cell none)) (n₀ + 2) (.cell none)
  have N' : News g s₁.heap.objs.size h₁ (cells ++ [(324, tabObj #[]), (sc, o)]) := fun p hp => by
    rcases List.mem_append.mp hp with hp | hp
    · exact ⟨(N p hp).1, (N p hp).2.1, gnone (N p hp).2.2⟩
    · simp at hp
      rcases hp with rfl | rfl
      · exact ⟨F.keep _ _ hT, Nat.ne_of_lt lt3, g324⟩
      · exact ⟨F.keep _ _ hsc, Nat.ne_of_lt lts, gsc⟩
  have st : St w c [("script", .ref sc)] H { s₁ with heap := h₁, toks := tk } := by
    refine ⟨_, cells ++ [(324, tabObj #[]), (sc, o)], rfl, ⟨F.ns, fun b x e => F.keep b x (gof e), Nat.le_trans (Nat.le_of_eq gsz) F.above⟩, N', fun a ao ha => ?_, fun p hp => ?_, fun _ h => nomatch h⟩
    · by_cases e2 : a = n₀ + 2
      · subst e2; rw [show H (n₀ + 2) = _ from AH.set_self ..] at ha; cases ha; exact ⟨o2, List.mem_append_left _ m2, .inl ⟨d2.trans (by kernel_rfl), rfl⟩⟩
      by_cases e1 : a = n₀ + 1
      · subst e1; rw [show H (n₀ + 1) = _ from (AH.set_ne e2 _).trans (AH.set_self ..)] at ha; cases ha; exact ⟨o1, List.mem_append_left _ m1, .inl ⟨d1.trans (by kernel_rfl), rfl⟩⟩
      by_cases e0 : a = n₀
      · subst e0; rw [show H a = _ from (AH.set_ne e2 _).trans ((AH.set_ne e1 _).trans (AH.set_self ..))] at ha; cases ha; exact ⟨o0, List.mem_append_left _ m0, .inl ⟨d0.trans (by kernel_rfl), rfl⟩⟩
      by_cases es : a = sc
      · subst es; rw [show H a = _ from (AH.set_ne e2 _).trans ((AH.set_ne e1 _).trans ((AH.set_ne e0 _).trans (AH.set_self ..)))] at ha; cases ha; exact ⟨o, List.mem_append_right _ (.tail _ (.head _)), rfl⟩
      by_cases e3 : a = 324
      · subst e3; rw [show H 324 = _ from (AH.set_ne e2 _).trans ((AH.set_ne e1 _).trans ((AH.set_ne e0 _).trans ((AH.set_ne es _).trans (AH.set_self ..))))] at ha; cases ha; exact ⟨tabObj #[], List.mem_append_right _ (.head _), rfl⟩
      · rw [show H a = _ from (AH.set_ne e2 _).trans ((AH.set_ne e1 _).trans ((AH.set_ne e0 _).trans ((AH.set_ne es _).trans (AH.set_ne e3 _))))] at ha; cases ha
    · rw [List.mem_singleton.mp hp]
      exact ⟨.ref sc, by kernel_rfl, rfl⟩
  have n1 : (n₀ : Nat) ≠ n₀ + 1 := Nat.ne_of_lt (Nat.lt_succ_self _)
  have n2 : (n₀ : Nat) ≠ n₀ + 2 := Nat.ne_of_lt (Nat.lt_add_of_pos_right (by decide))
  have n3 : (n₀ + 1 : Nat) ≠ n₀ + 2 := Nat.ne_of_lt (Nat.lt_succ_self _)
  have big : ∀ a : Nat, a < s₁.heap.objs.size → a ≠ n₀ ∧ a ≠ n₀ + 1 ∧ a ≠ n₀ + 2 := fun a ha => by
    have hn0 : s₁.heap.objs.size + 1 = n₀ := hn0
    refine ⟨fun e => ?_, fun e => ?_, fun e => ?_⟩ <;> (have e : (a : Nat) = _ := e; lia)
  have b3 := big 324 lt3
  have bs := big sc lts
  have body := law_body (P := w.params) (w := w) (N := fun _ _ => False) fn rfl (show H sc = _ from (AH.set_ne bs.2.2 _).trans ((AH.set_ne bs.2.1 _).trans ((AH.set_ne bs.1 _).trans (AH.set_self ..)))) ho ho' hok hns hs3
    ((AH.set_ne n2 _).trans ((AH.set_ne n1 _).trans (AH.set_self ..))) ((AH.set_ne n3 _).trans (AH.set_self ..)) (AH.set_self ..) (show H 324 = _ from (AH.set_ne b3.2.2 _).trans ((AH.set_ne b3.2.1 _).trans ((AH.set_ne b3.1 _).trans ((AH.set_ne hs3.symm _).trans (AH.set_self ..))))) _ st
  refine wpAny_mono body (fun fl s' hf => ?_) fun _ _ e => e.elim
  cases fl with
  | ret V =>
    obtain ⟨v, l', H', hv, ⟨m', news', b⟩, e, hR1, ps, hR2⟩ := hf
    subst e; cases hv
    obtain ⟨y, hy, e⟩ := b.hk sc _ hR1
    cases (show y = o from e)
    obtain ⟨z, hz, e⟩ := b.hk 324 _ hR2
    cases (show z = _ from e)
    refine post s' b.same (fun d x hd e => ?_) ⟨ps, (b.nw _ hz).1⟩
    by_cases es : d = sc
    · subst es; rw [hsc] at e; cases e; exact (b.nw _ hy).1
    · exact b.fr.keep _ _ (gkeep e hd es)
  | next => obtain ⟨_, _, _, h⟩ := hf; exact h.elim
  | brk => exact hf.elim
  | cont => exact hf.elim
theorem row_holds : PySem.Challenge.rw_nu0334_01.row.Holds := by
  refine holds_open (r := PySem.Challenge.rw_nu0334_01.row) (q := qv) (loose := []) (Xt := fun s => xlAt qv [] s && recOk [] s) (XP := XL qv []) (Yf := hookH.obs) (Ya := hookH.val) (YP := hookH.says) (N := 4516) head_left hookH.of hookH.keeps (fun s e => xl_of s (Bool.and_eq_true_iff.mp e).1) XL.keeps (by rfl) (by rfl) (by rfl) (fun s e => recFacts_of (Bool.and_eq_true_iff.mp e).2) rfl (row_said said) (by decide +kernel) ⟨rfl, rfl, rfl, rfl, rfl, by decide +kernel⟩ ⟨[.list []], by decide +kernel, by decide +kernel⟩ ?hc
  intro w s₀ s₁ mg mb G Y fa o pm cd doc dV kV ho hd hcd hD hmg hg args vals as hpre hlay hrd hwl hlo
  obtain ⟨X, hT, hsys⟩ := Y
  refine Ground.open G ?_
  intro T B D TE TW
  clear B D TE TW hd hcd hD ho
  replace hmg : mg (Str.ofString "law") = some (.ref fa) := hmg
  have e1 := mg_of (n := Str.ofString "law") (v := .ref 327) X T.g (by kernel_rfl)
  rw [hmg] at e1
  cases e1
  clear hmg
  have hT9 : TabsAt [(326, 324)] s₁.heap := List.forall_mem_cons.mpr ⟨⟨codeHd_of_K (c := 326) (P := 324) X (by kernel_rfl), hT⟩, fun _ h => nomatch h⟩
  wrow_args hpre hlay hrd hwl hlo
  refine enter_call (kn_post hT9 (fun _ _ => rfl) ?_)
  rename_i ns hs hlay0 hL1 hr1 hl2 as1 as2 sc Vs as3 hL ra wl r0 hI hr hcond hc2
  obtain ⟨o, hsc, ho, k, ho'⟩ := hL
  refine law_top X hT hsys T hsc ho ho' (Oks.of_ints hI) (by lia) fun s' e keep grown => ⟨⟨.inl ⟨.bool true, .bool true, [], rfl, fun _ => rfl, .bool true, by kernel_rfl, fun _ => ⟨.nil, nofun⟩⟩, fun b x hb => keep b x (fun q => ?_) (of_hideAll _ hb), by rw [e], by rw [e]; exact hg⟩, grown, trivial⟩
  subst q
  rw [show (ghostOf s₁.heap [(326, 324)]).get? 324 = none from hideAll_none _ (.head _)] at hb
  cases hb

end Mine
theorem PySem.Challenge.cw_nu0334_01_holds : PySem.Challenge.rw_nu0334_01.Holds :=
  PySem.W.holds_law Mine.said fun _ => Mine.row_holds
