import PyProof.Rows.All
import Wide.All
import OpenK.AllK
import Wide.FinOn
import PySem.Challenge.RW_pb0175_01
open PySem PySem.W PyProof.Rows
set_option Elab.async false
-- the macros are compiled: without this they take half as much again of the compiled file
set_option compiler.extract_closed false
namespace Mine
set_option maxRecDepth 100000 in
set_option maxHeartbeats 8000000 in
open_top hd for PySem.Challenge.rw_pb0175_01
end Mine
open PySem.Calls
theorem Mine.fill_one : (Mine.hd.heap_39 = Mine.hd.heap_39) ∧ PySem.Challenge.rw_pb0175_01 = PySem.Challenge.rw_pb0175_01 := by k_fill; exact ⟨rfl, rfl⟩
section
open Mine
namespace Mine
/-- what a call does to the ledger -/
def Does (prog : Program) (w : World) (p : Program) (loose : List Str) (mean : ExcName → Option Value) (mg mb : Str → Option Value) (f : Addr) (args : List Value) (dd : Nat) (led : List (Addr × Obj)) (R : Value → List (Addr × Obj) → Prop) : Prop :=
  ∀ (dp un : Nat) (gd : Option (List Code)) (cn : Str) (cs : Scope) (a : Addr) (ccd : Value) (cl : List (Str × Addr)) (outer : List Env) (A₀ : Around) (base h₀ : Heap) (L : Addr) (m : Str → Option Value) (s : Shared) (Q E : Value → Shared → Prop),
    Below A₀ base outer h₀ → Fr h₀ L s.heap m → (Mine.hd.heap_39 w.params).In h₀ → News h₀ L s.heap led → Top p loose mean mg mb h₀ → cs.kind = .function → dp + dd < recursionLimit → un + 8 * dd < cLine →
    (∀ r led' h' tk', Fr h₀ L h' m → News h₀ L h' led' → R r led' → Q r { s with heap := h', toks := tk' }) →
    wpAny (model prog w) (ktrTop dp un gd cn cs L a ccd cl outer) (call (.ref f) args) Q E s

theorem news_sub {h₀ h : Heap} {L : Addr} {a b : List (Addr × Obj)} (N : News h₀ L h a) (k : ∀ q ∈ b, q ∈ a) : News h₀ L h b := fun q hq => N q (k q hq)

/-- the ledger with one object written anew -/
def setL (d : Addr) (o : Obj) (l : List (Addr × Obj)) : List (Addr × Obj) := (d, o) :: l.filter (fun q => q.1 != d)
theorem mem_setL_self {d : Addr} {o : Obj} {l : List (Addr × Obj)} : (d, o) ∈ setL d o l := List.mem_cons_self
theorem mem_setL_ne {d a : Addr} {o x : Obj} {l : List (Addr × Obj)} (h : (a, x) ∈ l) (n : a ≠ d) : (a, x) ∈ setL d o l :=
  List.mem_cons_of_mem _ (List.mem_filter.mpr ⟨h, by simpa using n⟩)
theorem setL_upd {d : Addr} {o o' : Obj} {l : List (Addr × Obj)} : Upd d o o' (setL d o l) (setL d o' l) :=
  Upd.head fun q hq => by simpa using (List.mem_filter.mp hq).2
theorem news_setL {h₀ h : Heap} {L d : Addr} {o : Obj} {l : List (Addr × Obj)} (N : News h₀ L h l) (hd : (d, o) ∈ l) : News h₀ L h (setL d o l) :=
  news_sub N fun q hq => by
    rcases List.mem_cons.mp hq with rfl | hq
    · exact hd
    · exact (List.mem_filter.mp hq).1

/-- keys of a dict -/
theorem isStr_ne {k : Value} {a b : Str} (n : a ≠ b) (h : k.isStr a = true) : k.isStr b = false := by
  cases k <;> simp_all [Value.isStr]
theorem isStr_str {a : Str} {t : Tok} : (Value.str a t).isStr a = true := by simp [Value.isStr]
theorem getL_cons (name : Str) (e : DictEntry) (r : List DictEntry) {v : Value} (h : getL name (e :: r) = some (some v)) : (e.key.isStr name = true ∧ e.val = v) ∨ (e.key.isStr name = false ∧ getL name r = some (some v)) := by
  unfold getL at h ⊢
  simp only [List.find?_cons] at h
  cases hk : e.key.isStr name with
  | true => rw [hk] at h; simp at h; exact .inl ⟨rfl, h⟩
  | false =>
    rw [hk] at h
    refine .inr ⟨rfl, ?_⟩
    dsimp only at h
    cases hf : List.find? (fun x => x.key.isStr name) r with
    | some e' => rw [hf] at h; exact h
    | none => rw [hf] at h; dsimp only at h; split at h <;> cases h
theorem getL_head {name : Str} {e : DictEntry} {r : List DictEntry} (h : e.key.isStr name = true) : getL name (e :: r) = some (some e.val) := by
  unfold getL; simp [List.find?_cons, h]
theorem getL_tail {name : Str} {e : DictEntry} {r : List DictEntry} {v : Value} (h : e.key.isStr name = false) (k : getL name r = some (some v)) : getL name (e :: r) = some (some v) := by
  unfold getL at k ⊢
  simp only [List.find?_cons, h]
  cases hf : List.find? (fun x => x.key.isStr name) r with
  | some e' => rw [hf] at k; exact k
  | none => rw [hf] at k; dsimp only at k; split at k <;> cases k
theorem getL_put {name : Str} {hsh : Int} {t : Tok} {v : Value} : ∀ {es : List DictEntry}, getL name (putL name hsh (.str name t) v es) = some (some v)
  | [] => getL_head isStr_str
  | e :: r => by
    unfold putL
    cases hk : e.key.isStr name with
    | true => simp only [if_true]; exact getL_head hk
    | false => simp only [Bool.false_eq_true, if_false]; exact getL_tail hk getL_put
theorem getL_put_ne {name other : Str} {hsh : Int} {t : Tok} {v u : Value} (n : other ≠ name) : ∀ {es : List DictEntry}, getL other es = some (some u) → getL other (putL name hsh (.str name t) v es) = some (some u)
  | [], h => by simp [getL] at h
  | e :: r, h => by
    unfold putL
    rcases getL_cons other e r h with ⟨a, b⟩ | ⟨a, b⟩
    · have hn : e.key.isStr name = false := isStr_ne n a
      rw [hn]; simp only [Bool.false_eq_true, if_false]
      rw [← b]; exact getL_head a
    · cases hk : e.key.isStr name with
      | true => simp only [if_true]; exact getL_tail a b
      | false => simp only [Bool.false_eq_true, if_false]; exact getL_tail a (getL_put_ne n b)
theorem putL_len {name : Str} {hsh : Int} {k v u : Value} : ∀ {es : List DictEntry}, getL name es = some (some u) → (putL name hsh k v es).length = es.length
  | [], h => by simp [getL] at h
  | e :: r, h => by
    unfold putL
    rcases getL_cons name e r h with ⟨a, b⟩ | ⟨a, b⟩
    · rw [a]; simp
    · rw [a]; simp only [Bool.false_eq_true, if_false, List.length_cons]; rw [putL_len b]

section
variable {prog : Program} {w : World} {A : Around} {E : Value → Shared → Prop} {s : Shared} {K : Frag} {x C dx L : Addr} {h₀ : Heap} {m : Str → Option Value} {news : List (Addr × Obj)} {es : List DictEntry} {n : Nat} {name : Str} {v u : Value}
/-- a store into an object of the ledger -/
theorem set_led {Q : Unit → Shared → Prop} (F : Fr h₀ L s.heap m) (X₀ : K.In h₀) (N : News h₀ L s.heap news) (hx : (x, instObj C dx) ∈ news) (hd : (dx, dictOf es n) ∈ news)
    (hs : findIn K (.ref C) "__setattr__" = some (some (.builtin "object.__setattr__"))) (hp : plainOver K C = true) (ht : takerIn K C name = some none) (hh : hasDictIn K C = true) (hl : getL name es = some (some u)) (hz : es.length ≤ 20)
    (h : ∀ h' es' n', Fr h₀ L h' m → News h₀ L h' (setL dx (dictOf es' n') news) → es'.length ≤ 20 → getL name es' = some (some v) → (∀ other z, other ≠ name → getL other es = some (some z) → getL other es' = some (some z)) → Q () { s with heap := h', toks := s.toks + 2 }) :
    wpAny (model prog w) A (setAttr (.ref x) name v) Q E s := by
  have hl' := putL_len (hsh := PyData.keyHash w.params name) (k := .str name (s.toks + 1)) (v := v) hl
  refine set_dict (es := es) (n := n) F X₀ (news_setL N hd) (InstAt.of_news N hx hd) rfl hs hp ht hh (by rw [hl]; rfl) rfl setL_upd (by rw [hl']; omega) fun h' F' N' => ?_
  exact h h' _ _ F' N' (by rw [hl']; exact hz) getL_put fun other z ne hz => getL_put_ne ne hz
end
abbrev infoO (d : Addr) : Obj := instObj 52 d
theorem inst_ne_dict {h₀ h : Heap} {L x d C dx : Addr} {es : List DictEntry} {n : Nat} {l : List (Addr × Obj)} (N : News h₀ L h l) (hx : (x, instObj C dx) ∈ l) (hd : (d, dictOf es n) ∈ l) : x ≠ d := by
  intro e
  have h1 := (N _ hx).1
  have h2 := (N _ hd).1
  dsimp only at h1 h2
  rw [e, h2] at h1
  cases h1
theorem setL_setL {d : Addr} {o o' : Obj} {l : List (Addr × Obj)} : setL d o' (setL d o l) = setL d o' l := by
  unfold setL
  simp [List.filter_filter]

/-- an Info of the row -/
structure Inf where
  x : Addr
  d : Addr
  es : List DictEntry
  n : Nat
  g : Int
  c : Int
  u : Bool
  kind : Str
  lig : Int
structure Inf.Ok (i : Inf) : Prop where
  len : i.es.length ≤ 20
  glyph : ∃ t, getL "glyph" i.es = some (some (.int i.g t))
  cluster : ∃ t, getL "cluster" i.es = some (some (.int i.c t))
  uns : getL "is_unsafe" i.es = some (some (.bool i.u))
  kd : ∃ t, getL "kind" i.es = some (some (.str i.kind t))
  lg : ∃ t, getL "lig_count" i.es = some (some (.int i.lig t))
def Inf.In (i : Inf) (led : List (Addr × Obj)) : Prop := (i.x, infoO i.d) ∈ led ∧ (i.d, dictOf i.es i.n) ∈ led
/-- the same Info with another dict -/
def Inf.to (i : Inf) (es : List DictEntry) (n : Nat) (c : Int) (u : Bool) : Inf := { i with es := es, n := n, c := c, u := u }
structure InfAt (led : List (Addr × Obj)) (x : Addr) (i : Inf) : Prop where
  x : i.x = x
  ok : i.Ok
  at_ : i.In led
theorem InfAt.mono {a b : List (Addr × Obj)} {x : Addr} {i : Inf} (h : InfAt a x i) (k : ∀ q ∈ a, q ∈ b) : InfAt b x i := ⟨h.x, h.ok, k _ h.at_.1, k _ h.at_.2⟩
section
variable {prog : Program} {w : World} {A : Around} {E : Value → Shared → Prop} {s : Shared} {K : Frag} {x L : Addr} {h₀ : Heap} {m : Str → Option Value} {news : List (Addr × Obj)} {i : Inf} {expr : Bool} {Q : Value → Shared → Prop}
def ReadsOk (K : Frag) (name : Str) : Prop := ∃ attr, plainGet K 52 name = true ∧ hasDictIn K 52 = true ∧ findIn K (.ref 52) name = some attr ∧ noGet K attr = true
theorem ReadsOk.intro {K : Frag} {name : Str} {attr : Option Value} (a : plainGet K 52 name = true) (b : hasDictIn K 52 = true) (c : findIn K (.ref 52) name = some attr) (d : noGet K attr = true) : ReadsOk K name := ⟨attr, a, b, c, d⟩
theorem get_info {name : Str} {v : Value} (F : Fr h₀ L s.heap m) (X₀ : K.In h₀) (N : News h₀ L s.heap news) (r : ReadsOk K name) (I : InfAt news x i) (hl : getL name i.es = some (some v)) (hv : handedIn v = true) (h : Q v { s with toks := s.toks + 1 }) :
    wpAny (model prog w) A (getAttr (.ref x) name expr) Q E s := by
  obtain ⟨attr, a, b, c, d⟩ := r
  obtain ⟨rfl, ok, h1, h2⟩ := I
  exact get_own F X₀ (InstAt.of_news N h1 h2) a b c d hl hv h
theorem get_glyph (F : Fr h₀ L s.heap m) (X₀ : K.In h₀) (N : News h₀ L s.heap news) (r : ReadsOk K "glyph") (I : InfAt news x i) (h : ∀ t, Q (.int i.g t) { s with toks := s.toks + 1 }) :
    wpAny (model prog w) A (getAttr (.ref x) "glyph" expr) Q E s := let ⟨t, e⟩ := I.ok.glyph; get_info F X₀ N r I e rfl (h t)
theorem get_cluster (F : Fr h₀ L s.heap m) (X₀ : K.In h₀) (N : News h₀ L s.heap news) (r : ReadsOk K "cluster") (I : InfAt news x i) (h : ∀ t, Q (.int i.c t) { s with toks := s.toks + 1 }) :
    wpAny (model prog w) A (getAttr (.ref x) "cluster" expr) Q E s := let ⟨t, e⟩ := I.ok.cluster; get_info F X₀ N r I e rfl (h t)
theorem get_uns (F : Fr h₀ L s.heap m) (X₀ : K.In h₀) (N : News h₀ L s.heap news) (r : ReadsOk K "is_unsafe") (I : InfAt news x i) (h : Q (.bool i.u) { s with toks := s.toks + 1 }) :
    wpAny (model prog w) A (getAttr (.ref x) "is_unsafe" expr) Q E s := get_info F X₀ N r I I.ok.uns rfl h
theorem get_kind (F : Fr h₀ L s.heap m) (X₀ : K.In h₀) (N : News h₀ L s.heap news) (r : ReadsOk K "kind") (I : InfAt news x i) (h : ∀ t, Q (.str i.kind t) { s with toks := s.toks + 1 }) :
    wpAny (model prog w) A (getAttr (.ref x) "kind" expr) Q E s := let ⟨t, e⟩ := I.ok.kd; get_info F X₀ N r I e rfl (h t)
theorem get_lig (F : Fr h₀ L s.heap m) (X₀ : K.In h₀) (N : News h₀ L s.heap news) (r : ReadsOk K "lig_count") (I : InfAt news x i) (h : ∀ t, Q (.int i.lig t) { s with toks := s.toks + 1 }) :
    wpAny (model prog w) A (getAttr (.ref x) "lig_count" expr) Q E s := let ⟨t, e⟩ := I.ok.lg; get_info F X₀ N r I e rfl (h t)

def StoresOk (K : Frag) (name : Str) : Prop := findIn K (.ref 52) "__setattr__" = some (some (.builtin "object.__setattr__")) ∧ plainOver K 52 = true ∧ takerIn K 52 name = some none ∧ hasDictIn K 52 = true
theorem StoresOk.intro {K : Frag} {name : Str} (a : findIn K (.ref 52) "__setattr__" = some (some (.builtin "object.__setattr__"))) (b : plainOver K 52 = true) (c : takerIn K 52 name = some none) (d : hasDictIn K 52 = true) : StoresOk K name := ⟨a, b, c, d⟩
theorem set_clu {c : Int} {tk : Tok} {Q : Unit → Shared → Prop} (F : Fr h₀ L s.heap m) (X₀ : K.In h₀) (N : News h₀ L s.heap news) (r : StoresOk K "cluster") (I : InfAt news x i)
    (h : ∀ h' es' n', Fr h₀ L h' m → News h₀ L h' (setL i.d (dictOf es' n') news) → InfAt (setL i.d (dictOf es' n') news) x (i.to es' n' c i.u) → Q () { s with heap := h', toks := s.toks + 2 }) :
    wpAny (model prog w) A (setAttr (.ref x) "cluster" (.int c tk)) Q E s := by
  obtain ⟨a1, a2, a3, a4⟩ := r
  obtain ⟨rfl, ⟨hz, ⟨tg, gg⟩, ⟨tc, gc⟩, gu, ⟨tkd, gk⟩, ⟨tl, gl⟩⟩, h1, h2⟩ := I
  refine set_led F X₀ N h1 h2 a1 a2 a3 a4 gc hz fun h' es' n' F' N' z v o => h h' es' n' F' N' ?_
  exact ⟨rfl, ⟨z, ⟨tg, o _ _ (by decide) gg⟩, ⟨tk, v⟩, o _ _ (by decide) gu, ⟨tkd, o _ _ (by decide) gk⟩, ⟨tl, o _ _ (by decide) gl⟩⟩, mem_setL_ne h1 (inst_ne_dict N h1 h2), mem_setL_self⟩
theorem set_uns {u : Bool} {Q : Unit → Shared → Prop} (F : Fr h₀ L s.heap m) (X₀ : K.In h₀) (N : News h₀ L s.heap news) (r : StoresOk K "is_unsafe") (I : InfAt news x i)
    (h : ∀ h' es' n', Fr h₀ L h' m → News h₀ L h' (setL i.d (dictOf es' n') news) → InfAt (setL i.d (dictOf es' n') news) x (i.to es' n' i.c u) → Q () { s with heap := h', toks := s.toks + 2 }) :
    wpAny (model prog w) A (setAttr (.ref x) "is_unsafe" (.bool u)) Q E s := by
  obtain ⟨a1, a2, a3, a4⟩ := r
  obtain ⟨rfl, ⟨hz, ⟨tg, gg⟩, ⟨tc, gc⟩, gu, ⟨tkd, gk⟩, ⟨tl, gl⟩⟩, h1, h2⟩ := I
  refine set_led F X₀ N h1 h2 a1 a2 a3 a4 gu hz fun h' es' n' F' N' z v o => h h' es' n' F' N' ?_
  exact ⟨rfl, ⟨z, ⟨tg, o _ _ (by decide) gg⟩, ⟨tc, o _ _ (by decide) gc⟩, v, ⟨tkd, o _ _ (by decide) gk⟩, ⟨tl, o _ _ (by decide) gl⟩⟩, mem_setL_ne h1 (inst_ne_dict N h1 h2), mem_setL_self⟩
end
end Mine
end
section
open Mine
namespace Mine
theorem does_use {prog : Program} {w : World} {p : Program} {loose : List Str} {mean : ExcName → Option Value} {mg mb : Str → Option Value} {f : Addr} {args : List Value} {dd : Nat} {led : List (Addr × Obj)} {R : Value → List (Addr × Obj) → Prop}
    {dp un : Nat} {gd : Option (List Code)} {cn : Str} {cs : Scope} {a : Addr} {ccd : Value} {cl : List (Str × Addr)} {outer : List Env} {A₀ : Around} {base h₀ : Heap} {L : Addr} {m : Str → Option Value} {s : Shared} {Q E : Value → Shared → Prop}
    (C : Does prog w p loose mean mg mb f args dd led R) (B : Below A₀ base outer h₀) (F : Fr h₀ L s.heap m) (X : (Mine.hd.heap_39 w.params).In h₀) (N : News h₀ L s.heap led) (T : Top p loose mean mg mb h₀) (hk : cs.kind = .function) (hd : dp + dd < recursionLimit) (hu : un + 8 * dd < cLine)
    (ret : ∀ r led' h' tk', Fr h₀ L h' m → News h₀ L h' led' → R r led' → Q r { s with heap := h', toks := tk' }) :
    wpAny (model prog w) (ktrTop dp un gd cn cs L a ccd cl outer) (call (.ref f) args) Q E s := C _ _ _ _ _ _ _ _ _ _ _ _ _ _ _ _ _ B F X N T hk hd hu ret

/-- a while over a state of one's own -/
def WPost {σ : Type} (h₀ : Heap) (L : Addr) (s : Shared) (upd : σ → (Str → Option Value) → Str → Option Value) (m : Str → Option Value) (Inv : σ → List (Addr × Obj) → Prop) (μ : σ → Nat) (Q : Flow → Shared → Prop) (c : σ) (f : Flow) (s₃ : Shared) : Prop :=
  match f with
  | .next | .cont => ∃ h' tk m₂ news₂ c', s₃ = { s with heap := h', toks := tk } ∧ Fr h₀ L h' m₂ ∧ News h₀ L h' news₂ ∧ m₂ = upd c' m ∧ Inv c' news₂ ∧ μ c' < μ c
  | .brk => Q .next s₃
  | .ret v => Q (.ret v) s₃
theorem while_st {prog : Program} {w : World} {A : Around} {E : Value → Shared → Prop} {Q : Flow → Shared → Prop} {s : Shared} {env : Env} {h₀ : Heap} {L : Addr} {test : PySem.Expr} {body : List Stmt} {pos : Pos} {m : Str → Option Value} {news : List (Addr × Obj)}
    {σ : Type} (upd : σ → (Str → Option Value) → Str → Option Value) (Inv : σ → List (Addr × Obj) → Prop) (μ : σ → Nat) (c₀ : σ) (F : Fr h₀ L s.heap m) (N : News h₀ L s.heap news) (hm : m = upd c₀ m) (hI : Inv c₀ news)
    (turn : ∀ c nx h tk, Inv c nx → Fr h₀ L h (upd c m) → News h₀ L h nx →
      wpAny (model prog w) A (isTrue test env (eval test env)) (fun b s₂ => if b = true then wpAny (model prog w) A (execs body env) (WPost h₀ L s upd m Inv μ Q c) E s₂ else Q .next s₂) E { s with heap := h, toks := tk })
    (hE : PassesOwn (model prog w) A env E := by passes_own) :
    wpAny (model prog w) A (exec (.While test body [] pos) env) Q E s := by
  refine While_inv2 (fun n mm nx => ∃ c : σ, mm = upd c m ∧ Inv c nx ∧ n = μ c) F N ⟨c₀, hm, hI, rfl⟩ ?_ hE
  rintro n m₁ nx h tk F₁ N₁ ⟨c, rfl, hI, rfl⟩
  refine wpAny_mono (turn c nx h tk hI F₁ N₁) (fun b s₂ q => ?_) fun _ _ x => x
  cases b with
  | false => simpa using q
  | true =>
    simp only [if_true] at q ⊢
    refine wpAny_mono q (fun f s₃ q => ?_) fun _ _ x => x
    cases f with
    | ret v => exact q
    | brk => exact q
    | next =>
      obtain ⟨h', tk', m₂, news₂, c', e, F₂, N₂, em, I', lt⟩ := q
      exact ⟨h', tk', m₂, news₂, _, e, F₂, N₂, lt, c', em, I', rfl⟩
    | cont =>
      obtain ⟨h', tk', m₂, news₂, c', e, F₂, N₂, em, I', lt⟩ := q
      exact ⟨h', tk', m₂, news₂, _, e, F₂, N₂, lt, c', em, I', rfl⟩
theorem wpost_next {σ : Type} {h₀ : Heap} {L : Addr} {s : Shared} {upd : σ → (Str → Option Value) → Str → Option Value} {m m₂ : Str → Option Value} {Inv : σ → List (Addr × Obj) → Prop} {μ : σ → Nat} {Q : Flow → Shared → Prop} {c : σ} {h' : Heap} {tk : Nat} {news₂ : List (Addr × Obj)}
    (F : Fr h₀ L h' m₂) (N : News h₀ L h' news₂) (c' : σ) (em : m₂ = upd c' m) (hI : Inv c' news₂) (lt : μ c' < μ c) : WPost h₀ L s upd m Inv μ Q c .next { s with heap := h', toks := tk } :=
  ⟨h', tk, m₂, news₂, c', rfl, F, N, em, hI, lt⟩

/-- what a call leaves as it was -/
def Keeps (ds : List Addr) (a b : List (Addr × Obj)) : Prop := ∀ q ∈ a, q.1 ∉ ds → q ∈ b
theorem Keeps.refl (ds : List Addr) (a : List (Addr × Obj)) : Keeps ds a a := fun _ h _ => h
theorem Keeps.trans {ds : List Addr} {a b c : List (Addr × Obj)} (h : Keeps ds a b) (k : Keeps ds b c) : Keeps ds a c := fun q hq n => k q (h q hq n) n
theorem Keeps.sub {ds : List Addr} {a a' b : List (Addr × Obj)} (h : Keeps ds a b) (k : ∀ q ∈ a', q ∈ a) : Keeps ds a' b := fun q hq n => h q (k q hq) n
theorem keeps_setL {ds : List Addr} {d : Addr} {o : Obj} {l : List (Addr × Obj)} (h : d ∈ ds) : Keeps ds l (setL d o l) := fun q hq n => mem_setL_ne hq fun e => n (e ▸ h)

def refs (rows : List Inf) : List Value := rows.map fun i => .ref i.x
/-- a row of Infos, borne by the ledger -/
structure RowAt (led : List (Addr × Obj)) (l : Addr) (rows : List Inf) : Prop where
  list : ∃ nn, (l, listOf (refs rows).toArray nn) ∈ led
  inf : ∀ i ∈ rows, InfAt led i.x i
  nd : (rows.map Inf.d).Nodup
  xd : ∀ i ∈ rows, ∀ j ∈ rows, i.x ≠ j.d
  ld : ∀ i ∈ rows, l ≠ i.d
/-- what the law sees of an Info -/
structure Cel where
  g : Int
  c : Int
  u : Bool
  h : Bool
def Inf.id (i : Inf) : Addr × Addr := (i.x, i.d)
def Inf.hid (i : Inf) : Bool := !(i.kind == "") && (i.lig == 0)
def Inf.cel (i : Inf) : Cel := ⟨i.g, i.c, i.u, i.hid⟩
abbrev ids (rows : List Inf) := rows.map Inf.id
abbrev cels (rows : List Inf) := rows.map Inf.cel
abbrev dsOf (rows : List Inf) := rows.map Inf.d
theorem to_cel {i : Inf} {es : List DictEntry} {n : Nat} {c : Int} {u : Bool} : (i.to es n c u).cel = { i.cel with c := c, u := u } := rfl

theorem ids_d {a b : List Inf} (h : ids a = ids b) : a.map Inf.d = b.map Inf.d := by
  have := congrArg (List.map fun k => k.2) h
  simpa [ids, List.map_map, Function.comp_def, Inf.id] using this
theorem ids_x {a b : List Inf} (h : ids a = ids b) : a.map Inf.x = b.map Inf.x := by
  have := congrArg (List.map fun k => k.1) h
  simpa [ids, List.map_map, Function.comp_def, Inf.id] using this
theorem ids_refs {a b : List Inf} (h : ids a = ids b) : refs a = refs b := by
  have := congrArg (List.map fun x => Value.ref x) (ids_x h)
  simpa [refs, List.map_map, Function.comp_def] using this
theorem ids_len {a b : List Inf} (h : ids a = ids b) : a.length = b.length := by
  have := congrArg List.length h
  simpa [ids] using this
theorem set_ids {rows : List Inf} {j : Nat} {i i' : Inf} (h : rows[j]? = some i) (e : i'.id = i.id) : ids (rows.set j i') = ids rows := by
  unfold ids
  rw [List.map_set, e]
  apply List.ext_getElem?
  intro k
  rw [List.getElem?_set]
  have hlt := (List.getElem?_eq_some_iff.mp h).1
  by_cases hj : j = k
  · subst hj
    rw [List.getElem?_map, h]
    simp [hlt]
  · simp [hj]
theorem set_cels {rows : List Inf} {j : Nat} {i' : Inf} : cels (rows.set j i') = (cels rows).set j i'.cel := by unfold cels; rw [List.map_set]

theorem RowAt.set {led : List (Addr × Obj)} {l : Addr} {rows : List Inf} {j : Nat} {i : Inf} {es : List DictEntry} {n : Nat} {c : Int} {u : Bool} (R : RowAt led l rows) (hj : rows[j]? = some i)
    (I : InfAt (setL i.d (dictOf es n) led) i.x (i.to es n c u)) : RowAt (setL i.d (dictOf es n) led) l (rows.set j (i.to es n c u)) := by
  have hmem : i ∈ rows := List.mem_of_getElem? hj
  have hlt := (List.getElem?_eq_some_iff.mp hj).1
  have hk : ids (rows.set j (i.to es n c u)) = ids rows := set_ids hj rfl
  have memK : ∀ a ∈ rows.set j (i.to es n c u), ∃ b ∈ rows, b.x = a.x ∧ b.d = a.d := fun a ha => by
    rcases List.mem_or_eq_of_mem_set ha with h | h
    · exact ⟨a, h, rfl, rfl⟩
    · subst h; exact ⟨i, hmem, rfl, rfl⟩
  refine ⟨?_, ?_, ?_, ?_, ?_⟩
  · obtain ⟨nn, h⟩ := R.list
    exact ⟨nn, by rw [ids_refs hk]; exact mem_setL_ne h (R.ld i hmem)⟩
  · intro a ha
    obtain ⟨k, hk'⟩ := List.getElem?_of_mem ha
    rw [List.getElem?_set] at hk'
    by_cases hne : j = k
    · subst hne
      simp [hlt] at hk'
      subst hk'; exact I
    · simp only [hne, if_false] at hk'
      have ha' : a ∈ rows := List.mem_of_getElem? hk'
      have J := R.inf a ha'
      refine ⟨rfl, J.ok, mem_setL_ne J.at_.1 (R.xd a ha' i hmem), mem_setL_ne J.at_.2 fun e => hne ?_⟩
      have h1 : (rows.map Inf.d)[k]? = some a.d := by simp [hk']
      have h2 : (rows.map Inf.d)[j]? = some i.d := by simp [hj]
      have hk2 := (List.getElem?_eq_some_iff.mp hk').1
      exact ((List.getElem?_inj (by simpa using hlt) R.nd).mp (by rw [h1, h2, e]))
  · rw [ids_d hk]; exact R.nd
  · intro a ha b hb
    obtain ⟨a', ha', e1, -⟩ := memK a ha
    obtain ⟨b', hb', -, e2⟩ := memK b hb
    rw [← e1, ← e2]; exact R.xd a' ha' b' hb'
  · intro a ha
    obtain ⟨a', ha', -, e2⟩ := memK a ha
    rw [← e2]; exact R.ld a' ha'

def ItemAt (rows : List Inf) (z : Int) (i : Inf) : Prop := ∃ k : Nat, z = (k : Int) ∧ rows[k]? = some i
theorem ItemAt.mem {rows : List Inf} {z : Int} {i : Inf} (h : ItemAt rows z i) : i ∈ rows := let ⟨_, _, e⟩ := h; List.mem_of_getElem? e
section
variable {prog : Program} {w : World} {A : Around} {E : Value → Shared → Prop} {s : Shared} {L l : Addr} {h₀ : Heap} {m : Str → Option Value} {news : List (Addr × Obj)} {i : Inf} {rows : List Inf}
theorem item_row {value slice : PySem.Expr} {z : Int} {u : Tok} {Q : Value → Shared → Prop} (N : News h₀ L s.heap news) (R : RowAt news l rows) (hz : ItemAt rows z i) (hfit : rows.length ≤ 1000) (h : Q (.ref i.x) s)
    (hs : subscripted slice false (.ref l) (.int z u) = operate [.ref l, .int z u] (getItem (.ref l) (.int z u)) := by with_unfolding_all rfl) :
    wpAny (model prog w) A (subscriptTail value slice (.ref l) (.int z u)) Q E s := by
  obtain ⟨k, rfl, hk⟩ := hz
  obtain ⟨nn, hl⟩ := R.list
  have hL : s.heap.IsList l (refs rows).toArray := PySem.IsL.isList (n := nn) (N _ hl).1
  have hlt := (List.getElem?_eq_some_iff.mp hk).1
  exact tail_any hL.typeIs slot_list_getitem.lookup (wpAny_getItem_list hL (by omega) (by omega) (x := .ref i.x) (by simp [refs, hk]) h) hs
theorem len_row {Q : Value → Shared → Prop} (N : News h₀ L s.heap news) (R : RowAt news l rows) (hfit : rows.length ≤ 1000) (h : ∀ t, Q (.int (rows.length : Nat) t) { s with toks := s.toks + 1 + 1 }) :
    wpAny (model prog w) A (call (.builtin "len") [.ref l]) Q E s := by
  obtain ⟨nn, hl⟩ := R.list
  have hL : s.heap.IsList l (refs rows).toArray := PySem.IsL.isList (n := nn) (N _ hl).1
  have hsz : (refs rows).toArray.size = rows.length := by simp [refs]
  refine len_list hL (by rw [hsz]; omega) ?_
  rw [hsz]; exact h _
end
end Mine
namespace Mine
/-- the walk stands still here -/
def Halt (P : Prop) : Prop := P
theorem Halt.go {P : Prop} (h : Halt P) : P := h
end Mine
end
section
open Mine
namespace Mine
/-- what the statements from a place on do, kept for every way that comes there -/
inductive Rest (prog : Program) (w : World) (A : Around) (sts : List Stmt) (env : Env) (Q : Flow → Shared → Prop) (E : Value → Shared → Prop) (P : (Shared → Prop) → Prop) : Prop
  | mk (h : P fun s => wpAny (model prog w) A (execs sts env) Q E s)
section
variable {prog : Program} {w : World} {A : Around} {sts : List Stmt} {env : Env} {Q : Flow → Shared → Prop} {E : Value → Shared → Prop} {P : (Shared → Prop) → Prop} {s : Shared}
theorem Rest.get : Rest prog w A sts env Q E P → P fun s => wpAny (model prog w) A (execs sts env) Q E s
  | .mk h => h
theorem Rest.stop (_ : Rest prog w A sts env Q E P) (h : Halt (wpAny (model prog w) A (execs sts env) Q E s)) : wpAny (model prog w) A (execs sts env) Q E s := h
theorem cut_at (k : Nat) (P : (Shared → Prop) → Prop) (suf : P fun s' => wpAny (model prog w) A (execs (sts.drop k) env) Q E s')
    (walk : Rest prog w A (sts.drop k) env Q E P → wpAny (model prog w) A (execs sts env) Q E s) : wpAny (model prog w) A (execs sts env) Q E s := walk ⟨suf⟩
end
end Mine
end
section
open Mine
namespace Mine
def GPost (h₀ : Heap) (L l : Addr) (lo : Obj) (I : Addr) (oI : Obj) (J : (Str → Option Value) → List (Addr × Obj) → Prop) (s₁ : Shared) (Q : Flow → Shared → Prop) (f : Flow) (s₂ : Shared) : Prop :=
  match f with
  | .ret v => Q (.ret v) s₂
  | .brk => Q .next s₂
  | _ => ∃ h' tk m' nx, s₂ = { s₁ with heap := h', toks := tk } ∧ Fr h₀ L h' m' ∧ News h₀ L h' ((I, oI) :: nx) ∧ (∀ q ∈ nx, q.1 ≠ I) ∧ (l, lo) ∈ nx ∧ J m' nx
theorem gpost_next {h₀ : Heap} {L l I : Addr} {lo oI : Obj} {J : (Str → Option Value) → List (Addr × Obj) → Prop} {s₁ : Shared} {Q : Flow → Shared → Prop} {h' : Heap} {tk : Nat} {m' : Str → Option Value} {nx : List (Addr × Obj)}
    (F : Fr h₀ L h' m') (N : News h₀ L h' ((I, oI) :: nx)) (off : ∀ q ∈ nx, q.1 ≠ I) (hl : (l, lo) ∈ nx) (hJ : J m' nx) : GPost h₀ L l lo I oI J s₁ Q .next { s₁ with heap := h', toks := tk } := ⟨h', tk, m', nx, rfl, F, N, off, hl, hJ⟩
section
variable {prog : Program} {w : World} {A : Around} {E : Value → Shared → Prop} {s : Shared} {env : Env} {h₀ : Heap} {x : Str} {body : List Stmt} {Q : Flow → Shared → Prop}
/-- a for over a list of the ledger -/
theorem iter_gen2 {l : Addr} {vs : List Value} {nn : Nat} {m₀ : Str → Option Value} {news : List (Addr × Obj)} (J : Nat → (Str → Option Value) → List (Addr × Obj) → Prop)
    (hh : A.handled = none) (hl : (l, listOf vs.toArray nn) ∈ news) (F : Fr h₀ env.locals s.heap m₀) (N : News h₀ env.locals s.heap news) (hj : J 0 m₀ news)
    (turn : ∀ i v m₁ nx I oI h tk, vs[i]? = some v → J i m₁ nx → (l, listOf vs.toArray nn) ∈ nx → (∀ q ∈ nx, q.1 ≠ I) → oI.cls = .type "list_iterator" → Fr h₀ env.locals h (fun y => if y = x then some v else m₁ y) → News h₀ env.locals h ((I, oI) :: nx) →
      wpAny (model prog w) A (execs body env) (GPost h₀ env.locals l (listOf vs.toArray nn) I oI (J (i + 1)) { s with heap := h, toks := tk } Q) E { s with heap := h, toks := tk })
    (done : ∀ m₁ nx h tk, J vs.length m₁ nx → Fr h₀ env.locals h m₁ → News h₀ env.locals h nx → Q .next { s with heap := h, toks := tk }) :
    wpAny (model prog w) A (pyIter (.ref l)) (fun it s₂ => LoopAtV prog w A h₀ env x body Q E it s₂) E s := by
  have hol : s.heap.get? l = some (listOf vs.toArray nn) := (N _ hl).1
  have hls : s.heap.IsList l vs.toArray := ⟨_, hol, rfl, nn, rfl⟩
  have hne : l ≠ s.heap.objs.size := Nat.ne_of_lt (Heap.lt_size hol)
  refine wpAny_pyIter_list hls ?_
  have W := Walks.list (prog := prog) (w := w) hh s.heap.objs.size l hne vs.toArray
  have hlen : vs.toArray.size = vs.length := by simp
  rw [hlen] at W
  refine ⟨_, _, _, vs.length, _, _, m₀, news, (fun i m nx => (l, listOf vs.toArray nn) ∈ nx ∧ J i m nx), rfl, W, ?_, ?_, ?_, ⟨⟨_, Heap.get?_push_size _ rfl, rfl, rfl⟩, hls.at fun o e => Heap.get?_push_of_some _ e⟩, F.push _, (fun p hp => ⟨Heap.get?_push_of_some _ (N p hp).1, (N p hp).2⟩), ⟨hl, hj⟩, ?_, ?_⟩
  · intro hm
    rcases List.mem_cons.mp hm with e | hm
    · exact absurd F.ns.lt (e ▸ Nat.lt_irrefl _)
    · exact (N _ hl).2.1 ((List.mem_singleton.mp hm).symm)
  · intro b hb
    rw [List.mem_singleton.mp hb]
    exact next_is_new F
  · intro p hp hI
    exact absurd (Heap.lt_size (N p hp).1) ((List.mem_singleton.mp hI) ▸ Nat.lt_irrefl _)
  · rintro i v m₁ nx s₁ own ⟨hh', tk', rfl⟩ hin hP ⟨hl₁, hJ⟩ hoff hown hget hfp st F₁ N₁
    have hPv : vs[i]? = some v := by simpa using hP
    obtain ⟨oI, heI, hcI, -⟩ := st.1
    have hI₀ : h₀.get? s.heap.objs.size = none := next_is_new F
    have hIown : (s.heap.objs.size, oI) ∈ own := hfp _ (W.sub _ (List.mem_singleton.mpr rfl)) hI₀ oI heI
    have N₂ : News h₀ env.locals hh' ((s.heap.objs.size, oI) :: nx) := fun p hp => by
      rcases List.mem_cons.mp hp with rfl | hp
      · exact N₁ _ (List.mem_append_left _ hIown)
      · exact N₁ p (List.mem_append_right _ hp)
    have hlo : hh'.get? l = some (listOf vs.toArray nn) := (N₂ _ (List.mem_cons_of_mem _ hl₁)).1
    refine wpAny_mono (turn i v m₁ nx s.heap.objs.size oI hh' tk' hPv hJ hl₁ (fun q hq e => hoff q hq (List.mem_singleton.mpr e)) hcI F₁ N₂) (fun f s₂ p => ?_) fun _ _ e => e
    have fin : (∃ h' tk m' nx, s₂ = { s with heap := h', toks := tk } ∧ Fr h₀ env.locals h' m' ∧ News h₀ env.locals h' ((s.heap.objs.size, oI) :: nx) ∧ (∀ q ∈ nx, q.1 ≠ s.heap.objs.size) ∧ (l, listOf vs.toArray nn) ∈ nx ∧ J (i + 1) m' nx) →
        LoopStepU h₀ env.locals [s.heap.objs.size] own (fun m nx => (l, listOf vs.toArray nn) ∈ nx ∧ J (i + 1) m nx) { s with heap := hh', toks := tk' } .next s₂ := by
      rintro ⟨h', tk, m', nx', rfl, F', N', off', hl', hJ'⟩
      refine ⟨rfl, h', tk, m', nx', rfl, F', fun p hp => ?_, fun p hp hI => off' p hp (List.mem_singleton.mp hI), hl', hJ'⟩
      rcases List.mem_append.mp hp with h | h
      · have h2 : hh'.get? p.1 = some p.2 := hget p h
        rcases List.mem_cons.mp (hown p h) with h1 | h1
        · rw [h1, heI] at h2
          have h3 : p = (s.heap.objs.size, oI) := Prod.ext h1 (Option.some.inj h2).symm
          rw [h3]; exact N' _ List.mem_cons_self
        · have h1 := List.mem_singleton.mp h1
          rw [h1, hlo] at h2
          have h3 : p = (l, listOf vs.toArray nn) := Prod.ext h1 (Option.some.inj h2).symm
          rw [h3]; exact N' _ (List.mem_cons_of_mem _ hl')
      · exact N' p (List.mem_cons_of_mem _ h)
    cases f with
    | ret v => exact .ret p
    | brk => exact .brk p
    | next => exact .next (fin p)
    | cont => exact .cont (fin p)
  · rintro h' tk m' news' F' N' _ ⟨_, hJ⟩
    exact done m' news' h' tk hJ F' N'
/-- the same, where the body stores no other name -/
theorem iter_led {l : Addr} {vs : List Value} {nn : Nat} {m₀ : Str → Option Value} {news : List (Addr × Obj)} (J : Nat → List (Addr × Obj) → Prop)
    (hh : A.handled = none) (hl : (l, listOf vs.toArray nn) ∈ news) (F : Fr h₀ env.locals s.heap m₀) (N : News h₀ env.locals s.heap news) (hj : J 0 news)
    (turn : ∀ i v nx I oI h tk, vs[i]? = some v → J i nx → (l, listOf vs.toArray nn) ∈ nx → (∀ q ∈ nx, q.1 ≠ I) → Fr h₀ env.locals h (fun y => if y = x then some v else m₀ y) → News h₀ env.locals h ((I, oI) :: nx) →
      wpAny (model prog w) A (execs body env) (GPost h₀ env.locals l (listOf vs.toArray nn) I oI (fun m nx => (∀ y, y ≠ x → m y = m₀ y) ∧ J (i + 1) nx) { s with heap := h, toks := tk } Q) E { s with heap := h, toks := tk })
    (done : ∀ (u : Str → Option Value) nx h tk, J vs.length nx → Fr h₀ env.locals h (fun y => if y = x then u y else m₀ y) → News h₀ env.locals h nx → Q .next { s with heap := h, toks := tk }) :
    wpAny (model prog w) A (pyIter (.ref l)) (fun it s₂ => LoopAtV prog w A h₀ env x body Q E it s₂) E s := by
  refine iter_gen2 (fun i m nx => (∀ y, y ≠ x → m y = m₀ y) ∧ J i nx) hh hl F N ⟨fun _ _ => rfl, hj⟩ ?_ ?_
  · rintro i v m₁ nx I oI h tk hv ⟨hm, hJ⟩ hl₁ off _ F₁ N₁
    have e : (fun y => if y = x then some v else m₁ y) = fun y => if y = x then some v else m₀ y := by
      funext y; by_cases hy : y = x <;> simp [hy]; exact hm y hy
    rw [e] at F₁
    exact turn i v nx I oI h tk hv hJ hl₁ off F₁ N₁
  · rintro m₁ nx h tk ⟨hm, hJ⟩ F₁ N₁
    refine done m₁ nx h tk hJ ?_ N₁
    have e : (fun y => if y = x then m₁ y else m₀ y) = m₁ := by
      funext y; by_cases hy : y = x <;> simp [hy]; exact (hm y hy).symm
    rw [e]; exact F₁
end
end Mine
end
section
open Mine
namespace Mine
theorem RowAt.mono {a b : List (Addr × Obj)} {l : Addr} {rows : List Inf} (R : RowAt a l rows) (k : ∀ q ∈ a, q ∈ b) : RowAt b l rows :=
  ⟨let ⟨n, h⟩ := R.list; ⟨n, k _ h⟩, fun i hi => (R.inf i hi).mono k, R.nd, R.xd, R.ld⟩
theorem RowAt.cons {q : Addr × Obj} {a : List (Addr × Obj)} {l : Addr} {rows : List Inf} (R : RowAt a l rows) : RowAt (q :: a) l rows := R.mono fun _ h => List.mem_cons_of_mem _ h
theorem InfAt.cons {q : Addr × Obj} {a : List (Addr × Obj)} {x : Addr} {i : Inf} (R : InfAt a x i) : InfAt (q :: a) x i := R.mono fun _ h => List.mem_cons_of_mem _ h
/-- the Buffer -/
structure BufAt (led : List (Addr × Obj)) (b bd l : Addr) : Prop where
  inst : (b, instObj 105 bd) ∈ led
  dict : ∃ es n, (bd, dictOf es n) ∈ led ∧ getL "row" es = some (some (.ref l))
theorem BufAt.mono {a a' : List (Addr × Obj)} {b bd l : Addr} (R : BufAt a b bd l) (k : ∀ q ∈ a, q ∈ a') : BufAt a' b bd l := ⟨k _ R.inst, let ⟨es, n, h, e⟩ := R.dict; ⟨es, n, k _ h, e⟩⟩
theorem BufAt.cons {q : Addr × Obj} {a : List (Addr × Obj)} {b bd l : Addr} (R : BufAt a b bd l) : BufAt (q :: a) b bd l := R.mono fun _ h => List.mem_cons_of_mem _ h
theorem BufAt.keeps {ds : List Addr} {a a' : List (Addr × Obj)} {b bd l : Addr} (R : BufAt a b bd l) (k : Keeps ds a a') (h1 : b ∉ ds) (h2 : bd ∉ ds) : BufAt a' b bd l :=
  ⟨k _ R.inst h1, let ⟨es, n, h, e⟩ := R.dict; ⟨es, n, k _ h h2, e⟩⟩

theorem sliceBounds_ab (a b n : Nat) : sliceBounds (some (a : Int)) (some (b : Int)) none n = (((min a n : Nat) : Int), ((min b n : Nat) : Int), 1) := by
  simp only [sliceBounds, Option.getD_none, show (1 : Int) > 0 by decide, if_true, if_neg (show ¬ ((a : Int) < 0) by omega), if_neg (show ¬ ((b : Int) < 0) by omega)]
  congr 1
  · omega
  · congr 1; omega
theorem drop_min' {α : Type} (l : List α) (a : Nat) : l.drop (min a l.length) = l.drop a := kmk_drop_min l a
theorem pick_ab (vs : List Value) (a b : Nat) : slicePick vs.toArray (some (a : Int)) (some (b : Int)) none = ((vs.drop a).take (b - a)).toArray := by
  rw [kmk_pick_nat vs.toArray (sliceBounds_ab a b vs.toArray.size)]
  simp only [List.size_toArray]
  rw [kmk_drop_min]
  congr 1
  apply List.ext_getElem?
  intro k
  simp only [List.getElem?_take, List.getElem?_drop]
  by_cases h : a + k < vs.length
  · by_cases h1 : k < b - a
    · rw [if_pos (by omega), if_pos h1]
    · rw [if_neg (by omega), if_neg h1]
  · rw [List.getElem?_eq_none (by omega)]; split <;> split <;> rfl
theorem pick_a (vs : List Value) (a : Nat) : slicePick vs.toArray (some (a : Int)) none none = (vs.drop a).toArray := by
  have e : sliceBounds (some (a : Int)) none none vs.toArray.size = (((min a vs.toArray.size : Nat) : Int), ((vs.toArray.size : Nat) : Int), 1) := by
    simp only [sliceBounds, Option.getD_none, show (1 : Int) > 0 by decide, if_true, if_neg (show ¬ ((a : Int) < 0) by omega)]
    congr 1
    omega
  rw [kmk_pick_nat _ e]
  simp only [List.size_toArray]
  rw [kmk_drop_min, List.take_of_length_le (by rw [List.length_drop]; omega)]
theorem pick_b (vs : List Value) (b : Nat) : slicePick vs.toArray none (some (b : Int)) none = (vs.take b).toArray := by
  have e : sliceBounds none (some (b : Int)) none vs.toArray.size = (((0 : Nat) : Int), ((min b vs.toArray.size : Nat) : Int), 1) := by
    simp only [sliceBounds, Option.getD_none, show (1 : Int) > 0 by decide, if_true, if_neg (show ¬ ((b : Int) < 0) by omega)]
    congr 1
    congr 1
    omega
  rw [kmk_pick_nat _ e]
  show ((vs.drop 0).take (min b vs.toArray.size - 0)).toArray = _
  rw [List.drop_zero, Nat.sub_zero, List.size_toArray, kmk_take_min]
theorem pick_last (vs : List Value) : slicePick vs.toArray (some (-1 : Int)) none none = (vs.drop (vs.length - 1)).toArray := by
  have e : sliceBounds (some (-1 : Int)) none none vs.toArray.size = (((vs.length - 1 : Nat) : Int), ((vs.toArray.size : Nat) : Int), 1) := by
    simp only [sliceBounds, Option.getD_none, show (1 : Int) > 0 by decide, if_true, show ((-1 : Int) < 0) by decide, List.size_toArray]
    congr 1
    omega
  rw [kmk_pick_nat _ e]
  simp only [List.size_toArray]
  rw [List.take_of_length_le (by rw [List.length_drop]; omega)]
theorem pick_butlast (vs : List Value) : slicePick vs.toArray none (some (-1 : Int)) none = (vs.take (vs.length - 1)).toArray := by
  have e : sliceBounds none (some (-1 : Int)) none vs.toArray.size = (((0 : Nat) : Int), ((vs.length - 1 : Nat) : Int), 1) := by
    simp only [sliceBounds, Option.getD_none, show (1 : Int) > 0 by decide, if_true, show ((-1 : Int) < 0) by decide, List.size_toArray]
    congr 1
    congr 1
    omega
  rw [kmk_pick_nat _ e]
  show ((vs.drop 0).take (vs.length - 1 - 0)).toArray = _
  rw [List.drop_zero, Nat.sub_zero]
section
variable {prog : Program} {w : World} {A : Around} {E : Value → Shared → Prop} {s : Shared} {K : Frag} {L l b bd : Addr} {h₀ : Heap} {m : Str → Option Value} {news : List (Addr × Obj)}
theorem slice_led {value slice : PySem.Expr} {zs vs : List Value} {nn : Nat} {vl vu : Value} {lo hi : Option Int} {Q : Value → Shared → Prop} (F : Fr h₀ L s.heap m) (N : News h₀ L s.heap news) (hl : (l, listOf vs.toArray nn) ∈ news) (pl : IsPart vl lo) (pu : IsPart vu hi) (e : slicePick vs.toArray lo hi none = zs.toArray) (hz : vs.length ≤ 1000)
    (h : ∀ D h', Fr h₀ L h' m → News h₀ L h' ((D, listOf zs.toArray 0) :: news) → (∀ p ∈ news, p.1 < D) → Q (.ref D) { s with heap := h' })
    (hs : subscripted slice false (.ref l) (.ref s.heap.objs.size) = operate [.ref s.heap.objs.size, .ref l] (getItem (.ref l) (.ref s.heap.objs.size))) (ht : ∀ r, letTemporaryGo value (.ref l) r = pure ()) :
    wpAny (model prog w) A (subscriptTail value slice (.ref l) (.ref s.heap.objs.size)) Q E { s with heap := s.heap.push { cls := .type "slice", data := .fields #[vl, vu, .none] } } :=
  kmk_slice_lit F N (PySem.IsL.isList (n := nn) (N _ hl).1) pl pu (by rw [e]) h hs ht (by rw [sizeLine_eq, List.size_toArray]; omega)
theorem get_row {expr : Bool} {attr : Option Value} {Q : Value → Shared → Prop} (F : Fr h₀ L s.heap m) (X₀ : K.In h₀) (N : News h₀ L s.heap news) (B : BufAt news b bd l) (a1 : plainGet K 105 "row" = true) (a2 : hasDictIn K 105 = true) (a3 : findIn K (.ref 105) "row" = some attr) (a4 : noGet K attr = true) (h : Q (.ref l) { s with toks := s.toks + 1 }) :
    wpAny (model prog w) A (getAttr (.ref b) "row" expr) Q E s := by
  obtain ⟨h1, es, n, h2, e⟩ := B
  exact get_own F X₀ (InstAt.of_news N h1 h2) a1 a2 a3 a4 e rfl h
end
end Mine
namespace Mine
theorem list_ne_dict {h₀ h : Heap} {L x d : Addr} {its : Array Value} {k : Nat} {es : List DictEntry} {n : Nat} {l : List (Addr × Obj)} (N : News h₀ L h l) (hx : (x, listOf its k) ∈ l) (hd : (d, dictOf es n) ∈ l) : x ≠ d := by
  intro e
  have h1 := (N _ hx).1
  have h2 := (N _ hd).1
  dsimp only at h1 h2
  rw [e, h2] at h1
  exact absurd (congrArg Obj.cls (Option.some.inj h1)) (by simp)
theorem setL_cons_sub {d I : Addr} {o oI : Obj} {nx : List (Addr × Obj)} (h : I ≠ d) : ∀ q ∈ (I, oI) :: setL d o nx, q ∈ setL d o ((I, oI) :: nx) := fun q hq => by
  unfold setL at *
  have : ((I, oI) :: nx).filter (fun q => q.1 != d) = (I, oI) :: nx.filter (fun q => q.1 != d) := by simp [h]
  rw [this]
  simp only [List.mem_cons] at *
  rcases hq with h | h | h
  · exact .inr (.inl h)
  · exact .inl h
  · exact .inr (.inr h)
theorem setL_off {d I : Addr} {o : Obj} {nx : List (Addr × Obj)} (h : d ≠ I) (off : ∀ q ∈ nx, q.1 ≠ I) : ∀ q ∈ setL d o nx, q.1 ≠ I := fun q hq => by
  rcases List.mem_cons.mp hq with rfl | hq
  · exact h
  · exact off q (List.mem_filter.mp hq).1
theorem InfAt.shrink {nx nx' : List (Addr × Obj)} {x : Addr} {i : Inf} {es : List DictEntry} {n : Nat} {c : Int} {u : Bool} (I : InfAt nx i.x i) (ne : i.x ≠ i.d) (I' : InfAt nx' x (i.to es n c u)) : InfAt (setL i.d (dictOf es n) nx) i.x (i.to es n c u) :=
  ⟨rfl, I'.ok, mem_setL_ne I.at_.1 ne, mem_setL_self⟩
def mapFirst (f : Cel → Cel) : Nat → List Cel → List Cel
  | 0, l => l
  | _ + 1, [] => []
  | n + 1, a :: r => f a :: mapFirst f n r
theorem mapFirst_get (f : Cel → Cel) : ∀ (n : Nat) (l : List Cel) (k : Nat), (mapFirst f n l)[k]? = if k < n then (l[k]?).map f else l[k]?
  | 0, l, k => by simp [mapFirst]
  | n + 1, [], k => by simp [mapFirst]
  | n + 1, a :: r, 0 => by simp [mapFirst]
  | n + 1, a :: r, k + 1 => by
    simp only [mapFirst, List.getElem?_cons_succ]
    rw [mapFirst_get f n r k]
    simp
theorem mapFirst_succ (f : Cel → Cel) {n : Nat} {l : List Cel} {a : Cel} (h : l[n]? = some a) : (mapFirst f n l).set n (f a) = mapFirst f (n + 1) l := by
  apply List.ext_getElem?
  intro k
  rw [List.getElem?_set, mapFirst_get, mapFirst_get]
  have hlt := (List.getElem?_eq_some_iff.mp h).1
  have hlen : (mapFirst f n l).length = l.length := by
    apply Nat.le_antisymm
    · refine Nat.le_of_not_lt fun h => ?_
      have h1 : (mapFirst f n l)[l.length]? = none := by rw [mapFirst_get]; simp
      have := List.getElem?_eq_none_iff.mp h1; omega
    · refine Nat.le_of_not_lt fun h => ?_
      have h1 : (mapFirst f n l)[(mapFirst f n l).length]? = none := by simp
      rw [mapFirst_get] at h1
      split at h1 <;> simp at h1 <;> omega
  by_cases hk : n = k
  · subst hk; rw [h]; simp [hlen, hlt]
  · simp only [hk, if_false]
    by_cases h1 : k < n
    · rw [if_pos h1, if_pos (by omega)]
    · rw [if_neg h1, if_neg (by omega)]
theorem mapFirst_min (f : Cel → Cel) {n : Nat} {l : List Cel} : mapFirst f (min n l.length) l = mapFirst f n l := by
  apply List.ext_getElem?
  intro k
  rw [mapFirst_get, mapFirst_get]
  by_cases h : k < l.length
  · by_cases h1 : k < n
    · rw [if_pos (by omega), if_pos h1]
    · rw [if_neg (by omega), if_neg h1]
  · rw [List.getElem?_eq_none (by omega)]; simp
def setTo (lo : Int) (e : Cel) : Cel := { e with c := lo, u := if e.c = lo then e.u else false }
end Mine
namespace Mine
theorem ids_get {a b : List Inf} (h : ids a = ids b) {j : Nat} {i : Inf} (hj : b[j]? = some i) : ∃ i', a[j]? = some i' ∧ i'.x = i.x ∧ i'.d = i.d := by
  have hl := ids_len h
  have hlt := (List.getElem?_eq_some_iff.mp hj).1
  have h1 : (ids a)[j]? = (ids b)[j]? := by rw [h]
  simp only [ids, List.getElem?_map, hj, Option.map_some] at h1
  cases ha : a[j]? with
  | none => rw [ha] at h1; cases h1
  | some i' =>
    rw [ha] at h1
    simp only [Option.map_some, Option.some.injEq, Inf.id, Prod.mk.injEq] at h1
    exact ⟨i', rfl, h1.1, h1.2⟩
end Mine
namespace Mine
theorem ne_of_below {l : List (Addr × Obj)} {b d : Nat} (h : ∀ p ∈ l, p.1 < b) (k : b ≤ d) : ∀ p ∈ l, p.1 ≠ d := fun p hp e => by
  have h1 : @LT.lt Nat _ p.1 b := h p hp
  have h2 : @Eq Nat p.1 d := e
  omega
end Mine
end
section
open Mine
namespace Mine
open PyProof.Rows.LCg PyProof.Rows.LCt
/-- a tuple of the ledger -/
def TupIn (ax : Addr) (its : Array Value) (news : List (Addr × Obj)) : Prop := ∃ o, (ax, o) ∈ news ∧ o.cls = .type "tuple" ∧ ∃ n, o.data = .seq its n
theorem TupIn.is {h₀ h : Heap} {L ax : Addr} {its : Array Value} {news : List (Addr × Obj)} (x : TupIn ax its news) (N : News h₀ L h news) : h.IsTuple ax its := let ⟨o, hm, r⟩ := x; ⟨o, (N _ hm).1, r⟩
section
variable {prog : Program} {w : World} {A : Around} {E : Value → Shared → Prop} {s : Shared} {h₀ : Heap} {L : Addr} {m : Str → Option Value} {env : Env}
def SrcTup (prog : Program) (w : World) (A : Around) (h₀ : Heap) (L : Addr) (m : Str → Option Value) (env : Env) (ct elt : PySem.Expr) (x : Str) (scope : Scope) (cl : List (Str × Addr)) (Fin : Shared → List Value → List (Addr × Obj) → Prop) (xv : Value) (s₁ : Shared) : Prop :=
  ∃ ax its news, xv = .ref ax ∧ A.handled = none ∧ Fr h₀ L s₁.heap m ∧ News h₀ L s₁.heap news ∧ TupIn ax its news ∧ its.size ≤ sizeLine ∧
    ∀ s₂ : Shared, (∃ h, s₂ = { s₁ with heap := h }) → CompRestT prog w A h₀ L m env ct elt x scope cl s₂ (TupIn ax its) (fun i v => its[i]? = some v) (Fin s₂) its.size 0 [] news
theorem SrcTup.intro {ct elt : PySem.Expr} {x : Str} {scope : Scope} {cl : List (Str × Addr)} {Fin : Shared → List Value → List (Addr × Obj) → Prop} {ax : Addr} {its : Array Value} {k : Nat} {news : List (Addr × Obj)} {s₁ : Shared}
    (hh : A.handled = none) (F : Fr h₀ L s₁.heap m) (N : News h₀ L s₁.heap news) (hm : (ax, ({ cls := .type "tuple", data := .seq its k } : Obj)) ∈ news) (hsz : its.size ≤ sizeLine)
    (h : ∀ g, CompRestT prog w A h₀ L m env ct elt x scope cl { s₁ with heap := g } (TupIn ax its) (fun i v => its[i]? = some v) (Fin { s₁ with heap := g }) its.size 0 [] news) :
    SrcTup prog w A h₀ L m env ct elt x scope cl Fin (.ref ax) s₁ := ⟨ax, its, news, rfl, hh, F, N, ⟨_, hm, rfl, _, rfl⟩, hsz, fun _ ⟨g, e⟩ => e ▸ h g⟩
theorem Assign_comp_tup {ct elt iter : PySem.Expr} {x y : Str} {px py : Pos} {scope : Scope} {cl : List (Str × Addr)} {pos spos : Pos} {Q : Flow → Shared → Prop} (F₀ : Fr h₀ L s.heap m) (hLe : env.locals = L)
    (hsw : swapsWith (.ListComp elt [⟨.Name x px, iter, [ct], 0⟩] scope pos) (some (.Name y py)) spos.line env = pure true)
    (hclos : closureFor scope env = pure cl) (hcell : ∀ z ∈ scope.names, z.2 ≠ .cell) (hkind : scope.kind = .function)
    (hnames : ∀ z ∈ scope.names, z.2 = .local → scope.names.lookup z.1 = some .local) (hx : scope.names.lookup x = some .local)
    (hy : env.kindOf y = some .local) (hp : (env.scope.kind == .class || (env.scope.kind == .module && env.locals != env.globals)) = false)
    (h : wpAny (model prog w) A (eval iter env) (SrcTup prog w A h₀ L m env ct elt x scope cl (fun s₂ => FinA h₀ L m s₂ y Q)) E s)
    (hs : ∀ x, foldedSetIterable iter env x = pure x := by intro _; rfl) :
    wpAny (model prog w) A (exec (.Assign [.Name y py] (.ListComp elt [⟨.Name x px, iter, [ct], 0⟩] scope pos) spos) env) Q E s := by
  subst hLe
  rw [exec_Assign_Name_used _ _ _ _ hsw]
  refine wpAny_bind (wpAny_standAt (wpAny_bind ?_))
  show wpAny _ A (do let _ ← comprehension (.ListComp elt [⟨.Name x px, iter, [ct], 0⟩] scope pos) scope env _ (newList []) false (eval iter env) (some (assign (.Name y py) env))) _ _ s
  refine wpAny_bind (wpAny_mono (wpAny_comprehension_free (use := some (assign (.Name y py) env)) (Q := fun _ s' => Q .next s') rfl hs hclos hkind hnames
    (wpAny_mono h (fun xv s₁ h₁ => ?_) fun _ _ e => e)) (fun _ s' hq => wpAny_pure (wpAny_pure hq)) fun _ _ e => e)
  obtain ⟨ax, its, news, rfl, hh, F, N, S, hsz, R⟩ := h₁
  have hl := S.is N
  have hlt : ax < s₁.heap.objs.size := by obtain ⟨_, e, _⟩ := hl; exact Heap.lt_size e
  refine wpAny_pyIter_tuple hl ?_
  have up : ∀ b o, s₁.heap.get? b = some o → (s₁.heap.push { cls := .type "tuple_iterator", data := .fields #[.ref ax, .int 0 0] }).get? b = some o := fun b o e => Heap.get?_push_of_some _ e
  have hSt : ∀ (i : Nat) (h h' : Heap) (o : Obj) (nw : List (Addr × Obj)), (h.IsTupleIter s₁.heap.objs.size ax i ∧ h.IsTuple ax its) → h.get? s₁.heap.objs.size = some o → h'.get? s₁.heap.objs.size = some o → (∀ b o, h₀.get? b = some o → h'.get? b = some o) → News h₀ env.locals h' nw → TupIn ax its nw → (h'.IsTupleIter s₁.heap.objs.size ax i ∧ h'.IsTuple ax its) :=
    fun i h h' o nw st e e' _ N' S' => ⟨by obtain ⟨o', q, r⟩ := st.1; rw [e] at q; cases q; exact ⟨o, e', r⟩, S'.is N'⟩
  refine block_T (Walks.tuple hh s₁.heap.objs.size ax (Nat.ne_of_lt hlt) its) hsz (fun i h st => by obtain ⟨o, e, _⟩ := st.1; exact ⟨o, e⟩) hSt hcell hkind hx ⟨⟨_, Heap.get?_push_size _ rfl, rfl, rfl⟩, hl.push _⟩ (fun b hb => ?_)
    (F.keeps up) (N.grown up) (Nat.ne_of_lt F.ns.lt) (next_is_new F) (fun p hp => Nat.ne_of_lt (Heap.lt_size (N p hp).1)) S (R _ ⟨_, rfl⟩) ?_
  · show b < (s₁.heap.push _).objs.size
    rw [Heap.size_push]
    rcases List.mem_cons.mp hb with rfl | hb
    · exact Nat.lt_succ_self _
    · rw [List.mem_singleton.mp hb]; exact Nat.lt_succ_of_lt hlt
  · intro D C h' tk m' ys news' F' N' o1 hn hC₀ hD₀ hCL hDL hCD offC fin
    show wpAny _ A (assign (.Name y py) env (.ref D)) _ _ _
    refine wpAny_assign_Name (wpAny_storeName_local hy F'.ns (fun h₂ hn₂ hs₂ => ?_) hp)
    have hL₀ : h₀.get? env.locals = none := Heap.get?_none_of_le F'.above
    have F₂ : Fr h₀ env.locals h₂ (fun z => if z = y then some (.ref D) else m z) := ⟨hn₂, fun b o e => hs₂.extBut b o (fun q => by rw [q, hL₀] at e; cases e) (F'.keep b o e), F'.above⟩
    refine ⟨m', hn.sameBut hs₂ hCL, fun h'' hs'' => fin D h'' _ (F₂.change hs'' hCL hC₀) (fun p hp => ?_) o1⟩
    have z : h₂.get? p.1 = some p.2 := hs₂.extBut _ _ (N' p hp).2.1 (N' p hp).1
    refine ⟨hs''.extBut _ _ ?_ z, (N' p hp).2⟩
    rcases List.mem_cons.mp hp with rfl | hp
    · exact Ne.symm hCD
    · exact offC p hp
end
end Mine
end
section
open Mine
namespace Mine
/-- the neighbours of a cell that goes: an unsafe one hands its mark on -/
def mark (u : Bool) (c : Int) (l : List Cel) (q : Nat) : List Cel := match l[q]? with
  | some x => if u = true ∧ x.c = c then l.set q { x with u := true } else l
  | none => l
theorem mark_yes {u : Bool} {c : Int} {l : List Cel} {q : Nat} {i : Inf} {es : List DictEntry} {n : Nat} (h : l[q]? = some i.cel) (hu : u = true) (hc : i.c = c) : [q].foldl (mark u c) l = l.set q (i.to es n i.c true).cel := by
  show mark u c l q = _
  unfold mark; rw [h]; dsimp only; rw [if_pos ⟨hu, hc⟩]; rfl
theorem mark_no {u : Bool} {c : Int} {l : List Cel} {q : Nat} {i : Inf} (h : l[q]? = some i.cel) (hn : u = false ∨ i.c ≠ c) : [q].foldl (mark u c) l = l := by
  show mark u c l q = _
  unfold mark; rw [h]; dsimp only; rw [if_neg]
  rintro ⟨a, b⟩
  rcases hn with hn | hn
  · rw [hn] at a; cases a
  · exact hn b
theorem list_not_ds {h₀ h : Heap} {L D : Addr} {its : Array Value} {k : Nat} {rows : List Inf} {big : List (Addr × Obj)} (N : News h₀ L h big) (hD : (D, listOf its k) ∈ big) (hR : ∀ i ∈ rows, (i.d, dictOf i.es i.n) ∈ big) : D ∉ dsOf rows := fun hm => by
  obtain ⟨i, hi, rfl⟩ := List.mem_map.mp hm
  exact list_ne_dict N hD (hR i hi) rfl
end Mine
end
section
open Mine
namespace Mine
section
variable {prog : Program} {w : World} {A : Around} {E : Value → Shared → Prop} {s : Shared} {L l v sl : Addr} {h₀ : Heap} {m : Str → Option Value} {news : List (Addr × Obj)}
theorem listItems_at {M : Model} {items : Array Value} {n : Nat} {a : Addr} {Q : Array Value → Shared → Prop} (ho : s.heap.get? a = some (listOf items n)) (h : Q items s) : wpAny M A (Builtin.List.listItems (.ref a)) Q E s := by
  unfold Builtin.List.listItems
  exact wpAny_bind (wpAny_seqItems ho rfl (wpAny_pure h))
theorem setItem_slice {items new : Array Value} {n k : Nat} {vl vu : Value} {lo hi : Option Int} {a b : Nat} {Q : Unit → Shared → Prop} (ho : s.heap.get? l = some (listOf items n)) (hv : s.heap.get? v = some (listOf new k)) (hne : l ≠ v)
    (hs : s.heap.IsSliceOf sl vl vu .none) (pl : IsPart vl lo) (pu : IsPart vu hi) (hb : sliceBounds lo hi none items.size = ((a : Int), (b : Int), 1)) (hsz : items.size + new.size ≤ 10000)
    (h : Q () { s with heap := s.heap.update l (Obj.mapSeq fun xs => xs.extract 0 a ++ new ++ xs.extract (max a b) xs.size) }) :
    wpAny (model prog w) A (setItem (.ref l) (.ref sl) (.ref v)) Q E s := by
  have hl : s.heap.IsList l items := PySem.IsL.isList (n := n) ho
  have hvl : s.heap.IsList v new := PySem.IsL.isList (n := k) hv
  obtain ⟨os, hos, hcs, hds⟩ := id hs
  have hTs : s.TypeIs (.ref sl) "slice" := ⟨os, hos, hcs⟩
  unfold setItem
  try with_reducible refine wpAny_holding ?_
  first | refine wpAny_bind (wpAny_pure ?_) | skip
  refine wpAny_bind (wpAny_sequenceKey hl.typeIs (by decide) ?_)
  refine wpAny_bind (wpAny_callSpecial?_slot (name := Str.ofString "__setitem__") hl.typeIs slot_list_setitem
    (wpAny_call_entry slot_list_setitem hl.typeIs entry_list_setitem ?_ (args_list_setitem _ _ _)))
  show wpAny _ _ (Builtin.List.listSubscript? (.ref sl) >>= _) _ _ s
  refine wpAny_bind ?_
  unfold Builtin.List.listSubscript?
  refine wpAny_bind (wpAny_specialOf hTs slice_no_index ?_)
  simp only [Option.isNone_none, if_true]
  refine wpAny_pure ?_
  show wpAny _ _ (typeOf (.ref sl) >>= _) _ _ s
  refine wpAny_bind (wpAny_typeOf hTs ?_)
  rw [if_neg (by decide)]
  rw [listSliceParts_eq]
  refine wpAny_bind (wpAny_bind (wpAny_field hos hds (x := .none) rfl (wpAny_bind (wpAny_listPart .none ?_))))
  rw [if_neg (show ¬ ((rawPart none == rawInt 0) = true) from Bool.false_ne_true)]
  refine wpAny_bind (wpAny_field hos hds (x := vl) rfl (wpAny_bind (wpAny_listPart pl ?_)))
  refine wpAny_bind (wpAny_field hos hds (x := vu) rfl (wpAny_bind (wpAny_listPart pu (wpAny_pure ?_))))
  have hsr : Builtin.List.listSameRef (.ref l) (.ref v) = false := by
    show (l == v) = false
    simpa using hne
  dsimp only
  rw [hsr]
  simp only [Bool.false_eq_true, if_false]
  refine wpAny_bind (m := Builtin.List.listAllItems (.ref v) _) ?_
  unfold Builtin.List.listAllItems
  refine wpAny_bind (wpAny_typeOf hvl.typeIs ?_)
  rw [if_pos (by decide)]
  refine wpAny_bind (wpAny_seqItems hv rfl (wpAny_pure ?_))
  refine wpAny_bind (listItems_at ho ?_)
  refine wpAny_bind (wpAny_of_eq (sliceIndices_raw lo hi none items.size (by simp)) ?_)
  rw [hb]
  dsimp only
  rw [if_pos (by decide)]
  refine wpAny_bind (wpAny_rule ?_)
  have hlong : Builtin.List.listTooLong (items.size + new.size) = false := by
    unfold Builtin.List.listTooLong
    rw [sizeLine_eq]
    simp; omega
  rw [hlong]
  simp only [Bool.false_eq_true, if_false]
  refine wpAny_bind (m := Builtin.List.listUpdate (.ref l) _) ?_
  unfold Builtin.List.listUpdate
  refine wpAny_updateSeq ho rfl ?_ (by rw [sizeLine_eq]; omega) ?_
  · refine wpAny_bind (wpAny_letGo ?_)
    have e : max (a : Int) (b : Int) = ((max a b : Nat) : Int) := by omega
    rw [e] 
    exact wpAny_bind (wpAny_pure (wpAny_pure ⟨.none, rfl, wpAny_pure h⟩))
  · rw [sizeLine_eq]
    simp only [Array.size_append, Array.size_extract]
    refine Nat.le_trans (Nat.add_le_add (Nat.add_le_add_right (Nat.le_trans (Nat.sub_le _ _) (Nat.min_le_right _ _)) _) (Nat.le_trans (Nat.sub_le _ _) (Nat.min_le_left _ _))) ?_
    clear hb h pl pu hs hos hds
    omega
end
end Mine
namespace Mine
section
variable {prog : Program} {w : World} {A : Around} {E : Value → Shared → Prop} {s : Shared} {L l v sl : Addr} {h₀ : Heap} {m : Str → Option Value} {news : List (Addr × Obj)}
theorem mapSeq_list {items : Array Value} {n : Nat} {f : Array Value → Array Value} : ∃ n', Obj.mapSeq f (listOf items n) = listOf (f items) n' := ⟨_, rfl⟩
theorem set_slice_led {items new res : List Value} {n k : Nat} {vl vu : Value} {lo hi : Option Int} {a b : Nat} {Q : Unit → Shared → Prop} (F : Fr h₀ L s.heap m) (N : News h₀ L s.heap news) (hl : (l, listOf items.toArray n) ∈ news) (hv : (v, listOf new.toArray k) ∈ news) (hne : l ≠ v)
    (hs : s.heap.IsSliceOf sl vl vu .none) (pl : IsPart vl lo) (pu : IsPart vu hi) (hb : sliceBounds lo hi none items.length = ((a : Int), (b : Int), 1)) (hab : a ≤ b) (hsz : items.length ≤ 1000) (hsz' : new.length ≤ 1000) (e : items.take a ++ new ++ items.drop b = res)
    (h : ∀ h' n', Fr h₀ L h' m → News h₀ L h' (setL l (listOf res.toArray n') news) → Q () { s with heap := h' }) :
    wpAny (model prog w) A (setItem (.ref l) (.ref sl) (.ref v)) Q E s := by
  refine setItem_slice (N _ hl).1 (N _ hv).1 hne hs pl pu (by simpa using hb) (by simp; omega) ?_
  obtain ⟨n', hn'⟩ := mapSeq_list (items := items.toArray) (n := n) (f := fun xs => xs.extract 0 a ++ new.toArray ++ xs.extract (max a b) xs.size)
  have hres : (items.toArray.extract 0 a ++ new.toArray ++ items.toArray.extract (max a b) items.toArray.size) = res.toArray := by
    rw [← e, Nat.max_eq_right hab]
    apply Array.ext'
    simp only [Array.toList_append, Array.toList_extract, List.extract_eq_take_drop, List.drop_zero, List.size_toArray, Nat.sub_zero]
    rw [List.take_of_length_le (l := items.drop b) (by rw [List.length_drop]; omega)]
  rw [hres] at hn'
  obtain ⟨F', N'⟩ := news_upd (pre := []) F (news_setL N hl) (fun _ h => nomatch h) (fun q hq => by simpa using (List.mem_filter.mp hq).2) hn' rfl
  exact h _ n' F' N'
theorem eq_len {a b : Addr} {xs ys : List Value} {n k : Nat} {Q : Value → Shared → Prop} (N : News h₀ L s.heap news) (ha : (a, listOf xs.toArray n) ∈ news) (hb : (b, listOf ys.toArray k) ∈ news) (hlen : xs.length ≠ ys.length) (hu : A.units < cLine) (h : Q (.bool false) s) :
    wpAny (model prog w) A (compareOp .Eq (.ref a) (.ref b)) Q E s :=
  cmp_ofEq (SeqAt.RcAt.lists_lengths (PySem.IsL.isList (n := n) (N _ ha).1) (PySem.IsL.isList (n := k) (N _ hb).1) (by simpa using hlen) hu prog w E Q h)
theorem ne_len {a b : Addr} {xs ys : List Value} {n k : Nat} {Q : Value → Shared → Prop} (N : News h₀ L s.heap news) (ha : (a, listOf xs.toArray n) ∈ news) (hb : (b, listOf ys.toArray k) ∈ news) (hlen : xs.length ≠ ys.length) (hu : A.units < cLine) (h : Q (.bool true) s) :
    wpAny (model prog w) A (compareOp .NotEq (.ref a) (.ref b)) Q E s :=
  cmp_ofNotEq (SeqAt.RcNeAt.lists_lengths (PySem.IsL.isList (n := n) (N _ ha).1) (PySem.IsL.isList (n := k) (N _ hb).1) (by simpa using hlen) hu prog w E Q h)
theorem eq_nil {a b : Addr} {n k : Nat} {Q : Value → Shared → Prop} (N : News h₀ L s.heap news) (ha : (a, listOf ([] : List Value).toArray n) ∈ news) (hb : (b, listOf ([] : List Value).toArray k) ∈ news) (hu : A.units < cLine) (h : Q (.bool true) s) :
    wpAny (model prog w) A (compareOp .Eq (.ref a) (.ref b)) Q E s :=
  cmp_ofEq (SeqAt.RcAt.lists (e := fun _ => true) (PySem.IsL.isList (n := n) (N _ ha).1) (PySem.IsL.isList (n := k) (N _ hb).1) rfl hu (fun j h1 _ => absurd h1 (by simp)) prog w E Q (by simpa using h))
theorem ne_nil {a b : Addr} {n k : Nat} {Q : Value → Shared → Prop} (N : News h₀ L s.heap news) (ha : (a, listOf ([] : List Value).toArray n) ∈ news) (hb : (b, listOf ([] : List Value).toArray k) ∈ news) (hu : A.units < cLine) (h : Q (.bool false) s) :
    wpAny (model prog w) A (compareOp .NotEq (.ref a) (.ref b)) Q E s :=
  cmp_ofNotEq (SeqAt.RcNeAt.lists (e := fun _ => true) (PySem.IsL.isList (n := n) (N _ ha).1) (PySem.IsL.isList (n := k) (N _ hb).1) rfl hu (fun j h1 _ => absurd h1 (by simp)) prog w E Q (by simpa using h))
end
end Mine
namespace Mine
theorem setL_mono {d : Addr} {o : Obj} {a b : List (Addr × Obj)} (h : ∀ q ∈ a, q ∈ b) : ∀ q ∈ setL d o a, q ∈ setL d o b := fun q hq => by
  rcases List.mem_cons.mp hq with rfl | hq
  · exact mem_setL_self
  · have := List.mem_filter.mp hq
    exact List.mem_cons_of_mem _ (List.mem_filter.mpr ⟨h _ this.1, this.2⟩)
theorem put_mid {h₀ h : Heap} {L l b bd G : Addr} {q0 : Addr × Obj} {e : Inf} {es : List DictEntry} {n k : Nat} {u : Bool} {T led : List (Addr × Obj)} {rows : List Inf} {og : Obj} (N1 : News h₀ L h (q0 :: setL e.d (dictOf es n) T)) (hT : ∀ q ∈ led, q ∈ T) (I1 : InfAt (setL e.d (dictOf es n) T) e.x (e.to es n e.c u)) (hu : u = e.u)
    (R : RowAt led l rows) (he : rows[k]? = some e) (Bf : BufAt led b bd l) (hb : b ∉ dsOf rows) (hbd : bd ∉ dsOf rows) (hG : (G, og) ∈ led) (hGd : G ∉ dsOf rows) :
    ∃ X rows2, News h₀ L h (q0 :: X) ∧ RowAt X l rows2 ∧ ids rows2 = ids rows ∧ cels rows2 = cels rows ∧ BufAt X b bd l ∧ (G, og) ∈ X ∧ Keeps (dsOf rows) led X := by
  have hm := List.mem_of_getElem? he
  have hmd : e.d ∈ dsOf rows := List.mem_map_of_mem hm
  have K : Keeps (dsOf rows) led (setL e.d (dictOf es n) led) := keeps_setL hmd
  refine ⟨setL e.d (dictOf es n) led, rows.set k (e.to es n e.c u), news_sub N1 ?_, R.set he (InfAt.shrink (R.inf e hm) (R.xd e hm e hm) I1), set_ids he (by rfl), ?_, Bf.keeps K hb hbd, K _ hG hGd, K⟩
  · intro q hq
    rcases List.mem_cons.mp hq with rfl | hq
    · exact List.mem_cons_self
    · exact List.mem_cons_of_mem _ (setL_mono hT q hq)
  · rw [set_cels, hu]
    apply List.ext_getElem?
    intro j
    rw [List.getElem?_set]
    have hlt := (List.getElem?_eq_some_iff.mp he).1
    by_cases hj : k = j
    · subst hj
      rw [List.getElem?_map, he]
      simp [hlt]; rfl
    · simp [hj]
theorem Keeps.weaken {ds ds' : List Addr} {a b : List (Addr × Obj)} (h : Keeps ds a b) (k : ∀ d ∈ ds, d ∈ ds') : Keeps ds' a b := fun q hq n => h q hq fun m => n (k _ m)
theorem iter_nil {prog : Program} {w : World} {A : Around} {E : Value → Shared → Prop} {s : Shared} {env : Env} {h₀ : Heap} {x : Str} {body : List Stmt} {Q : Flow → Shared → Prop} {l : Addr} {nn : Nat} {m₀ : Str → Option Value} {news : List (Addr × Obj)}
    (hh : A.handled = none) (hl : (l, listOf ([] : List Value).toArray nn) ∈ news) (F : Fr h₀ env.locals s.heap m₀) (N : News h₀ env.locals s.heap news)
    (done : ∀ (u : Str → Option Value) h tk, Fr h₀ env.locals h (fun y => if y = x then u y else m₀ y) → News h₀ env.locals h news → Q .next { s with heap := h, toks := tk }) :
    wpAny (model prog w) A (pyIter (.ref l)) (fun it s₂ => LoopAtV prog w A h₀ env x body Q E it s₂) E s :=
  iter_led (fun _ nx => nx = news) hh hl F N rfl (fun i v nx I oI h tk hv => by simp at hv) fun u nx h tk e F' N' => done u h tk F' (e ▸ N')
end Mine
namespace Mine
section
variable {prog : Program} {w : World} {A : Around} {E : Value → Shared → Prop} {s : Shared} {L l v : Addr} {h₀ : Heap} {m : Str → Option Value} {news : List (Addr × Obj)}
theorem set_slice_ref {items new res : List Value} {n k : Nat} {vl vu : Value} {lo hi : Option Int} {a b : Nat} {Q : Unit → Shared → Prop} (F : Fr h₀ L s.heap m) (N : News h₀ L s.heap news) (hl : (l, listOf items.toArray n) ∈ news) (hv : (v, listOf new.toArray k) ∈ news) (hne : l ≠ v)
    (pl : IsPart vl lo) (pu : IsPart vu hi) (hb : sliceBounds lo hi none items.length = ((a : Int), (b : Int), 1)) (hab : a ≤ b) (hsz : items.length ≤ 1000) (hsz' : new.length ≤ 1000) (e : items.take a ++ new ++ items.drop b = res)
    (h : ∀ h' n', Fr h₀ L h' m → News h₀ L h' (setL l (listOf res.toArray n') news) → Q () { s with heap := h' }) :
    wpAny (model prog w) A (setItem (.ref l) (.ref s.heap.objs.size) (.ref v)) Q E { s with heap := s.heap.push { cls := .type "slice", data := .fields #[vl, vu, .none] } } :=
  set_slice_led (s := { s with heap := s.heap.push { cls := .type "slice", data := .fields #[vl, vu, .none] } }) (F.push _) (N.grown fun _ _ e => Heap.get?_push_of_some _ e) hl hv hne (Heap.IsSliceOf.new ..) pl pu hb hab hsz hsz' e h
theorem inst_ne_list {h : Heap} {x d C dx : Addr} {its : Array Value} {k : Nat} {l : List (Addr × Obj)} (N : News h₀ L h l) (hx : (x, instObj C dx) ∈ l) (hd : (d, listOf its k) ∈ l) : x ≠ d := by
  intro e
  have h1 := (N _ hx).1
  have h2 := (N _ hd).1
  dsimp only at h1 h2
  rw [e, h2] at h1
  exact absurd (congrArg Obj.cls (Option.some.inj h1)) (by simp)
theorem RowAt.newlist {X : List (Addr × Obj)} {rows rows2 : List Inf} {n' : Nat} (R : RowAt X l rows) (hsub : ∀ i ∈ rows2, i ∈ rows) (hnd : (rows2.map Inf.d).Nodup) (hlx : ∀ i ∈ rows, i.x ≠ l) : RowAt (setL l (listOf (refs rows2).toArray n') X) l rows2 :=
  ⟨⟨n', mem_setL_self⟩, fun i hi => ⟨rfl, (R.inf i (hsub i hi)).ok, mem_setL_ne (R.inf i (hsub i hi)).at_.1 (hlx i (hsub i hi)), mem_setL_ne (R.inf i (hsub i hi)).at_.2 (Ne.symm (R.ld i (hsub i hi)))⟩, hnd,
    fun i hi j hj => R.xd i (hsub i hi) j (hsub j hj), fun i hi => R.ld i (hsub i hi)⟩
theorem allLt_mem {d : Addr} : ∀ {l : List (Addr × Obj)}, AllLt d l → ∀ q ∈ l, q.1 ≠ d
  | [], _, _, h => nomatch h
  | p :: r, h, q, hq => by
    rcases List.mem_cons.mp hq with rfl | hq
    · exact fun e => Nat.ne_of_lt h.1 e
    · exact allLt_mem h.2 q hq
/-- a row whose list is written anew -/
theorem relist {h h1 : Heap} {T X : List (Addr × Obj)} {b bd : Addr} {rows rows2 : List Inf} {n' nn : Nat} {its : Array Value} (N0 : News h₀ L h1 X) (N : News h₀ L h (setL l (listOf (refs rows2).toArray n') T)) (hT : ∀ q ∈ X, q ∈ T) (R : RowAt X l rows) (hl : (l, listOf its nn) ∈ X) (hsub : ∀ i ∈ rows2, i ∈ rows) (hnd : (rows2.map Inf.d).Nodup) (Bf : BufAt X b bd l) :
    ∃ Y, News h₀ L h Y ∧ RowAt Y l rows2 ∧ BufAt Y b bd l ∧ Keeps [l] X Y := by
  refine ⟨setL l (listOf (refs rows2).toArray n') X, news_sub N (setL_mono hT), R.newlist hsub hnd fun i hi => inst_ne_list N0 (R.inf i hi).at_.1 hl, ?_, keeps_setL (List.mem_singleton.mpr rfl)⟩
  obtain ⟨h1, es, n, h2, e⟩ := Bf
  exact ⟨mem_setL_ne h1 (inst_ne_list N0 h1 hl), es, n, mem_setL_ne h2 fun e => list_ne_dict N0 hl h2 e.symm, e⟩
end
end Mine
namespace Mine
theorem ne_of_fresh {X : List (Addr × Obj)} {l V : Addr} {o : Obj} (hm : (l, o) ∈ X) (h : ∀ p ∈ X, p.1 < V) : l ≠ V := fun e => Nat.lt_irrefl _ (e ▸ h _ hm)
end Mine
namespace Mine
theorem map_eraseIdx {α β : Type} (f : α → β) (l : List α) (k : Nat) : (l.eraseIdx k).map f = (l.map f).eraseIdx k := by
  simp only [List.eraseIdx_eq_take_drop_succ, List.map_append, List.map_take, List.map_drop]
end Mine
end
section
open Mine
namespace Mine
/-- a row of the law's own: glyph, cluster, mark -/
structure Tri where
  g : Int
  c : Int
  u : Bool
structure Tup where
  t : Addr
  k : Tri
  tg : Tok
  tc : Tok
  n : Nat
def Tup.obj (T : Tup) : Obj := { cls := .type "tuple", data := .seq #[.int T.k.g T.tg, .int T.k.c T.tc, .bool T.k.u] T.n }
def trefs (ts : List Tup) : List Value := ts.map fun T => .ref T.t
def TupsIn (led : List (Addr × Obj)) (ts : List Tup) : Prop := ∀ T ∈ ts, (T.t, T.obj) ∈ led
abbrev tris (ts : List Tup) : List Tri := ts.map Tup.k
theorem TupsIn.mono {a b : List (Addr × Obj)} {ts : List Tup} (h : TupsIn a ts) (k : ∀ q ∈ a, q ∈ b) : TupsIn b ts := fun T hT => k _ (h T hT)
/-- the item of a list at a place that may count from behind -/
def NthIs (vs : List Value) (z : Int) (v : Value) : Prop := (∃ k : Nat, z = (k : Int) ∧ vs[k]? = some v) ∨ (z = -1 ∧ vs.getLast? = some v)
section
variable {prog : Program} {w : World} {A : Around} {E : Value → Shared → Prop} {s : Shared} {L l : Addr} {h₀ : Heap} {m : Str → Option Value} {news : List (Addr × Obj)}
theorem item_nth {value slice : PySem.Expr} {vs : List Value} {nn : Nat} {z : Int} {u : Tok} {v : Value} {Q : Value → Shared → Prop} (N : News h₀ L s.heap news) (hl : (l, listOf vs.toArray nn) ∈ news) (hz : NthIs vs z v) (hfit : vs.length ≤ 1000) (h : Q v s)
    (hs : subscripted slice false (.ref l) (.int z u) = operate [.ref l, .int z u] (getItem (.ref l) (.int z u)) := by with_unfolding_all rfl) :
    wpAny (model prog w) A (subscriptTail value slice (.ref l) (.int z u)) Q E s := by
  have hL : s.heap.IsList l vs.toArray := PySem.IsL.isList (n := nn) (N _ hl).1
  rcases hz with ⟨k, rfl, hk⟩ | ⟨rfl, hk⟩
  · have hlt := (List.getElem?_eq_some_iff.mp hk).1
    exact tail_any hL.typeIs slot_list_getitem.lookup (wpAny_getItem_list hL (by omega) (by omega) (x := v) (by simp [hk]) h) hs
  · have hne : vs ≠ [] := fun e => by rw [e] at hk; cases hk
    have hpos : 0 < vs.length := List.length_pos_iff.mpr hne
    have hx : vs.toArray[(-1 + (vs.toArray.size : Int)).toNat]? = some v := by
      have : (-1 + (vs.toArray.size : Int)).toNat = vs.length - 1 := by simp; omega
      rw [this]
      rw [List.getLast?_eq_getElem?] at hk
      simpa using hk
    exact tail_any hL.typeIs slot_list_getitem.lookup (wpAny_getItem_list_neg hL (by omega) (by simp; omega) (by omega) hx h) hs
end
end Mine
namespace Mine
theorem pick_butT (P : List Tup) (x : Tup) : slicePick (trefs (P ++ [x])).toArray none (some (-1 : Int)) none = (trefs P).toArray := by
  rw [pick_butlast]; simp [trefs]
theorem pick_tailT (P : List Tup) (x : Tup) : slicePick (trefs (x :: P)).toArray (some (1 : Int)) none none = (trefs P).toArray := by
  rw [show (1 : Int) = ((1 : Nat) : Int) from rfl, pick_a]; simp [trefs]
end Mine
namespace Mine
section
variable {prog : Program} {w : World} {A : Around} {E : Value → Shared → Prop} {s : Shared} {L l x : Addr} {h₀ : Heap} {m : Str → Option Value} {news : List (Addr × Obj)} {T : Tup} {value slice : PySem.Expr} {u : Tok} {Q : Value → Shared → Prop}
theorem tup_is (N : News h₀ L s.heap news) (hm : (x, T.obj) ∈ news) : IsTup s.heap x [.int T.k.g T.tg, .int T.k.c T.tc, .bool T.k.u].toArray := ⟨_, (N _ hm).1, rfl, _, rfl⟩
theorem tup_item0 (N : News h₀ L s.heap news) (hm : (x, T.obj) ∈ news) (h : Q (.int T.k.g T.tg) s)
    (hs : subscripted slice false (.ref x) (.int 0 u) = operate [.ref x, .int 0 u] (getItem (.ref x) (.int 0 u)) := by with_unfolding_all rfl) :
    wpAny (model prog w) A (subscriptTail value slice (.ref x) (.int 0 u)) Q E s := item_tupleT (tup_is N hm) (by decide) (by decide) (by rfl) (by rfl) h hs
theorem tup_item1 (N : News h₀ L s.heap news) (hm : (x, T.obj) ∈ news) (h : Q (.int T.k.c T.tc) s)
    (hs : subscripted slice false (.ref x) (.int 1 u) = operate [.ref x, .int 1 u] (getItem (.ref x) (.int 1 u)) := by with_unfolding_all rfl) :
    wpAny (model prog w) A (subscriptTail value slice (.ref x) (.int 1 u)) Q E s := item_tupleT (tup_is N hm) (by decide) (by decide) (by rfl) (by rfl) h hs
theorem tup_item2 (N : News h₀ L s.heap news) (hm : (x, T.obj) ∈ news) (h : Q (.bool T.k.u) s)
    (hs : subscripted slice false (.ref x) (.int 2 u) = operate [.ref x, .int 2 u] (getItem (.ref x) (.int 2 u)) := by with_unfolding_all rfl) :
    wpAny (model prog w) A (subscriptTail value slice (.ref x) (.int 2 u)) Q E s := item_tupleT (tup_is N hm) (by decide) (by decide) (by rfl) (by rfl) h hs
end
end Mine
end
section
open Mine
namespace Mine
open PyProof.Rows.LCg
section
variable {prog : Program} {w : World} {A : Around} {E : Value → Shared → Prop} {s : Shared} {L a b : Addr} {h₀ : Heap} {m : Str → Option Value} {news : List (Addr × Obj)}
theorem add_led {vs ws : List Value} {n k : Nat} {Q : Value → Shared → Prop} (F : Fr h₀ L s.heap m) (N : News h₀ L s.heap news) (ha : (a, listOf vs.toArray n) ∈ news) (hb : (b, listOf ws.toArray k) ∈ news) (hz : vs.length + ws.length ≤ 1000)
    (h : ∀ D h', Fr h₀ L h' m → News h₀ L h' ((D, listOf (vs ++ ws).toArray 0) :: news) → (∀ p ∈ news, p.1 < D) → Q (.ref D) { s with heap := h' }) :
    wpAny (model prog w) A (binaryOp .Add (.ref a) (.ref b)) Q E s :=
  kmk_add_lit F N (PySem.IsL.isList (n := n) (N _ ha).1) (PySem.IsL.isList (n := k) (N _ hb).1) rfl (fun D h' F' N' l => h D h' F' N' l) (by rw [sizeLine_eq]; simp; omega)
/-- an element of a comprehension over tuples -/
def TStep (h₀ : Heap) (L : Addr) (m : Str → Option Value) (s : Shared) (I : Addr) (oI : Obj) (C : Addr) (oC : Obj) (D : Addr) (oD : Obj) (news' : List (Addr × Obj)) (r : Tri) (y : Value) (s₂ : Shared) : Prop :=
  ∃ (h' : Heap) (tk' : Nat) (nw : List (Addr × Obj)) (T' : Tup), s₂ = { s with heap := h', toks := tk' } ∧ Fr h₀ L h' m ∧ News h₀ L h' ((I, oI) :: (C, oC) :: (D, oD) :: nw) ∧ Off3 I C D nw ∧ (∀ q ∈ news', q ∈ nw) ∧ y = .ref T'.t ∧ (T'.t, T'.obj) ∈ nw ∧ T'.k = r
theorem tstep_same {I C D : Addr} {oI oC oD : Obj} {news' : List (Addr × Obj)} {T : Tup} {r : Tri} {h' : Heap} {tk' : Nat} (F : Fr h₀ L h' m) (N : News h₀ L h' ((I, oI) :: (C, oC) :: (D, oD) :: news')) (off : Off3 I C D news') (hT : (T.t, T.obj) ∈ news') (hr : T.k = r) :
    TStep h₀ L m s I oI C oC D oD news' r (.ref T.t) { s with heap := h', toks := tk' } := ⟨h', tk', news', T, rfl, F, N, off, fun _ h => h, rfl, hT, hr⟩
theorem tstep_new {I C D t' : Addr} {oI oC oD : Obj} {news' : List (Addr × Obj)} {g c : Int} {u : Bool} {tg tc : Tok} {n : Nat} {r : Tri} {h' : Heap} {tk' : Nat} (F : Fr h₀ L h' m) (N : News h₀ L h' ((t', { cls := .type "tuple", data := .seq #[.int g tg, .int c tc, .bool u] n }) :: (I, oI) :: (C, oC) :: (D, oD) :: news')) (off : Off3 I C D news')
    {Z : Prop} (lt : (@LT.lt Nat _ I t') ∧ (@LT.lt Nat _ C t') ∧ (@LT.lt Nat _ D t') ∧ Z) (hr : (⟨g, c, u⟩ : Tri) = r) :
    TStep h₀ L m s I oI C oC D oD news' r (.ref t') { s with heap := h', toks := tk' } := by
  refine ⟨h', tk', (t', { cls := .type "tuple", data := .seq #[.int g tg, .int c tc, .bool u] n }) :: news', ⟨t', ⟨g, c, u⟩, tg, tc, n⟩, rfl, F, news_sub N ?_, ⟨⟨?_, ?_, ?_⟩, off⟩, fun q hq => List.mem_cons_of_mem _ hq, rfl, List.mem_cons_self, hr⟩
  · intro q hq
    simp only [List.mem_cons] at hq ⊢
    rcases hq with h | h | h | h | h
    · exact .inr (.inl h)
    · exact .inr (.inr (.inl h))
    · exact .inr (.inr (.inr (.inl h)))
    · exact .inl h
    · exact .inr (.inr (.inr (.inr h)))
  · exact fun e => absurd e (Nat.ne_of_gt lt.1)
  · exact fun e => absurd e (Nat.ne_of_gt lt.2.1)
  · exact fun e => absurd e (Nat.ne_of_gt lt.2.2.1)
theorem comp_map {env : Env} {elt : PySem.Expr} {x : Str} {scope : Scope} {cl : List (Str × Addr)} {Fin : List Value → List (Addr × Obj) → Prop} {led : List (Addr × Obj)} {ts : List Tup} {l : Addr} {nn : Nat} (φ : Tri → Tri) (hl : (l, listOf (trefs ts).toArray nn) ∈ led)
    (step : ∀ T ∈ ts, ∀ I oI C oC D m₂ ys h tk (E' : Value → Shared → Prop) news', (∀ q ∈ led, q ∈ news') → NsObj oC m₂ → m₂ x = some (.ref T.t) → Fr h₀ L h m → News h₀ L h ((I, oI) :: (C, oC) :: (D, lst ys) :: news') → Off3 I C D news' → ((@Ne Nat I C) ∧ (@Ne Nat I D) ∧ (@Ne Nat C D)) →
      wpAny (model prog w) A (eval elt (compEnvC scope cl C env)) (TStep h₀ L m { s with heap := h, toks := tk } I oI C oC D (lst ys) news' (φ T.k)) E' { s with heap := h, toks := tk })
    (fin : ∀ ts' news', tris ts' = (tris ts).map φ → TupsIn news' ts' → (∀ q ∈ led, q ∈ news') → Fin (trefs ts') news') :
    CompRest prog w A h₀ L m env elt x scope cl s (SrcAt h₀ l (trefs ts).toArray) (fun i v => (trefs ts).toArray[i]? = some v) Fin (trefs ts).toArray.size 0 [] led := by
  have key : ∀ (j i : Nat) (ts' : List Tup) (news' : List (Addr × Obj)), i + j = ts.length → tris ts' = (tris (ts.take i)).map φ → TupsIn news' ts' → (∀ q ∈ led, q ∈ news') →
      CompRest prog w A h₀ L m env elt x scope cl s (SrcAt h₀ l (trefs ts).toArray) (fun i v => (trefs ts).toArray[i]? = some v) Fin j i (trefs ts') news' := by
    intro j
    induction j with
    | zero =>
      intro i ts' news' hi ht hin hsub
      have e : i = ts.length := by omega
      subst e
      rw [List.take_length] at ht
      exact CompRest.zero (fin ts' news' ht hin hsub)
    | succ j ih =>
      intro i ts' news' hi ht hin hsub
      refine CompRest.succ ?_
      intro v I oI C oC D m₂ h tk E' hv hC hx F N off ne
      have hlt : i < ts.length := by omega
      have hT : ts[i]? = some ts[i] := List.getElem?_eq_getElem hlt
      have hv' : v = .ref (ts[i]).t := by
        have : (trefs ts)[i]? = some v := by simpa using hv
        rw [trefs, List.getElem?_map, hT] at this
        exact (Option.some.inj this).symm
      subst hv'
      refine wpAny_mono (step ts[i] (List.getElem_mem hlt) I oI C oC D m₂ (trefs ts') h tk E' news' hsub hC hx F N off ne) (fun y s₂ hq => ?_) fun _ _ e => e
      obtain ⟨h', tk', nw, T', e, F', N', off', hsub', hy, hT', hk⟩ := hq
      refine ⟨h', tk', nw, e, F', N', off', .inr ⟨_, hsub' _ (hsub _ hl), rfl, _, rfl⟩, ?_⟩
      have et : trefs ts' ++ [y] = trefs (ts' ++ [T']) := by rw [hy]; simp [trefs]
      dsimp only
      rw [et]
      refine ih (i + 1) (ts' ++ [T']) nw (by omega) ?_ ?_ fun q hq => hsub' q (hsub q hq)
      · have e2 : ts.take (i + 1) = ts.take i ++ [ts[i]] := by rw [List.take_add_one, hT]; rfl
        simp only [tris] at ht ⊢
        rw [e2, List.map_append, List.map_append, List.map_append, ht]
        simp [hk]
      · intro T hT2
        rcases List.mem_append.mp hT2 with h1 | h1
        · exact hsub' _ (hin T h1)
        · rw [List.mem_singleton.mp h1]; exact hT'
  have hsz : (trefs ts).toArray.size = ts.length := by simp [trefs]
  rw [hsz]
  exact key ts.length 0 [] led (by omega) (by simp) (fun _ h => nomatch h) fun _ h => h
end
end Mine
end
section
open Mine
namespace Mine
/-- refs to tuples of the ledger that bear these -/
def Vals (led : List (Addr × Obj)) (vs : List Value) (ks : List Tri) : Prop := ∃ ts, vs = trefs ts ∧ TupsIn led ts ∧ tris ts = ks
def One (led : List (Addr × Obj)) (t : Addr) (k : Tri) : Prop := ∃ T : Tup, T.t = t ∧ (T.t, T.obj) ∈ led ∧ T.k = k
theorem Vals.tups {led : List (Addr × Obj)} {ts : List Tup} (h : TupsIn led ts) : Vals led (trefs ts) (tris ts) := ⟨ts, rfl, h, rfl⟩
theorem Vals.cons {led : List (Addr × Obj)} {t : Addr} {k : Tri} {vs : List Value} {ks : List Tri} (h : One led t k) (r : Vals led vs ks) : Vals led (.ref t :: vs) (k :: ks) := by
  obtain ⟨T, rfl, hT, rfl⟩ := h
  obtain ⟨ts, rfl, hin, rfl⟩ := r
  exact ⟨T :: ts, rfl, (fun x hx => by rcases List.mem_cons.mp hx with rfl | hx; exact hT; exact hin x hx), rfl⟩
theorem Vals.nil {led : List (Addr × Obj)} : Vals led [] [] := ⟨[], rfl, (fun _ h => nomatch h), rfl⟩
theorem Vals.app {led : List (Addr × Obj)} {vs ws : List Value} {ks js : List Tri} (h : Vals led vs ks) (r : Vals led ws js) : Vals led (vs ++ ws) (ks ++ js) := by
  obtain ⟨ts, rfl, h1, rfl⟩ := h
  obtain ⟨us, rfl, h2, rfl⟩ := r
  exact ⟨ts ++ us, by simp [trefs], (fun x hx => by rcases List.mem_append.mp hx with hx | hx; exact h1 x hx; exact h2 x hx), by simp⟩
theorem trefs_app (a b : List Tup) : trefs (a ++ b) = trefs a ++ trefs b := by simp [trefs]
theorem trefs_cons (a : Tup) (b : List Tup) : trefs (a :: b) = .ref a.t :: trefs b := rfl
theorem trefs_nil : trefs [] = [] := rfl
/-- the mark that a neighbour takes over -/
def mkM (u : Bool) (c : Int) (x : Tri) : Tri := if u = true ∧ x.c = c then { x with u := true } else x
theorem one_old {led : List (Addr × Obj)} {a : Tup} {u : Bool} {c : Int} (h : (a.t, a.obj) ∈ led) (n : u = false ∨ a.k.c ≠ c) : One led a.t (mkM u c a.k) := by
  refine ⟨a, rfl, h, ?_⟩
  unfold mkM; rw [if_neg]
  rintro ⟨h1, h2⟩
  rcases n with n | n
  · rw [n] at h1; cases h1
  · exact n h2
theorem one_new {led : List (Addr × Obj)} {a : Tup} {t : Addr} {tg tc : Tok} {n : Nat} {u : Bool} {c : Int} (h : (t, ({ cls := .type "tuple", data := .seq #[.int a.k.g tg, .int c tc, .bool true] n } : Obj)) ∈ led) (hu : u = true) (hc : a.k.c = c) : One led t (mkM u c a.k) := by
  refine ⟨⟨t, ⟨a.k.g, c, true⟩, tg, tc, n⟩, rfl, h, ?_⟩
  unfold mkM; rw [if_pos ⟨hu, hc⟩, ← hc]
/-- the law's own step -/
def setIf (old c : Int) (x : Tri) : Tri := if x.c = old then ⟨x.g, c, false⟩ else x
def lowIf (old lo : Int) (x : Tri) : Tri := if x.c = old then ⟨x.g, lo, x.u && decide (old = lo)⟩ else x
def GoneR (r : Value) (led' : List (Addr × Obj)) (ks : List Tri) : Prop := ∃ r' ts' nn, r = .ref r' ∧ (r', listOf (trefs ts').toArray nn) ∈ led' ∧ TupsIn led' ts' ∧ tris ts' = ks
theorem goneR_of {r' : Addr} {led' : List (Addr × Obj)} {vs : List Value} {nn : Nat} {ks : List Tri} (hl : (r', listOf vs.toArray nn) ∈ led') (h : Vals led' vs ks) : GoneR (.ref r') led' ks := by
  obtain ⟨ts, rfl, hin, rfl⟩ := h
  exact ⟨r', ts, nn, rfl, hl, hin, rfl⟩
end Mine
namespace Mine
theorem tris_snoc {ts' : List Tup} {l : List Tri} {k : Tri} (h : tris ts' = l ++ [k]) : ∃ P a', ts' = P ++ [a'] ∧ tris P = l ∧ a'.k = k := by
  obtain ⟨P, q, e, h1, h2⟩ := List.map_eq_append_iff.mp h
  obtain ⟨a', r, e2, h3, h4⟩ := List.map_eq_cons_iff.mp h2
  have : r = [] := List.map_eq_nil_iff.mp h4
  subst this
  exact ⟨P, a', by rw [e, e2], h1, h3⟩
theorem tris_len {ts : List Tup} {l : List Tri} (h : tris ts = l) : ts.length = l.length := by rw [← h]; simp
end Mine
namespace Mine
section
variable {prog : Program} {w : World} {A : Around} {E : Value → Shared → Prop} {s : Shared} {L D : Addr} {h₀ : Heap} {news : List (Addr × Obj)}
theorem notin_led {vs : List Value} {ns : List Int} {n : Nat} {x : Int} {t : Tok} {Q : Value → Shared → Prop} (N : News h₀ L s.heap news) (hm : (D, listOf vs.toArray n) ∈ news) (hi : IntsAre vs ns) (h : Q (.bool (!ns.any fun y => y == x)) s) :
    wpAny (model prog w) A (compareOp .NotIn (.int x t) (.ref D)) Q E s := notin_list_ints (PySem.IsL.isList (n := n) (N _ hm).1) hi h
end
end Mine
namespace Mine
section
variable {prog : Program} {w : World} {A : Around} {E : Value → Shared → Prop} {s : Shared} {L l : Addr} {h₀ : Heap} {news : List (Addr × Obj)}
theorem len_led {vs : List Value} {n : Nat} {Q : Value → Shared → Prop} (N : News h₀ L s.heap news) (hl : (l, listOf vs.toArray n) ∈ news) (hfit : vs.length ≤ 1000) (h : ∀ t, Q (.int (vs.length : Nat) t) { s with toks := s.toks + 1 + 1 }) :
    wpAny (model prog w) A (call (.builtin "len") [.ref l]) Q E s := by
  have hL : s.heap.IsList l vs.toArray := PySem.IsL.isList (n := n) (N _ hl).1
  have hsz : vs.toArray.size = vs.length := by simp
  refine len_list hL (by rw [hsz]; omega) ?_
  rw [hsz]; exact h _
end
end Mine
namespace Mine
end Mine
namespace Mine
section
variable {A : Around} {prog : Program} {w : World} {E : Value → Shared → Prop} {s : Shared} {L l : Addr} {h₀ : Heap} {news : List (Addr × Obj)} {value slice : PySem.Expr} {vs : List Value} {nn : Nat} {z : Int} {u : Tok} {Q : Value → Shared → Prop}
theorem item_any (N : News h₀ L s.heap news) (hl : (l, listOf vs.toArray nn) ∈ news) (h0 : 0 ≤ z) (h1 : z < (vs.length : Int)) (hfit : vs.length ≤ 1000) (h : ∀ x ∈ vs, Q x s)
    (hs : subscripted slice false (.ref l) (.int z u) = operate [.ref l, .int z u] (getItem (.ref l) (.int z u)) := by with_unfolding_all rfl) :
    wpAny (model prog w) A (subscriptTail value slice (.ref l) (.int z u)) Q E s := by
  obtain ⟨k, rfl⟩ := Int.eq_ofNat_of_zero_le h0
  have hL : s.heap.IsList l vs.toArray := PySem.IsL.isList (n := nn) (N _ hl).1
  have hlt : k < vs.length := by omega
  exact tail_any hL.typeIs slot_list_getitem.lookup (wpAny_getItem_list hL (by omega) (by omega) (x := vs[k]) (by simp [hlt]) (h _ (List.getElem_mem hlt))) hs
theorem menu_int {a b c : Int} {t1 t2 t3 : Tok} (N : News h₀ L s.heap news) (hl : (l, listOf [Value.int a t1, .int b t2, .int c t3].toArray nn) ∈ news) (h0 : 0 ≤ z) (h1 : z < 3) (h : ∀ n t, (n = a ∨ n = b ∨ n = c) → Q (.int n t) s)
    (hs : subscripted slice false (.ref l) (.int z u) = operate [.ref l, .int z u] (getItem (.ref l) (.int z u)) := by with_unfolding_all rfl) :
    wpAny (model prog w) A (subscriptTail value slice (.ref l) (.int z u)) Q E s :=
  item_any N hl h0 (by simpa using h1) (by simp) (fun x hx => by
    simp only [List.mem_cons, List.not_mem_nil, or_false] at hx
    rcases hx with rfl | rfl | rfl
    · exact h _ _ (.inl rfl)
    · exact h _ _ (.inr (.inl rfl))
    · exact h _ _ (.inr (.inr rfl))) hs
theorem menu_str {a b c : Str} {t1 t2 t3 : Tok} (N : News h₀ L s.heap news) (hl : (l, listOf [Value.str a t1, .str b t2, .str c t3].toArray nn) ∈ news) (h0 : 0 ≤ z) (h1 : z < 3) (h : ∀ n t, Q (.str n t) s)
    (hs : subscripted slice false (.ref l) (.int z u) = operate [.ref l, .int z u] (getItem (.ref l) (.int z u)) := by with_unfolding_all rfl) :
    wpAny (model prog w) A (subscriptTail value slice (.ref l) (.int z u)) Q E s :=
  item_any N hl h0 (by simpa using h1) (by simp) (fun x hx => by
    simp only [List.mem_cons, List.not_mem_nil, or_false] at hx
    rcases hx with rfl | rfl | rfl <;> exact h _ _) hs
end
end Mine
end
section
open Mine
namespace Mine
def RPost (h₀ : Heap) (L I : Addr) (oI : Obj) (J : (Str → Option Value) → List (Addr × Obj) → Prop) (s₁ : Shared) (Q : Flow → Shared → Prop) (f : Flow) (s₂ : Shared) : Prop :=
  match f with
  | .ret v => Q (.ret v) s₂
  | .brk => Q .next s₂
  | _ => ∃ h' tk m' nx, s₂ = { s₁ with heap := h', toks := tk } ∧ Fr h₀ L h' m' ∧ News h₀ L h' ((I, oI) :: nx) ∧ (∀ q ∈ nx, q.1 ≠ I) ∧ J m' nx
theorem rpost_next {h₀ : Heap} {L I : Addr} {oI : Obj} {J : (Str → Option Value) → List (Addr × Obj) → Prop} {s₁ : Shared} {Q : Flow → Shared → Prop} {h' : Heap} {tk : Nat} {m' : Str → Option Value} {nx : List (Addr × Obj)}
    (F : Fr h₀ L h' m') (N : News h₀ L h' ((I, oI) :: nx)) (off : ∀ q ∈ nx, q.1 ≠ I) (hJ : J m' nx) : RPost h₀ L I oI J s₁ Q .next { s₁ with heap := h', toks := tk } := ⟨h', tk, m', nx, rfl, F, N, off, hJ⟩
section
variable {prog : Program} {w : World} {A : Around} {E : Value → Shared → Prop} {s : Shared} {env : Env} {h₀ : Heap} {x : Str} {body : List Stmt} {Q : Flow → Shared → Prop}
/-- a for over range(z) -/
theorem iter_range {r : Addr} {z : Int} {t u v : Tok} {m₀ : Str → Option Value} {news : List (Addr × Obj)} (J : Nat → (Str → Option Value) → List (Addr × Obj) → Prop)
    (hh : A.handled = none) (hr : IsRange s.heap r 0 z 1 t u v) (hz0 : 0 ≤ z) (hz1 : z ≤ 1000) (F : Fr h₀ env.locals s.heap m₀) (N : News h₀ env.locals s.heap news) (hj : J 0 m₀ news)
    (turn : ∀ i m₁ nx I oI tv h tk, i < z.toNat → J i m₁ nx → (∀ q ∈ nx, q.1 ≠ I) → Fr h₀ env.locals h (fun y => if y = x then some (.int (i : Int) tv) else m₁ y) → News h₀ env.locals h ((I, oI) :: nx) →
      wpAny (model prog w) A (execs body env) (RPost h₀ env.locals I oI (J (i + 1)) { s with heap := h, toks := tk } Q) E { s with heap := h, toks := tk })
    (done : ∀ m₁ nx h tk, J z.toNat m₁ nx → Fr h₀ env.locals h m₁ → News h₀ env.locals h nx → Q .next { s with heap := h, toks := tk }) :
    wpAny (model prog w) A (pyIter (.ref r)) (fun it s₂ => LoopAtV prog w A h₀ env x body Q E it s₂) E s := by
  have hsm : Builtin.Range.small 0 z 1 = true := small_one (by decide) (by decide) (by omega) (by omega)
  obtain ⟨n, rfl⟩ := Int.eq_ofNat_of_zero_le hz0
  have hn : Builtin.Range.rangeSize 0 (n : Int) 1 = ((n : Nat) : Int) := by rw [rangeSize_nat]; simp
  rw [Int.toNat_natCast] at turn done
  refine wpAny_pyIter_range hr hsm ?_
  have W := LCg.range_walks (prog := prog) (w := w) (I := s.heap.objs.size) hh 0 n
  refine ⟨_, _, _, n, _, _, m₀, news, J, rfl, W, ?_, ?_, ?_, (by show IsRangeIter _ _ _ _ _; rw [hn]; simpa using Heap.get?_push_size _ rfl), F.push _, (fun p hp => ⟨Heap.get?_push_of_some _ (N p hp).1, (N p hp).2⟩), hj, ?_, ?_⟩
  · intro hm
    exact absurd F.ns.lt (List.mem_singleton.mp hm ▸ Nat.lt_irrefl _)
  · intro b hb
    rw [List.mem_singleton.mp hb]
    exact next_is_new F
  · intro p hp hI
    exact absurd (Heap.lt_size (N p hp).1) ((List.mem_singleton.mp hI) ▸ Nat.lt_irrefl _)
  · rintro i v m₁ nx s₁ own ⟨hh', tk', rfl⟩ hin ⟨tv, rfl⟩ hJ hoff hown hget hfp st F₁ N₁
    obtain ⟨oI, heI⟩ : ∃ o, hh'.get? s.heap.objs.size = some o := ⟨_, st⟩
    have hI₀ : h₀.get? s.heap.objs.size = none := next_is_new F
    have hIown : (s.heap.objs.size, oI) ∈ own := hfp _ (W.sub _ (List.mem_singleton.mpr rfl)) hI₀ oI heI
    have N₂ : News h₀ env.locals hh' ((s.heap.objs.size, oI) :: nx) := fun p hp => by
      rcases List.mem_cons.mp hp with rfl | hp
      · exact N₁ _ (List.mem_append_left _ hIown)
      · exact N₁ p (List.mem_append_right _ hp)
    rw [Int.zero_add] at F₁
    refine wpAny_mono (turn i m₁ nx s.heap.objs.size oI tv hh' tk' hin hJ (fun q hq e => hoff q hq (List.mem_singleton.mpr e)) F₁ N₂) (fun f s₂ p => ?_) fun _ _ e => e
    have fin : (∃ h' tk m' nx, s₂ = { s with heap := h', toks := tk } ∧ Fr h₀ env.locals h' m' ∧ News h₀ env.locals h' ((s.heap.objs.size, oI) :: nx) ∧ (∀ q ∈ nx, q.1 ≠ s.heap.objs.size) ∧ J (i + 1) m' nx) →
        LoopStepU h₀ env.locals [s.heap.objs.size] own (J (i + 1)) { s with heap := hh', toks := tk' } .next s₂ := by
      rintro ⟨h', tk, m', nx', rfl, F', N', off', hJ'⟩
      refine ⟨rfl, h', tk, m', nx', rfl, F', fun p hp => ?_, fun p hp hI => off' p hp (List.mem_singleton.mp hI), hJ'⟩
      rcases List.mem_append.mp hp with h | h
      · have h2 : hh'.get? p.1 = some p.2 := hget p h
        have h1 := List.mem_singleton.mp (hown p h)
        rw [h1, heI] at h2
        have h3 : p = (s.heap.objs.size, oI) := Prod.ext h1 (Option.some.inj h2).symm
        rw [h3]; exact N' _ List.mem_cons_self
      · exact N' p (List.mem_cons_of_mem _ h)
    cases f with
    | ret v => exact .ret p
    | brk => exact .brk p
    | next => exact .next (fin p)
    | cont => exact .cont (fin p)
  · rintro h' tk m' news' F' N' _ hJ
    exact done m' news' h' tk hJ F' N'
end
end Mine
end
section
open Mine
namespace Mine
theorem ne_of_above {l : List (Addr × Obj)} {b d : Nat} (h : ∀ p ∈ l, b < p.1) (k : d ≤ b) : ∀ p ∈ l, p.1 ≠ d := fun p hp e => by
  have h1 : @LT.lt Nat _ b p.1 := h p hp
  have h2 : @Eq Nat p.1 d := e
  omega
theorem neLt {a b : Nat} (h : @Ne Addr a b) : @LT.lt Nat _ a b ∨ @LT.lt Nat _ b a := Nat.lt_or_gt_of_ne h
def Ord (st a b : Int) : Prop := if 0 ≤ st then a ≤ b else b ≤ a
theorem Ord.refl {st a : Int} : Ord st a a := by unfold Ord; split <;> omega
theorem Ord.step {st a c v : Int} (h : Ord st a c) (hv : 0 ≤ v) (hs : st = 1 ∨ st = 0 ∨ st = -1) : Ord st a (c + st * v) := by
  unfold Ord at *
  rcases hs with rfl | rfl | rfl
  · rw [if_pos (by decide)] at *; omega
  · rw [if_pos (by decide)] at *; omega
  · rw [if_neg (by decide)] at *; omega
def Shape (st c : Int) (rows : List Inf) : Prop :=
  rows.Pairwise (fun a b => a.g < b.g ∧ Ord st a.c b.c) ∧ ∀ a ∈ rows, a.g < 40 + (rows.length : Int) ∧ Ord st a.c c
theorem Shape.nil {st c : Int} : Shape st c [] := ⟨List.Pairwise.nil, fun _ h => nomatch h⟩
theorem Shape.snoc {st c v : Int} {rows : List Inf} {i : Inf} (h : Shape st c rows) (hv : 0 ≤ v) (hs : st = 1 ∨ st = 0 ∨ st = -1) (hg : i.g = 40 + (rows.length : Int)) (hc : i.c = c + st * v) : Shape st (c + st * v) (rows ++ [i]) := by
  refine ⟨List.pairwise_append.mpr ⟨h.1, List.pairwise_singleton _ _, fun a ha b hb => ?_⟩, fun a ha => ?_⟩
  · rw [List.mem_singleton.mp hb, hg, hc]
    exact ⟨(h.2 a ha).1, (h.2 a ha).2.step hv hs⟩
  · rw [List.length_append, List.length_singleton]
    rcases List.mem_append.mp ha with ha | ha
    · have := (h.2 a ha).1
      exact ⟨by omega, (h.2 a ha).2.step hv hs⟩
    · rw [List.mem_singleton.mp ha, hg, hc]
      exact ⟨by omega, Ord.refl⟩
theorem rows_fit {rows : List Inf} (h : rows.length ≤ 1000) : (refs rows).toArray.size ≤ sizeLine := by rw [sizeLine_eq]; simp [refs]; omega
structure Infs (tl : List (Addr × Obj)) (rows : List Inf) : Prop where
  inf : ∀ i ∈ rows, InfAt tl i.x i
  nd : (rows.map Inf.d).Nodup
  xd : ∀ i ∈ rows, ∀ j ∈ rows, i.x ≠ j.d
theorem Infs.nil {tl : List (Addr × Obj)} : Infs tl [] := ⟨fun _ h => (nomatch h), List.Pairwise.nil, fun _ h => (nomatch h)⟩
/-- a new Info, above all there was -/
theorem Infs.snoc {tl : List (Addr × Obj)} {rows : List Inf} {x d : Addr} {ox od : Obj} {i : Inf} (h : Infs tl rows) (I : InfAt [(x, ox), (d, od)] x i) (hi : i.d = d) (hx : ∀ q ∈ tl, q.1 < x) (hd : ∀ q ∈ tl, q.1 < d) (hn : x ≠ d) : Infs ((x, ox) :: (d, od) :: tl) (rows ++ [i]) := by
  have hix := I.x
  have lx : ∀ j ∈ rows, j.x < x ∧ j.x < d ∧ j.d < x ∧ j.d < d := fun j hj => ⟨hx _ (h.inf j hj).at_.1, hd _ (h.inf j hj).at_.1, hx _ (h.inf j hj).at_.2, hd _ (h.inf j hj).at_.2⟩
  refine ⟨fun j hj => ?_, ?_, fun a ha b hb => ?_⟩
  · rcases List.mem_append.mp hj with hj | hj
    · exact ((h.inf j hj).cons).cons
    · rw [List.mem_singleton.mp hj, hix]
      exact I.mono fun q hq => by simp at hq ⊢; rcases hq with rfl | rfl <;> simp
  · rw [List.map_append]
    refine List.pairwise_append.mpr ⟨h.nd, List.pairwise_singleton _ _, fun a ha b hb => ?_⟩
    obtain ⟨j, hj, rfl⟩ := List.mem_map.mp ha
    rw [List.map_singleton, List.mem_singleton] at hb
    rw [hb, hi]
    intro e
    exact absurd (e ▸ (lx j hj).2.2.2) (Nat.lt_irrefl _)
  · rcases List.mem_append.mp ha with ha | ha <;> rcases List.mem_append.mp hb with hb | hb
    · exact h.xd a ha b hb
    · rw [List.mem_singleton.mp hb, hi]
      exact fun e => absurd (e ▸ (lx a ha).2.1) (Nat.lt_irrefl _)
    · rw [List.mem_singleton.mp ha, hix]
      exact fun e => absurd (e ▸ (lx b hb).2.2.1) (Nat.lt_irrefl _)
    · rw [List.mem_singleton.mp ha, List.mem_singleton.mp hb, hix, hi]
      exact hn
theorem Infs.row {tl a : List (Addr × Obj)} {rows : List Inf} {il : Addr} {n : Nat} (h : Infs tl rows) (hl : ∀ q ∈ tl, il < q.1) (sub : ∀ q ∈ tl, q ∈ a) (hm : (il, listOf (refs rows).toArray n) ∈ a) : RowAt a il rows :=
  ⟨⟨n, hm⟩, fun i hi => (h.inf i hi).mono sub, h.nd, h.xd, fun i hi e => absurd (e ▸ hl _ (h.inf i hi).at_.2) (Nat.lt_irrefl _)⟩
def canM (cv lv iv : Option Value) (m : Str → Option Value) : Str → Option Value := fun y => if y = "cluster" then cv else if y = "lap" then lv else if y = "info" then iv else m y
theorem canM_start {m : Str → Option Value} : m = canM (m "cluster") (m "lap") (m "info") m := by
  funext y; unfold canM; split; next h => rw [h]
  split; next h => rw [h]
  split; next h => rw [h]
  rfl
theorem canM_next {m : Str → Option Value} {cv lv iv a b c : Option Value} : (fun y => if y = ("info" : Str) then a else if y = ("cluster" : Str) then b else if y = ("lap" : Str) then c else canM cv lv iv m y) = canM b c a m := by
  funext y; unfold canM
  by_cases h1 : y = "info"
  · subst h1; rfl
  · by_cases h2 : y = "cluster"
    · subst h2; rfl
    · by_cases h3 : y = "lap"
      · subst h3; rfl
      · simp [h1, h2, h3]
def LawJ (m₀ : Str → Option Value) (pen cl il : Addr) (oc : Obj) (S : Int) (tS : Tok) (st : Int) (i : Nat) (m : Str → Option Value) (nx : List (Addr × Obj)) : Prop :=
  ∃ (c : Int) (tc : Tok) (lv iv : Option Value) (k : Int) (tk : Tok) (nn n2 : Nat) (rows : List Inf) (tl : List (Addr × Obj)),
    m = canM (some (.int c tc)) lv iv m₀ ∧ nx = (pen, listOf #[.ref cl, .int k tk, .int S tS] nn) :: (cl, oc) :: (il, listOf (refs rows).toArray n2) :: tl ∧ k = 2 + 4 * (i : Int) ∧ (∀ q ∈ tl, il < q.1) ∧ Infs tl rows ∧ rows.length = i ∧ Shape st c rows
theorem lawJ_start {m₀ : Str → Option Value} {pen cl il : Addr} {oc : Obj} {S k c : Int} {tS tk tc : Tok} {st : Int} {nn n2 : Nat} (_hs : st = 1 ∨ st = 0 ∨ st = -1) (hk : k = 2) (hc : m₀ "cluster" = some (.int c tc)) :
    LawJ m₀ pen cl il oc S tS st 0 m₀ [(pen, listOf #[.ref cl, .int k tk, .int S tS] nn), (cl, oc), (il, listOf #[] n2)] :=
  ⟨c, tc, m₀ "lap", m₀ "info", k, tk, nn, n2, [], [], by rw [← hc]; exact canM_start, rfl, by omega, fun _ h => (nomatch h), Infs.nil, rfl, Shape.nil⟩
theorem allLt_all {d : Addr} : ∀ {l : List (Addr × Obj)}, AllLt d l → ∀ q ∈ l, q.1 < d
  | [], _ => fun _ h => (nomatch h)
  | _ :: _, h => fun q hq => by
    rcases List.mem_cons.mp hq with rfl | hq
    · exact h.1
    · exact allLt_all h.2 q hq
theorem lawJ_next {h₀ h' : Heap} {L I pen cl il x d a1 a2 : Addr} {oI oc o1 o2 : Obj} {m₀ : Str → Option Value} {S k c v g lg : Int} {tS tkk tc' : Tok} {st : Int} {i nn n3 n tk : Nat} {s₁ : Shared} {Q : Flow → Shared → Prop} {es : List DictEntry} {a lv' cv lv iv : Option Value} {rows : List Inf} {tl : List (Addr × Obj)} {u : Bool} {kd : Str}
    (F : Fr h₀ L h' (fun y => if y = ("info" : Str) then a else if y = ("cluster" : Str) then some (.int (c + st * v) tc') else if y = ("lap" : Str) then lv' else canM cv lv iv m₀ y))
    (N : News h₀ L h' ((a1, o1) :: (a2, o2) :: (x, instObj 52 d) :: (d, dictOf es n) :: (I, oI) :: (pen, listOf #[.ref cl, .int k tkk, .int S tS] nn) :: (cl, oc) :: (il, listOf ((refs rows).toArray.push (.ref x)) n3) :: tl))
    (l1 : I < d ∧ pen < d ∧ cl < d ∧ il < d ∧ AllLt d tl) (l2 : d < x) (hI1 : pen ≠ I) (hI2 : cl ≠ I) (hI3 : il ≠ I) (hI4 : ∀ q ∈ tl, q.1 ≠ I) (hk : k = 2 + 4 * ((i + 1 : Nat) : Int)) (htl : ∀ q ∈ tl, il < q.1) (hInf : Infs tl rows) (hlen : rows.length = i) (hsh : Shape st c rows) (hv : 0 ≤ v) (hs : st = 1 ∨ st = 0 ∨ st = -1)
    (ok : Inf.Ok ⟨x, d, es, n, g, c + st * v, u, kd, lg⟩) (hg : g = 40 + (i : Int)) :
    RPost h₀ L I oI (LawJ m₀ pen cl il oc S tS st (i + 1)) s₁ Q .next { s₁ with heap := h', toks := tk } := by
  have hdl := allLt_all l1.2.2.2.2
  have hxl : ∀ q ∈ tl, q.1 < x := fun q hq => Nat.lt_trans (hdl q hq) l2
  rw [canM_next] at F
  refine rpost_next (nx := (pen, listOf #[.ref cl, .int k tkk, .int S tS] nn) :: (cl, oc) :: (il, listOf (refs (rows ++ [⟨x, d, es, n, g, c + st * v, u, kd, lg⟩])).toArray n3) :: (x, instObj 52 d) :: (d, dictOf es n) :: tl) F (news_sub N fun q hq => ?_) (fun q hq => ?_) ⟨_, _, _, _, k, tkk, nn, n3, rows ++ [⟨x, d, es, n, g, c + st * v, u, kd, lg⟩], (x, instObj 52 d) :: (d, dictOf es n) :: tl, rfl, rfl, hk, fun q hq => ?_, hInf.snoc ⟨rfl, ok, List.mem_cons_self, List.mem_cons_of_mem _ List.mem_cons_self⟩ rfl hxl hdl (fun e => Nat.lt_irrefl _ (e ▸ l2)), by rw [List.length_append, List.length_singleton, hlen], hsh.snoc hv hs (by rw [hlen]; exact hg) rfl⟩
  · have e : (refs (rows ++ [⟨x, d, es, n, g, c + st * v, u, kd, lg⟩])).toArray = (refs rows).toArray.push (.ref x) := by simp [refs]
    rw [e] at hq
    simp only [List.mem_cons] at hq ⊢
    rcases hq with h | h | h | h | h | h | h <;> simp [h]
  · simp only [List.mem_cons] at hq
    rcases hq with h | h | h | h | h | h
    · rw [h]; exact hI1
    · rw [h]; exact hI2
    · rw [h]; exact hI3
    · rw [h]; exact fun e => Nat.lt_irrefl _ (Nat.lt_trans l1.1 (e ▸ l2))
    · rw [h]; exact fun e => Nat.lt_irrefl _ (e ▸ l1.1)
    · exact hI4 q h
  · simp only [List.mem_cons] at hq
    rcases hq with h | h | h
    · rw [h]; exact Nat.lt_trans l1.2.2.2.1 l2
    · rw [h]; exact l1.2.2.2.1
    · exact htl q h
theorem law_news {h₀ h : Heap} {L D il mn pen cl D2 : Addr} {T A M P O O2 : Obj} (N : News h₀ L h [(D, T), (il, A), (mn, M), (pen, P), (cl, O), (D2, O2)]) : News h₀ L h [(pen, P), (cl, O), (il, A)] :=
  news_sub N fun q hq => by
    simp only [List.mem_cons, List.not_mem_nil, or_false] at hq ⊢
    rcases hq with h | h | h <;> simp [h]
end Mine
end
section
open Mine
namespace Mine
open PyProof.Rows.LCg PyProof.Rows.LCt
section
variable {prog : Program} {w : World} {A : Around} {E : Value → Shared → Prop} {s : Shared} {L : Addr} {h₀ : Heap} {m : Str → Option Value}
theorem intsAre_snoc {vs : List Value} {ns : List Int} {z : Int} {t : Tok} (h : IntsAre vs ns) : IntsAre (vs ++ [.int z t]) (ns ++ [z]) := IntsAre.append h (.cons z t .nil)
/-- a comprehension that makes tuples -/
theorem comp_mk {env : Env} {elt : PySem.Expr} {x : Str} {scope : Scope} {cl : List (Str × Addr)} {Fin : List Value → List (Addr × Obj) → Prop} {led : List (Addr × Obj)} {vs : List Value} {rs : List Tri} {l : Addr} {nn : Nat} (hl : (l, listOf vs.toArray nn) ∈ led) (hlen : rs.length = vs.length)
    (step : ∀ (i : Nat) v r, vs[i]? = some v → rs[i]? = some r → ∀ I oI C oC D m₂ ys h tk (E' : Value → Shared → Prop) news', (∀ q ∈ led, q ∈ news') → NsObj oC m₂ → m₂ x = some v → Fr h₀ L h m → News h₀ L h ((I, oI) :: (C, oC) :: (D, lst ys) :: news') → Off3 I C D news' → ((@Ne Nat I C) ∧ (@Ne Nat I D) ∧ (@Ne Nat C D)) →
      wpAny (model prog w) A (eval elt (compEnvC scope cl C env)) (TStep h₀ L m { s with heap := h, toks := tk } I oI C oC D (lst ys) news' r) E' { s with heap := h, toks := tk })
    (fin : ∀ ts' news', tris ts' = rs → TupsIn news' ts' → (∀ q ∈ led, q ∈ news') → Fin (trefs ts') news') :
    CompRest prog w A h₀ L m env elt x scope cl s (SrcAt h₀ l vs.toArray) (fun i v => vs.toArray[i]? = some v) Fin vs.toArray.size 0 [] led := by
  have key : ∀ (j i : Nat) (ts' : List Tup) (news' : List (Addr × Obj)), i + j = vs.length → tris ts' = rs.take i → TupsIn news' ts' → (∀ q ∈ led, q ∈ news') →
      CompRest prog w A h₀ L m env elt x scope cl s (SrcAt h₀ l vs.toArray) (fun i v => vs.toArray[i]? = some v) Fin j i (trefs ts') news' := by
    intro j
    induction j with
    | zero =>
      intro i ts' news' hi ht hin hsub
      have e : i = rs.length := by omega
      subst e
      rw [List.take_length] at ht
      exact CompRest.zero (fin ts' news' ht hin hsub)
    | succ j ih =>
      intro i ts' news' hi ht hin hsub
      refine CompRest.succ ?_
      intro v I oI C oC D m₂ h tk E' hv hC hx F N off ne
      have hlt : i < rs.length := by omega
      have hT : rs[i]? = some rs[i] := List.getElem?_eq_getElem hlt
      have hv' : vs[i]? = some v := by simpa using hv
      refine wpAny_mono (step i v rs[i] hv' hT I oI C oC D m₂ (trefs ts') h tk E' news' hsub hC hx F N off ne) (fun y s₂ hq => ?_) fun _ _ e => e
      obtain ⟨h', tk', nw, T', e, F', N', off', hsub', hy, hT', hk⟩ := hq
      refine ⟨h', tk', nw, e, F', N', off', .inr ⟨_, hsub' _ (hsub _ hl), rfl, _, rfl⟩, ?_⟩
      have et : trefs ts' ++ [y] = trefs (ts' ++ [T']) := by rw [hy]; simp [trefs]
      dsimp only
      rw [et]
      refine ih (i + 1) (ts' ++ [T']) nw (by omega) ?_ ?_ fun q hq => hsub' q (hsub q hq)
      · have e2 : rs.take (i + 1) = rs.take i ++ [rs[i]] := by rw [List.take_add_one, hT]; rfl
        simp only [tris] at ht ⊢
        rw [e2, List.map_append, ht]
        simp [hk]
      · intro T hT2
        rcases List.mem_append.mp hT2 with h1 | h1
        · exact hsub' _ (hin T h1)
        · rw [List.mem_singleton.mp h1]; exact hT'
  have hsz : vs.toArray.size = vs.length := by simp
  rw [hsz]
  exact key vs.length 0 [] led (by omega) (by simp) (fun _ h => nomatch h) fun _ h => h
/-- a comprehension that makes ints -/
theorem comp_ints {env : Env} {elt : PySem.Expr} {x : Str} {scope : Scope} {cl : List (Str × Addr)} {Fin : List Value → List (Addr × Obj) → Prop} {led : List (Addr × Obj)} {vs : List Value} {ns : List Int} {l : Addr} {nn : Nat} (hl : (l, listOf vs.toArray nn) ∈ led) (hlen : ns.length = vs.length)
    (step : ∀ (i : Nat) v z, vs[i]? = some v → ns[i]? = some z → ∀ I oI C oC D m₂ ys h tk (E' : Value → Shared → Prop), NsObj oC m₂ → m₂ x = some v → Fr h₀ L h m → News h₀ L h ((I, oI) :: (C, oC) :: (D, lst ys) :: led) → Off3 I C D led → ((@Ne Nat I C) ∧ (@Ne Nat I D) ∧ (@Ne Nat C D)) → SrcAt h₀ l vs.toArray led →
      wpAny (model prog w) A (eval elt (compEnvC scope cl C env)) (CompEnd h₀ L m { s with heap := h, toks := tk } I oI C oC D (lst ys) (SrcAt h₀ l vs.toArray) (fun y nw => nw = led ∧ ∃ t, y = .int z t)) E' { s with heap := h, toks := tk })
    (fin : ∀ ys, IntsAre ys ns → Fin ys led) :
    CompRest prog w A h₀ L m env elt x scope cl s (SrcAt h₀ l vs.toArray) (fun i v => vs.toArray[i]? = some v) Fin vs.toArray.size 0 [] led := by
  have hS : SrcAt h₀ l vs.toArray led := .inr ⟨_, hl, rfl, _, rfl⟩
  have key : ∀ (j i : Nat) (ys : List Value), i + j = vs.length → IntsAre ys (ns.take i) →
      CompRest prog w A h₀ L m env elt x scope cl s (SrcAt h₀ l vs.toArray) (fun i v => vs.toArray[i]? = some v) Fin j i ys led := by
    intro j
    induction j with
    | zero =>
      intro i ys hi ht
      have e : i = ns.length := by omega
      subst e
      rw [List.take_length] at ht
      exact CompRest.zero (fin ys ht)
    | succ j ih =>
      intro i ys hi ht
      refine CompRest.succ ?_
      intro v I oI C oC D m₂ h tk E' hv hC hx F N off ne
      have hlt : i < ns.length := by omega
      have hT : ns[i]? = some ns[i] := List.getElem?_eq_getElem hlt
      have hv' : vs[i]? = some v := by simpa using hv
      refine wpAny_mono (step i v ns[i] hv' hT I oI C oC D m₂ ys h tk E' hC hx F N off ne hS) (fun y s₂ hq => ?_) fun _ _ e => e
      obtain ⟨h', tk', nw, e, F', N', off', hS', rfl, t, rfl⟩ := hq
      refine ⟨h', tk', nw, e, F', N', off', hS', ih (i + 1) _ (by omega) ?_⟩
      have e2 : ns.take (i + 1) = ns.take i ++ [ns[i]] := by rw [List.take_add_one, hT]; rfl
      rw [e2]; exact intsAre_snoc ht
  have hsz : vs.toArray.size = vs.length := by simp
  rw [hsz]
  exact key vs.length 0 [] (by omega) (by simpa using IntsAre.nil)
/-- the same, with a test -/
theorem comp_intsT {env : Env} {ct elt : PySem.Expr} {x : Str} {scope : Scope} {cl : List (Str × Addr)} {Fin : List Value → List (Addr × Obj) → Prop} {led : List (Addr × Obj)} {vs : List Value} {ns : List (Option Int)} {l : Addr} {nn : Nat} (hl : (l, listOf vs.toArray nn) ∈ led) (hlen : ns.length = vs.length)
    (step : ∀ (i : Nat) v z, vs[i]? = some v → ns[i]? = some z → ∀ I oI C oC D m₂ ys h tk (E' : Value → Shared → Prop), NsObj oC m₂ → m₂ x = some v → Fr h₀ L h m → News h₀ L h ((I, oI) :: (C, oC) :: (D, lst ys) :: led) → Off3 I C D led → ((@Ne Nat I C) ∧ (@Ne Nat I D) ∧ (@Ne Nat C D)) → SrcAt h₀ l vs.toArray led →
      wpAny (model prog w) A (isTrue ct (compEnvC scope cl C env) (eval ct (compEnvC scope cl C env))) (fun ok s' => if ok = true then
        wpAny (model prog w) A (eval elt (compEnvC scope cl C env)) (CompEnd h₀ L m { s with heap := h, toks := tk } I oI C oC D (lst ys) (SrcAt h₀ l vs.toArray) (fun y nw => nw = led ∧ ∃ q t, z = some q ∧ y = .int q t)) E' s'
        else CompEnd h₀ L m { s with heap := h, toks := tk } I oI C oC D (lst ys) (SrcAt h₀ l vs.toArray) (fun _ nw => nw = led ∧ z = none) Value.none s') E' { s with heap := h, toks := tk })
    (fin : ∀ ys, IntsAre ys (ns.filterMap id) → Fin ys led) :
    CompRestT prog w A h₀ L m env ct elt x scope cl s (SrcAt h₀ l vs.toArray) (fun i v => vs.toArray[i]? = some v) Fin vs.toArray.size 0 [] led := by
  have hS : SrcAt h₀ l vs.toArray led := .inr ⟨_, hl, rfl, _, rfl⟩
  have key : ∀ (j i : Nat) (ys : List Value), i + j = vs.length → IntsAre ys ((ns.take i).filterMap id) →
      CompRestT prog w A h₀ L m env ct elt x scope cl s (SrcAt h₀ l vs.toArray) (fun i v => vs.toArray[i]? = some v) Fin j i ys led := by
    intro j
    induction j with
    | zero =>
      intro i ys hi ht
      have e : i = ns.length := by omega
      subst e
      rw [List.take_length] at ht
      exact CompRestT.zero (fin ys ht)
    | succ j ih =>
      intro i ys hi ht
      refine CompRestT.succ ?_
      intro v I oI C oC D m₂ h tk E' hv hC hx F N off ne
      have hlt : i < ns.length := by omega
      have hT : ns[i]? = some ns[i] := List.getElem?_eq_getElem hlt
      have hv' : vs[i]? = some v := by simpa using hv
      have e2 : ns.take (i + 1) = ns.take i ++ [ns[i]] := by rw [List.take_add_one, hT]; rfl
      refine wpAny_mono (step i v ns[i] hv' hT I oI C oC D m₂ ys h tk E' hC hx F N off ne hS) (fun ok s' hq => ?_) fun _ _ e => e
      cases ok with
      | true =>
        simp only [if_true] at hq ⊢
        refine wpAny_mono hq (fun y s₂ hq => ?_) fun _ _ e => e
        obtain ⟨h', tk', nw, e, F', N', off', hS', rfl, q, t, hz, rfl⟩ := hq
        refine ⟨h', tk', nw, e, F', N', off', hS', ih (i + 1) _ (by omega) ?_⟩
        rw [e2, List.filterMap_append, hz]; exact intsAre_snoc ht
      | false =>
        simp only [Bool.false_eq_true, if_false] at hq ⊢
        obtain ⟨h', tk', nw, e, F', N', off', hS', rfl, hz⟩ := hq
        refine ⟨h', tk', nw, e, F', N', off', hS', ih (i + 1) _ (by omega) ?_⟩
        rw [e2, List.filterMap_append, hz]; simpa using ht
  have hsz : vs.toArray.size = vs.length := by simp
  rw [hsz]
  exact key vs.length 0 [] (by omega) (by simpa using IntsAre.nil)
end
end Mine
namespace Mine
def Inf.tri (i : Inf) : Tri := ⟨i.g, i.c, i.u⟩
theorem refs_get {rows : List Inf} {j : Nat} {v : Value} (h : (refs rows)[j]? = some v) : ∃ a, rows[j]? = some a ∧ a ∈ rows ∧ v = .ref a.x := by
  simp only [refs, List.getElem?_map, Option.map_eq_some_iff] at h
  obtain ⟨a, ha, e⟩ := h
  exact ⟨a, ha, List.mem_of_getElem? ha, e.symm⟩
theorem refs_tri {rows : List Inf} {j : Nat} {v : Value} {r : Tri} (h : (refs rows)[j]? = some v) (hr : (rows.map Inf.tri)[j]? = some r) : ∃ a, a ∈ rows ∧ v = .ref a.x ∧ r = a.tri := by
  obtain ⟨a, ha, hm, e⟩ := refs_get h
  rw [List.getElem?_map, ha] at hr
  exact ⟨a, hm, e, (Option.some.inj hr).symm⟩
/-- the glyph of a hidden one -/
def Inf.hg (i : Inf) : Option Int := if i.hid then some i.g else none
theorem refs_hg {rows : List Inf} {j : Nat} {v : Value} {r : Option Int} (h : (refs rows)[j]? = some v) (hr : (rows.map Inf.hg)[j]? = some r) : ∃ a, a ∈ rows ∧ v = .ref a.x ∧ r = a.hg := by
  obtain ⟨a, ha, hm, e⟩ := refs_get h
  rw [List.getElem?_map, ha] at hr
  exact ⟨a, hm, e, (Option.some.inj hr).symm⟩
theorem hg_yes {a : Inf} (h1 : (a.kind != "") = true) (h2 : a.lig = 0) : a.hg = some a.g := by
  have hk : (a.kind == "") = false := by simpa [bne] using h1
  unfold Inf.hg Inf.hid; rw [hk, h2]; rfl
theorem hg_no1 {a : Inf} (h2 : a.lig ≠ 0) : a.hg = none := by
  unfold Inf.hg Inf.hid; rw [show (a.lig == 0) = false by simpa using h2, Bool.and_false]; rfl
theorem hg_no2 {a : Inf} (h1 : (a.kind != "") = false) : a.hg = none := by
  have hk : (a.kind == "") = true := by simpa [bne] using h1
  unfold Inf.hg Inf.hid; rw [hk]; rfl
end Mine
end
section
open Mine
namespace Mine
open PySem.SeqAt
section
variable {prog : Program} {w : World} {A : Around} {E : Value → Shared → Prop} {s : Shared} {L a b : Addr} {h₀ : Heap} {news : List (Addr × Obj)}
theorem tup_eq {T U : Tup} (N : News h₀ L s.heap news) (hT : (T.t, T.obj) ∈ news) (hU : (U.t, U.obj) ∈ news) (e : T.k = U.k) (hu : A.units < cLine) : EqAt A s (.ref T.t) (.ref U.t) true := by
  by_cases hne : T.t = U.t
  · rw [hne]; exact EqAt.same _
  · have h1 : s.heap.IsTuple T.t #[.int T.k.g T.tg, .int T.k.c T.tc, .bool T.k.u] := tup_is N hT
    have h2 : s.heap.IsTuple U.t #[.int U.k.g U.tg, .int U.k.c U.tc, .bool U.k.u] := tup_is N hU
    refine EqAt.of_refs hne ?_
    have := RcAt.tuples (A := A) (e := fun _ => true) h1 h2 hu (fun j j1 j2 => ?_)
    · exact this
    · have hj : j < 3 := j1
      match j, hj with
      | 0, _ =>
        have := EqAt.int_int (A := A.in1) (s := s) T.k.g T.tg U.k.g U.tg
        rw [show (T.k.g == U.k.g) = true by rw [e]; simp] at this
        exact this
      | 1, _ =>
        have := EqAt.int_int (A := A.in1) (s := s) T.k.c T.tc U.k.c U.tc
        rw [show (T.k.c == U.k.c) = true by rw [e]; simp] at this
        exact this
      | 2, _ =>
        have := EqAt.bool_bool (A := A.in1) (s := s) T.k.u U.k.u
        rw [show (T.k.u == U.k.u) = true by rw [e]; simp] at this
        exact this
theorem eq_tups {ts us : List Tup} {n k : Nat} {Q : Value → Shared → Prop} (N : News h₀ L s.heap news) (ha : (a, listOf (trefs ts).toArray n) ∈ news) (hb : (b, listOf (trefs us).toArray k) ∈ news) (hT : TupsIn news ts) (hU : TupsIn news us) (e : tris ts = tris us) (hu : A.units < cLine) (hu2 : A.in1.units < cLine)
    (h : Q (.bool true) s) : wpAny (model prog w) A (compareOp .Eq (.ref a) (.ref b)) Q E s := by
  have hlen : ts.length = us.length := by simpa using congrArg List.length e
  refine eq_listAt (e := fun _ => true) (PySem.IsL.isList (n := n) (N _ ha).1) (PySem.IsL.isList (n := k) (N _ hb).1) (by simp [trefs, hlen]) hu (fun j j1 j2 => ?_) (by rw [show ((List.range (trefs ts).toArray.size).all fun _ => true) = true from List.all_eq_true.mpr fun _ _ => rfl]; exact h)
  have hj1 : j < ts.length := by simpa [trefs] using j1
  have hj2 : j < us.length := by omega
  have e1 : (trefs ts).toArray[j] = .ref ts[j].t := by simp [trefs]
  have e2 : (trefs us).toArray[j] = .ref us[j].t := by simp [trefs]
  rw [e1, e2]
  refine tup_eq N (hT _ (List.getElem_mem _)) (hU _ (List.getElem_mem _)) ?_ hu2
  have h3 : (tris ts)[j]? = (tris us)[j]? := by rw [e]
  simp only [tris, List.getElem?_map, List.getElem?_eq_getElem hj1, List.getElem?_eq_getElem hj2, Option.map_some, Option.some.injEq] at h3
  exact h3
end
theorem dsOf_not {d : Addr} {nx : List (Addr × Obj)} {rows : List Inf} (h : ∀ q ∈ nx, q.1 ≠ d) (k : ∀ i ∈ rows, InfAt nx i.x i) : d ∉ dsOf rows := fun hm => by
  obtain ⟨i, hi, e⟩ := List.mem_map.mp hm
  exact h _ (k i hi).at_.2 e
theorem cels_nil {rows : List Inf} (h : cels rows = []) : rows = [] := List.map_eq_nil_iff.mp h
/-- the law's own list outlives hide -/
theorem kept_list {h₀ h : Heap} {L D il : Addr} {led led' : List (Addr × Obj)} {ts : List Tup} {rows rows' : List Inf} {nn : Nat} (N : News h₀ L h led) (hD : (D, listOf (trefs ts).toArray nn) ∈ led) (hR : RowAt led il rows) (hin : TupsIn led ts) (K : Keeps (il :: dsOf rows) led led') (R' : RowAt led' il rows') (he : rows = [] → rows' = []) :
    (∃ n2, (D, listOf (trefs ts).toArray n2) ∈ led') ∧ TupsIn led' ts := by
  obtain ⟨n3, hl⟩ := hR.list
  have same : ∀ {a o p}, (a, o) ∈ led → (a, p) ∈ led → o = p := fun h1 h2 => by
    have e1 := (N _ h1).1
    have e2 := (N _ h2).1
    dsimp only at e1 e2
    rw [e1] at e2; exact Option.some.inj e2
  have hTl : ∀ T ∈ ts, T.t ≠ il := fun T hT e => by
    have := same (hin T hT) (e ▸ hl)
    exact absurd (congrArg Obj.cls this) (by simp [Tup.obj])
  have hTd : ∀ T ∈ ts, T.t ∉ dsOf rows := fun T hT hm => by
    obtain ⟨i, hi, e⟩ := List.mem_map.mp hm
    have := same (hin T hT) (e ▸ (hR.inf i hi).at_.2)
    exact absurd (congrArg Obj.cls this) (by simp [Tup.obj])
  have hDd : D ∉ dsOf rows := fun hm => by
    obtain ⟨i, hi, e⟩ := List.mem_map.mp hm
    exact list_ne_dict N hD (hR.inf i hi).at_.2 e.symm
  refine ⟨?_, fun T hT => K _ (hin T hT) (fun hm => ?_)⟩
  · by_cases e : D = il
    · subst e
      have h1 := same hD hl
      have h2 : trefs ts = refs rows := by
        have := congrArg Obj.data h1
        simp at this
        exact this.1
      cases rows with
      | nil =>
        rw [he rfl] at R'
        obtain ⟨n4, h4⟩ := R'.list
        exact ⟨n4, by rw [h2]; exact h4⟩
      | cons i r =>
        cases ts with
        | nil => simp [trefs, refs] at h2
        | cons T ts =>
          have h3 : T.t = i.x := by
            have := congrArg List.head? h2
            simp [trefs, refs] at this
            exact this
          have := same (hin T (by simp)) (h3 ▸ (hR.inf i (by simp)).at_.1)
          exact absurd (congrArg Obj.cls this) (by simp [Tup.obj])
    · exact ⟨nn, K _ hD (fun hm => by
        rcases List.mem_cons.mp hm with h | h
        · exact e h
        · exact hDd h)⟩
  · rcases List.mem_cons.mp hm with h | h
    · exact hTl T hT h
    · exact hTd T hT h
theorem bufAt_of {h₀ h : Heap} {L b bd l : Addr} {es : List DictEntry} {n : Nat} {nx : List (Addr × Obj)} (_N : News h₀ L h ((b, instObj 105 bd) :: (bd, dictOf es n) :: nx)) (e : getL "row" es = some (some (.ref l))) : BufAt ((b, instObj 105 bd) :: (bd, dictOf es n) :: nx) b bd l :=
  ⟨List.mem_cons_self, es, n, List.mem_cons_of_mem _ List.mem_cons_self, e⟩
end Mine
end
section
open Mine
namespace Mine
/-- what is left when e goes from between P and R -/
def goneP (P : List Tri) (e : Tri) (R : List Tri) : List Tri :=
  match P.getLast?, R with
  | none, [] => []
  | none, f :: post => if ¬ (f.c = e.c) then mkM e.u e.c (lowIf f.c (min e.c f.c) f) :: post.map (lowIf f.c (min e.c f.c)) else mkM e.u e.c f :: post
  | some a, [] => if ¬ (a.c = e.c) ∧ e.c < a.c then P.dropLast.map (setIf a.c e.c) ++ mkM e.u e.c (setIf a.c e.c a) :: [] else P.dropLast ++ mkM e.u e.c a :: []
  | some a, f :: post => if ¬ (a.c = e.c ∨ f.c = e.c) ∧ e.c < a.c then P.dropLast.map (setIf a.c e.c) ++ mkM e.u e.c (setIf a.c e.c a) :: mkM e.u e.c f :: post else P.dropLast ++ mkM e.u e.c a :: mkM e.u e.c f :: post
theorem goneP_snoc {P : List Tri} {a e : Tri} {R : List Tri} : goneP (P ++ [a]) e R = match R with
  | [] => if ¬ (a.c = e.c) ∧ e.c < a.c then P.map (setIf a.c e.c) ++ mkM e.u e.c (setIf a.c e.c a) :: [] else P ++ mkM e.u e.c a :: []
  | f :: post => if ¬ (a.c = e.c ∨ f.c = e.c) ∧ e.c < a.c then P.map (setIf a.c e.c) ++ mkM e.u e.c (setIf a.c e.c a) :: mkM e.u e.c f :: post else P ++ mkM e.u e.c a :: mkM e.u e.c f :: post := by
  unfold goneP
  have h1 : (P ++ [a]).getLast? = some a := by simp
  have h2 : (P ++ [a]).dropLast = P := by simp
  rw [h1, h2]
  cases R <;> rfl
/-- the statements of the law's own step, from behind -/
def headM (u : Bool) (c : Int) : List Tri → List Tri
  | [] => []
  | f :: r => mkM u c f :: r
def lastM (u : Bool) (c : Int) (l : List Tri) : List Tri := match l.getLast? with
  | none => []
  | some a => l.dropLast ++ [mkM u c a]
def goneS3 (e : Tri) (l r : List Tri) : List Tri := lastM e.u e.c l ++ headM e.u e.c r
def goneS2 (nb : Bool) (e : Tri) (l r : List Tri) : List Tri := match l, r with
  | [], f :: post => if nb = true then goneS3 e [] ((f :: post).map (lowIf f.c (min e.c f.c))) else goneS3 e [] (f :: post)
  | _, _ => goneS3 e l r
def goneS1 (nb : Bool) (e : Tri) (l r : List Tri) : List Tri := match l.getLast? with
  | none => goneS2 nb e l r
  | some a => if nb = true ∧ e.c < a.c then goneS3 e (l.map (setIf a.c e.c)) r else goneS2 nb e l r
def sides (l r : List Tri) : List Int := ((l.drop (l.length - 1)) ++ r.take 1).map Tri.c
theorem lastM_snoc {u : Bool} {c : Int} {l : List Tri} {a : Tri} : lastM u c (l ++ [a]) = l ++ [mkM u c a] := by
  unfold lastM
  rw [show (l ++ [a]).getLast? = some a by simp]
  simp
theorem goneS2_snoc {nb : Bool} {e a : Tri} {l r : List Tri} : goneS2 nb e (l ++ [a]) r = goneS3 e (l ++ [a]) r := by
  unfold goneS2
  split
  · rename_i h; simp at h
  · rfl
theorem goneS1_snoc {nb : Bool} {e a : Tri} {l r : List Tri} : goneS1 nb e (l ++ [a]) r = if nb = true ∧ e.c < a.c then goneS3 e ((l ++ [a]).map (setIf a.c e.c)) r else goneS3 e (l ++ [a]) r := by
  unfold goneS1
  rw [show (l ++ [a]).getLast? = some a by simp]
  simp only [goneS2_snoc]
theorem goneS1_nil {nb : Bool} {e : Tri} {r : List Tri} : goneS1 nb e [] r = goneS2 nb e [] r := rfl
theorem goneS1_eq {e : Tri} {l r : List Tri} : goneS1 (!(sides l r).any fun y => y == e.c) e l r = goneP l e r := by
  rcases List.eq_nil_or_concat l with rfl | ⟨l, a, rfl⟩
  · rw [goneS1_nil]
    cases r with
    | nil => rfl
    | cons f post =>
      show (if _ then _ else _) = (if _ then _ else _)
      by_cases h : f.c = e.c
      · rw [if_neg (by simp [sides, h]), if_neg (by simp [h])]; rfl
      · rw [if_pos (by simp [sides, h]), if_pos h]; rfl
  · simp only [List.concat_eq_append, goneS1_snoc, goneP_snoc]
    have hs : sides (l ++ [a]) r = a.c :: (r.take 1).map Tri.c := by simp [sides]
    rw [hs]
    cases r with
    | nil =>
      dsimp only
      by_cases h : ¬ (a.c = e.c) ∧ e.c < a.c
      · rw [if_pos (by simpa using h), if_pos h]; simp [goneS3, lastM_snoc, headM]
      · rw [if_neg (by simpa using h), if_neg h]; simp [goneS3, lastM_snoc, headM]
    | cons f post =>
      dsimp only
      by_cases h : ¬ (a.c = e.c ∨ f.c = e.c) ∧ e.c < a.c
      · rw [if_pos (by simpa using h), if_pos h]; simp [goneS3, lastM_snoc, headM]
      · rw [if_neg (by simpa using h), if_neg h]; simp [goneS3, lastM_snoc, headM]
/-- the frame of the law's own step, ahead of its two last ifs -/
def GState (g1 : Heap) (L1 : Addr) (led : List (Addr × Obj)) (e : Tri) (sg : Array GenState) (sd : Drawn) (so : OsState) (fin : List Tri → List Tri → Prop) (G : Shared → Prop) : Prop :=
  ∀ (h : Heap) (tk : Nat) (mX : Str → Option Value) (W : List (Addr × Obj)) (o1 : Obj) (tc : Tok) (lL lR : Addr) (nL nR : Nat) (LL RR : List Tup),
    Fr g1 L1 h mX → News g1 L1 h W → (L1 + 1, o1) ∈ W → o1.data = .cell (some (.int e.c tc)) →
    mX (Str.ofString "left") = some (.ref lL) → mX (Str.ofString "right") = some (.ref lR) → mX (Str.ofString "unsafe") = some (.bool e.u) →
    (lL, listOf (trefs LL).toArray nL) ∈ W → (lR, listOf (trefs RR).toArray nR) ∈ W → TupsIn W LL → TupsIn W RR → (∀ q ∈ led, q ∈ W) →
    LL.length + RR.length + 3 ≤ 500 → fin (tris LL) (tris RR) → G ⟨h, sg, sd, tk, so⟩
theorem GState.vals {g1 : Heap} {L1 : Addr} {led : List (Addr × Obj)} {e : Tri} {sg : Array GenState} {sd : Drawn} {so : OsState} {fin : List Tri → List Tri → Prop} {G : Shared → Prop} (K : GState g1 L1 led e sg sd so fin G)
    {h : Heap} {tk : Nat} {mX : Str → Option Value} {W : List (Addr × Obj)} {o1 : Obj} {tc : Tok} {lL lR : Addr} {nL nR : Nat} {vL vR : List Value} {kL kR : List Tri}
    (F : Fr g1 L1 h mX) (N : News g1 L1 h W) (hc : (L1 + 1, o1) ∈ W) (hd : o1.data = .cell (some (.int e.c tc)))
    (hmL : mX (Str.ofString "left") = some (.ref lL)) (hmR : mX (Str.ofString "right") = some (.ref lR)) (hmU : mX (Str.ofString "unsafe") = some (.bool e.u))
    (hL : (lL, listOf vL.toArray nL) ∈ W) (hR : (lR, listOf vR.toArray nR) ∈ W) (VL : Vals W vL kL) (VR : Vals W vR kR) (hs : ∀ q ∈ led, q ∈ W)
    (hz : vL.length + vR.length + 3 ≤ 500) (hf : fin kL kR) : G ⟨h, sg, sd, tk, so⟩ := by
  obtain ⟨LL, rfl, tL, rfl⟩ := VL
  obtain ⟨RR, rfl, tR, rfl⟩ := VR
  exact K h tk mX W o1 tc lL lR nL nR LL RR F N hc hd hmL hmR hmU hL hR tL tR hs (by simpa [trefs] using hz) hf
/-- and ahead of its two first ifs, with the cells in sight -/
def GState1 (g1 : Heap) (L1 : Addr) (led : List (Addr × Obj)) (e : Tri) (nb : Bool) (sg : Array GenState) (sd : Drawn) (so : OsState) (fin : List Tri → List Tri → Prop) (G : Shared → Prop) : Prop :=
  ∀ (h : Heap) (tk : Nat) (mX : Str → Option Value) (Y : List (Addr × Obj)) (o1 o2 o3 : Obj) (v2 v3 : Option Value) (tc : Tok) (lL lR lB : Addr) (nL nR nB : Nat) (vsB : List Value) (bs : List Int) (LL RR : List Tup),
    Fr g1 L1 h mX → News g1 L1 h ((L1 + 1 + 1 + 1, o3) :: (L1 + 1 + 1, o2) :: (L1 + 1, o1) :: Y) → o1.data = .cell (some (.int e.c tc)) → o2.data = .cell v2 → o3.data = .cell v3 →
    (∀ p ∈ Y, p.1 ≠ L1 + 1) → (∀ p ∈ Y, p.1 ≠ L1 + 1 + 1) → (∀ p ∈ Y, p.1 ≠ L1 + 1 + 1 + 1) →
    mX (Str.ofString "left") = some (.ref lL) → mX (Str.ofString "right") = some (.ref lR) → mX (Str.ofString "unsafe") = some (.bool e.u) → mX (Str.ofString "beside") = some (.ref lB) →
    (lL, listOf (trefs LL).toArray nL) ∈ Y → (lR, listOf (trefs RR).toArray nR) ∈ Y → (lB, listOf vsB.toArray nB) ∈ Y → IntsAre vsB bs → (!bs.any fun y => y == e.c) = nb → TupsIn Y LL → TupsIn Y RR → (∀ q ∈ led, q ∈ Y) →
    LL.length + RR.length + 3 ≤ 500 → fin (tris LL) (tris RR) → G ⟨h, sg, sd, tk, so⟩
theorem news_rot {g h : Heap} {L : Addr} {q a b c : Addr × Obj} {Y : List (Addr × Obj)} (N : News g L h (q :: a :: b :: c :: Y)) : News g L h (a :: b :: c :: q :: Y) :=
  news_sub N fun x hx => by
    simp only [List.mem_cons] at hx ⊢
    rcases hx with h | h | h | h | h <;> simp [h]
theorem ne_cons {q : Addr × Obj} {c : Addr} {Y : List (Addr × Obj)} (h : q.1 ≠ c) (k : ∀ p ∈ Y, p.1 ≠ c) : ∀ p ∈ q :: Y, p.1 ≠ c := List.forall_mem_cons.mpr ⟨h, k⟩
theorem pick_lastL (P : List Tup) : slicePick (trefs P).toArray (some (-1 : Int)) none none = (trefs (P.drop (P.length - 1))).toArray := by
  rw [pick_last]; simp [trefs, List.map_drop]
theorem pick_headL (P : List Tup) : slicePick (trefs P).toArray none (some (1 : Int)) none = (trefs (P.take 1)).toArray := by
  rw [show (1 : Int) = ((1 : Nat) : Int) from rfl, pick_b]; simp [trefs, List.map_take]
theorem sides_at {P R : List Tup} {j : Nat} {v : Value} {z : Int} (hv : (trefs (P.drop (P.length - 1)) ++ trefs (R.take 1))[j]? = some v) (hz : (sides (tris P) (tris R))[j]? = some z) : ∃ T, (T ∈ P ∨ T ∈ R) ∧ v = .ref T.t ∧ z = T.k.c := by
  rw [← trefs_app] at hv
  have e : sides (tris P) (tris R) = (P.drop (P.length - 1) ++ R.take 1).map fun T => T.k.c := by
    simp [sides, List.map_drop, List.map_take, Function.comp_def]
  rw [e] at hz
  rw [trefs, List.getElem?_map] at hv
  rw [List.getElem?_map] at hz
  cases h : (P.drop (P.length - 1) ++ R.take 1)[j]? with
  | none => rw [h] at hv; cases hv
  | some T =>
    rw [h] at hv hz
    refine ⟨T, ?_, (Option.some.inj hv).symm, (Option.some.inj hz).symm⟩
    rcases List.mem_append.mp (List.mem_of_getElem? h) with h1 | h1
    · exact .inl (List.mem_of_mem_drop h1)
    · exact .inr (List.mem_of_mem_take h1)
theorem sides_len {P R : List Tup} : (sides (tris P) (tris R)).length = (trefs (P.drop (P.length - 1)) ++ trefs (R.take 1)).length := by simp [sides, trefs]
end Mine
end
section
open Mine
local macro_rules | `(tactic| k_asm) => `(tactic| (with_reducible refine' RowAt.cons ?hk; (case hk => k_asm)))
local macro_rules | `(tactic| k_asm) => `(tactic| (with_reducible refine' InfAt.cons ?hk; (case hk => k_asm)))
local macro_rules | `(tactic| k_asm) => `(tactic| (with_reducible refine' BufAt.cons ?hk; (case hk => k_asm)))
local macro_rules | `(tactic| k_mem) => `(tactic| assumption)
local macro_rules | `(tactic| k_all) => `(tactic| (refine' ne_of_below ?kl ?kd; (case kl => assumption); (case kd => (first | omega | ((try dsimp only); omega)))))
local macro_rules | `(tactic| walk_at $s:str) => `(tactic| k_extra $s)
theorem Mine.calm01 : True := by
  w_top off
  k_with_none
  k_with "getAttr ref" => ((k_here; (with_reducible show wpAny _ _ (getAttr _ (Str.ofString "cluster") _) _ _ _); k_dflt (refine' get_cluster ?zqk1 ?zqk2 ?zqk3 ?zqk4 ?zqk5 ?_; (case zqk1 => k_asm); (case zqk2 => k_asm); (case zqk3 => k_asm); (case zqk4 => apply ReadsOk.intro <;> k_is); (case zqk5 => k_asm); k_whole; intro tqZ9)))
  k_with "getAttr ref" => ((k_here; (with_reducible show wpAny _ _ (getAttr _ (Str.ofString "is_unsafe") _) _ _ _); k_dflt (refine' get_uns ?zqk1 ?zqk2 ?zqk3 ?zqk4 ?zqk5 ?_; (case zqk1 => k_asm); (case zqk2 => k_asm); (case zqk3 => k_asm); (case zqk4 => apply ReadsOk.intro <;> k_is); (case zqk5 => k_asm); k_whole)))
  k_with "getAttr ref" => ((k_here; (with_reducible show wpAny _ _ (getAttr _ (Str.ofString "glyph") _) _ _ _); k_dflt (refine' get_glyph ?zqk1 ?zqk2 ?zqk3 ?zqk4 ?zqk5 ?_; (case zqk1 => k_asm); (case zqk2 => k_asm); (case zqk3 => k_asm); (case zqk4 => apply ReadsOk.intro <;> k_is); (case zqk5 => k_asm); k_whole; intro tqZ9)))
  k_with "getAttr ref" => ((k_here; (with_reducible show wpAny _ _ (getAttr _ (Str.ofString "kind") _) _ _ _); k_dflt (refine' get_kind ?zqk1 ?zqk2 ?zqk3 ?zqk4 ?zqk5 ?_; (case zqk1 => k_asm); (case zqk2 => k_asm); (case zqk3 => k_asm); (case zqk4 => apply ReadsOk.intro <;> k_is); (case zqk5 => k_asm); k_whole; intro tqZ9)))
  k_with "getAttr ref" => ((k_here; (with_reducible show wpAny _ _ (getAttr _ (Str.ofString "lig_count") _) _ _ _); k_dflt (refine' get_lig ?zqk1 ?zqk2 ?zqk3 ?zqk4 ?zqk5 ?_; (case zqk1 => k_asm); (case zqk2 => k_asm); (case zqk3 => k_asm); (case zqk4 => apply ReadsOk.intro <;> k_is); (case zqk5 => k_asm); k_whole; intro tqZ9)))
  k_with "getAttr ref" => ((k_here; (with_reducible show wpAny _ _ (getAttr _ (Str.ofString "row") _) _ _ _); k_dflt (refine' get_row ?zqk1 ?zqk2 ?zqk3 ?zqB ?zqk4 ?zqk5 ?zqk6 ?zqk7 ?_; (case zqk1 => k_asm); (case zqk2 => k_asm); (case zqk3 => k_asm); (case zqB => k_asm); (case zqk4 => k_is); (case zqk5 => k_is); (case zqk6 => k_is); (case zqk7 => k_is); k_whole)))
  k_with "setAttr ref" => ((k_here; (with_reducible show wpAny _ _ (setAttr _ (Str.ofString "cluster") _) _ _ _); k_dflt (refine' set_clu ?zqk1 ?zqk2 ?zqk3 ?zqk4 ?zqk5 ?_; (case zqk1 => k_asm); (case zqk2 => k_asm); (case zqk3 => k_asm); (case zqk4 => apply StoresOk.intro <;> k_is); (case zqk5 => k_asm); k_whole; intro hqZ9 esqZ9 nqZ9 FqZ9 NqZ9 IqZ9)))
  k_with "setAttr ref" => ((k_here; (with_reducible show wpAny _ _ (setAttr _ (Str.ofString "is_unsafe") _) _ _ _); k_dflt (refine' set_uns ?zqk1 ?zqk2 ?zqk3 ?zqk4 ?zqk5 ?_; (case zqk1 => k_asm); (case zqk2 => k_asm); (case zqk3 => k_asm); (case zqk4 => apply StoresOk.intro <;> k_is); (case zqk5 => k_asm); k_whole; intro hqZ9 esqZ9 nqZ9 FqZ9 NqZ9 IqZ9)))
  k_with "subscriptTail" => ((k_here; (with_reducible show wpAny _ _ (subscriptTail _ _ (Value.ref _) (Value.int _ _)) _ _ _); k_dflt (refine' item_row ?zqN ?zqR ?zqz ?zqf ?_; (case zqN => k_asm); (case zqR => k_asm); (case zqz => k_asm); (case zqf => assumption); k_whole)))
  k_with "exec While" => ((k_here; refine Halt.go ?_))
  k_with "last exec While" => ((k_here; refine Halt.go ?_))
  k_with "call builtin:len" => ((k_here; (with_reducible show wpAny _ _ (call (Value.builtin _) [Value.ref _]) _ _ _); k_dflt (refine' len_row ?zqN ?zqR ?zqf ?_; (case zqN => k_asm); (case zqR => k_asm); (case zqf => assumption); k_whole; intro tqZ9)))
  k_with "subscriptTail" => ((k_here; (with_reducible show wpAny _ _ (subscriptTail _ (PySem.Expr.Slice _ _ none _) (Value.ref _) (Value.ref _)) _ _ _); k_dflt (refine' slice_led ?zqF ?zqN ?zql ?zqp ?zqq ?zqe ?zqz ?_ ?zqs ?zqt; (case zqF => k_asm); (case zqN => k_asm); (case zql => first | assumption | k_mem); (case zqp => kmk_part); (case zqq => kmk_part); (case zqe => first | assumption | (rename (∀ _ : Nat, slicePick _ _ _ _ = _) => hpAZ9; exact hpAZ9 _)); (case zqz => assumption); (case zqs => with_unfolding_all rfl); (case zqt => kmk_pure); k_whole); intro DqZ9 hqZ9 FqZ9 NqZ9 l1Z9))
  k_with "subscriptTail Name Slice ref ref" => (walk_at "subscriptTail")
  k_with "CompEnd" => ((k_here; refine LCg.CompEnd.intro (by k_asm) (by k_asm) _ (fun _ hp => hp) (by first | assumption | (simp only [LCg.Off3, and_true]; assumption)) (by lcg_src) ?_))
  trivial
section
open Mine
namespace Mine
variable {prog : Program} {w : World} {p : Program} {loose : List Str} {mean : ExcName → Option Value} {mg mb : Str → Option Value}
set_option maxRecDepth 100000 in
set_option maxHeartbeats 8000000 in
theorem set_cluster_does {i : Inf} {x : Addr} {led : List (Addr × Obj)} {c : Int} {tk : Tok} (hi : InfAt led x i) :
    Does prog w p loose mean mg mb 116 [.ref x, .int c tk] 1 led (fun r led' => r = .none ∧ ∃ es' n', InfAt led' x (i.to es' n' c (if i.c = c then i.u else false)) ∧ led' = setL i.d (dictOf es' n') led) := by
  unfold Does
  intro dp un gd cn cs a ccd cl outer A₀ base h₀ L m s Q E B F X N T hk hdp hun hret
  refine wpAny_call ?_
  k_dflt ktr_enter
  k_steps
  · refine hret _ _ _ _ (by assumption) (by assumption) ⟨rfl, _, _, ?_, setL_setL⟩
    rw [if_neg (show ¬ i.c = c by assumption)]
    assumption
  · have hc : i.c = c := by assumption
    obtain ⟨e, ok, h1, h2⟩ := hi
    refine hret _ _ _ _ (by assumption) (news_setL (by assumption) h2) ⟨rfl, i.es, i.n, ?_, rfl⟩
    rw [if_pos hc, ← hc]
    exact ⟨e, ok, mem_setL_ne h1 (inst_ne_dict N h1 h2), mem_setL_self⟩
end Mine
end
theorem Mine.calm02 : True := by
  w_top off
  k_with_none
  k_with "getAttr ref" => ((k_here; (with_reducible show wpAny _ _ (getAttr _ (Str.ofString "cluster") _) _ _ _); k_dflt (refine' get_cluster ?zqk1 ?zqk2 ?zqk3 ?zqk4 ?zqk5 ?_; (case zqk1 => k_asm); (case zqk2 => k_asm); (case zqk3 => k_asm); (case zqk4 => apply ReadsOk.intro <;> k_is); (case zqk5 => k_asm); k_whole; intro tqZ9)))
  k_with "getAttr ref" => ((k_here; (with_reducible show wpAny _ _ (getAttr _ (Str.ofString "is_unsafe") _) _ _ _); k_dflt (refine' get_uns ?zqk1 ?zqk2 ?zqk3 ?zqk4 ?zqk5 ?_; (case zqk1 => k_asm); (case zqk2 => k_asm); (case zqk3 => k_asm); (case zqk4 => apply ReadsOk.intro <;> k_is); (case zqk5 => k_asm); k_whole)))
  k_with "getAttr ref" => ((k_here; (with_reducible show wpAny _ _ (getAttr _ (Str.ofString "glyph") _) _ _ _); k_dflt (refine' get_glyph ?zqk1 ?zqk2 ?zqk3 ?zqk4 ?zqk5 ?_; (case zqk1 => k_asm); (case zqk2 => k_asm); (case zqk3 => k_asm); (case zqk4 => apply ReadsOk.intro <;> k_is); (case zqk5 => k_asm); k_whole; intro tqZ9)))
  k_with "getAttr ref" => ((k_here; (with_reducible show wpAny _ _ (getAttr _ (Str.ofString "kind") _) _ _ _); k_dflt (refine' get_kind ?zqk1 ?zqk2 ?zqk3 ?zqk4 ?zqk5 ?_; (case zqk1 => k_asm); (case zqk2 => k_asm); (case zqk3 => k_asm); (case zqk4 => apply ReadsOk.intro <;> k_is); (case zqk5 => k_asm); k_whole; intro tqZ9)))
  k_with "getAttr ref" => ((k_here; (with_reducible show wpAny _ _ (getAttr _ (Str.ofString "lig_count") _) _ _ _); k_dflt (refine' get_lig ?zqk1 ?zqk2 ?zqk3 ?zqk4 ?zqk5 ?_; (case zqk1 => k_asm); (case zqk2 => k_asm); (case zqk3 => k_asm); (case zqk4 => apply ReadsOk.intro <;> k_is); (case zqk5 => k_asm); k_whole; intro tqZ9)))
  k_with "getAttr ref" => ((k_here; (with_reducible show wpAny _ _ (getAttr _ (Str.ofString "row") _) _ _ _); k_dflt (refine' get_row ?zqk1 ?zqk2 ?zqk3 ?zqB ?zqk4 ?zqk5 ?zqk6 ?zqk7 ?_; (case zqk1 => k_asm); (case zqk2 => k_asm); (case zqk3 => k_asm); (case zqB => k_asm); (case zqk4 => k_is); (case zqk5 => k_is); (case zqk6 => k_is); (case zqk7 => k_is); k_whole)))
  k_with "setAttr ref" => ((k_here; (with_reducible show wpAny _ _ (setAttr _ (Str.ofString "cluster") _) _ _ _); k_dflt (refine' set_clu ?zqk1 ?zqk2 ?zqk3 ?zqk4 ?zqk5 ?_; (case zqk1 => k_asm); (case zqk2 => k_asm); (case zqk3 => k_asm); (case zqk4 => apply StoresOk.intro <;> k_is); (case zqk5 => k_asm); k_whole; intro hqZ9 esqZ9 nqZ9 FqZ9 NqZ9 IqZ9)))
  k_with "setAttr ref" => ((k_here; (with_reducible show wpAny _ _ (setAttr _ (Str.ofString "is_unsafe") _) _ _ _); k_dflt (refine' set_uns ?zqk1 ?zqk2 ?zqk3 ?zqk4 ?zqk5 ?_; (case zqk1 => k_asm); (case zqk2 => k_asm); (case zqk3 => k_asm); (case zqk4 => apply StoresOk.intro <;> k_is); (case zqk5 => k_asm); k_whole; intro hqZ9 esqZ9 nqZ9 FqZ9 NqZ9 IqZ9)))
  k_with "subscriptTail" => ((k_here; (with_reducible show wpAny _ _ (subscriptTail _ _ (Value.ref _) (Value.int _ _)) _ _ _); k_dflt (refine' item_row ?zqN ?zqR ?zqz ?zqf ?_; (case zqN => k_asm); (case zqR => k_asm); (case zqz => k_asm); (case zqf => assumption); k_whole)))
  k_with "exec While" => ((k_here; refine Halt.go ?_))
  k_with "last exec While" => ((k_here; refine Halt.go ?_))
  k_with "call builtin:len" => ((k_here; (with_reducible show wpAny _ _ (call (Value.builtin _) [Value.ref _]) _ _ _); k_dflt (refine' len_row ?zqN ?zqR ?zqf ?_; (case zqN => k_asm); (case zqR => k_asm); (case zqf => assumption); k_whole; intro tqZ9)))
  k_with "subscriptTail" => ((k_here; (with_reducible show wpAny _ _ (subscriptTail _ (PySem.Expr.Slice _ _ none _) (Value.ref _) (Value.ref _)) _ _ _); k_dflt (refine' slice_led ?zqF ?zqN ?zql ?zqp ?zqq ?zqe ?zqz ?_ ?zqs ?zqt; (case zqF => k_asm); (case zqN => k_asm); (case zql => first | assumption | k_mem); (case zqp => kmk_part); (case zqq => kmk_part); (case zqe => first | assumption | (rename (∀ _ : Nat, slicePick _ _ _ _ = _) => hpAZ9; exact hpAZ9 _)); (case zqz => assumption); (case zqs => with_unfolding_all rfl); (case zqt => kmk_pure); k_whole); intro DqZ9 hqZ9 FqZ9 NqZ9 l1Z9))
  k_with "subscriptTail Name Slice ref ref" => (walk_at "subscriptTail")
  k_with "CompEnd" => ((k_here; refine LCg.CompEnd.intro (by k_asm) (by k_asm) _ (fun _ hp => hp) (by first | assumption | (simp only [LCg.Off3, and_true]; assumption)) (by lcg_src) ?_))
  k_with "call ref" => ((k_here; k_dflt (refine' does_use (set_cluster_does ?zqI) ?zqB ?zqF ?zqX ?zqN ?zqT ?zqk ?zqd ?zqu ?_; (case zqB => k_asm); (case zqF => k_asm); (case zqX => k_asm); (case zqN => k_asm); (case zqT => k_asm); (case zqk => first | exact rfl | assumption); (case zqI => k_asm); (case zqd => ktr_room); (case zqu => ktr_units); k_whole; intro rqZ9 ledqZ9 hqZ9 tkqZ9 FqZ9 NqZ9 hRqZ9; obtain ⟨e1Z9, esqZ9, nqZ9, IqZ9, e2Z9⟩ := hRqZ9; subst e1Z9; subst e2Z9)))
  trivial
section
open Mine
namespace Mine
variable {prog : Program} {w : World} {p : Program} {loose : List Str} {mean : ExcName → Option Value} {mg mb : Str → Option Value}
/-- hand_back's loop: k places are left -/
def hb (c before : Int) : Nat → List Cel → List Cel
  | 0, l => l
  | k + 1, l => match l[k]? with
    | some e => if e.c = before then hb c before k (l.set k { e with c := c, u := false }) else l
    | none => l
def hbAt (c before : Int) (k : Nat) (l : List Cel) : List Cel := if c < before then hb c before k l else l
theorem hbAt_off {c b : Int} {k : Nat} {l : List Cel} (h : ¬ c < b) : hbAt c b k l = l := by unfold hbAt; rw [if_neg h]
theorem hbAt_zero {c b : Int} {l : List Cel} : hbAt c b 0 l = l := by unfold hbAt; split <;> rfl
theorem hbAt_stop {c b : Int} {k : Nat} {l : List Cel} {e : Cel} (h : l[k]? = some e) (n : e.c ≠ b) : hbAt c b (k + 1) l = l := by
  unfold hbAt; split
  · unfold hb; rw [h]; dsimp only; rw [if_neg n]
  · rfl
theorem hbAt_step {c b : Int} {k : Nat} {l : List Cel} {e : Cel} (h : l[k]? = some e) (n : e.c = b) (hc : c < b) : hbAt c b (k + 1) l = hbAt c b k (l.set k { e with c := c, u := false }) := by
  unfold hbAt; rw [if_pos hc, if_pos hc]
  show hb c b (k + 1) l = _
  conv => lhs; unfold hb
  rw [h]; dsimp only; rw [if_pos n]
def spotM (c : Nat × Tok) (m : Str → Option Value) : Str → Option Value := fun y => if y = "spot" then some (.int ((c.1 : Int) - 1) c.2) else m y
theorem spotM_next {m : Str → Option Value} {j : Nat} {c : Nat × Tok} {z : Int} {t : Tok} (h : z = (j : Int) - 1) : (fun y => if y = ("spot" : Str) then some (Value.int z t) else spotM c m y) = spotM (j, t) m := by
  funext y; by_cases hy : y = "spot" <;> simp [spotM, hy, h]
set_option maxRecDepth 100000 in
set_option maxHeartbeats 8000000 in
theorem hand_back_does {rows : List Inf} {l : Addr} {led : List (Addr × Obj)} {k : Nat} {i₀ : Inf} {c : Int} {tk tk2 : Tok} (R : RowAt led l rows) (hk : rows[k]? = some i₀) (hfit : rows.length ≤ 1000) :
    Does prog w p loose mean mg mb 135 [.ref l, .int (k : Int) tk2, .int c tk] 3 led (fun r led' => r = .none ∧ ∃ rows', ids rows' = ids rows ∧ cels rows' = hbAt c i₀.c (k + 1) (cels rows) ∧ RowAt led' l rows' ∧ Keeps (dsOf rows) led led') := by
  unfold Does
  intro dp un gd cn cs a ccd cl outer A₀ base h₀ L m s Q E B F X N T hcs hdp hun hret
  have hIt : ItemAt rows (k : Int) i₀ := ⟨k, rfl, hk⟩
  have hI₀ : InfAt led i₀.x i₀ := R.inf _ hIt.mem
  refine wpAny_call ?_
  k_dflt ktr_enter
  k_steps
  all_goals unfold Halt
  rename Fr _ _ _ _ => F1
  rename News _ _ _ _ => N1
  refine while_st spotM (fun c' nx => ∃ rows', ids rows' = ids rows ∧ c'.1 ≤ k + 1 ∧ hbAt c i₀.c c'.1 (cels rows') = hbAt c i₀.c (k + 1) (cels rows) ∧ RowAt nx l rows' ∧ Keeps (dsOf rows) led nx) (fun c' => c'.1) (k + 1, tk2) F1 N1 ?_ ?_ ?_
  · funext y; by_cases hy : y = "spot" <;> simp [spotM, hy]
  · exact ⟨rows, rfl, Nat.le_refl _, rfl, R, Keeps.refl _ _⟩
  rintro ⟨j, tj⟩ nx h tkk ⟨rows', hk', hj, htar, R', K'⟩ Fw Nw
  dsimp only at hj htar
  have hlen := ids_len hk'
  have hfit' : rows'.length ≤ 1000 := by omega
  have hk2 := (List.getElem?_eq_some_iff.mp hk).1
  cases j with
  | zero =>
    rw [hbAt_zero] at htar
    k_steps
    all_goals first
      | exact hret _ _ _ _ (by assumption) (by assumption) ⟨rfl, rows', hk', htar, R', K'⟩
      | (exfalso; dsimp only at *; omega)
  | succ j =>
    obtain ⟨i, hi⟩ : ∃ i, rows'[j]? = some i := ⟨rows'[j], List.getElem?_eq_getElem (by omega)⟩
    have hIt' : ItemAt rows' (((j + 1 : Nat) : Int) - 1) i := ⟨j, by omega, hi⟩
    have hI' : InfAt nx i.x i := R'.inf _ hIt'.mem
    have hc' : (cels rows')[j]? = some i.cel := by simp [hi]
    k_steps
    · rename InfAt (setL _ _ _) _ _ => I2
      have hcond : i.c = i₀.c := by assumption
      have hlt : c < i₀.c := by assumption
      rw [hbAt_step hc' hcond hlt] at htar
      rw [if_neg (show ¬ i.c = c by omega)] at I2
      refine wpost_next (by assumption) (by assumption) (j, _) (spotM_next ?_) ⟨rows'.set j _, ?_, ?_, ?_, R'.set hi I2, K'.trans (keeps_setL ?_)⟩ (Nat.lt_succ_self _)
      · dsimp only; omega
      · exact (set_ids hi (by rfl)).trans hk'
      · dsimp only; omega
      · dsimp only; rw [set_cels]; exact htar
      · show i.d ∈ rows.map Inf.d
        rw [← ids_d hk']; exact List.mem_map_of_mem hIt'.mem
    · have hcond : i.c ≠ i₀.c := by assumption
      rw [hbAt_stop hc' hcond] at htar
      exact hret _ _ _ _ (by assumption) (by assumption) ⟨rfl, rows', hk', htar, R', K'⟩
    · have hlt : ¬ c < i₀.c := by assumption
      rw [hbAt_off hlt] at htar
      exact hret _ _ _ _ (by assumption) (by assumption) ⟨rfl, rows', hk', htar, R', K'⟩
end Mine
namespace Mine
theorem hand_back_doesZ {prog : Program} {w : World} {p : Program} {loose : List Str} {mean : ExcName → Option Value} {mg mb : Str → Option Value} {rows : List Inf} {l : Addr} {led : List (Addr × Obj)} {z : Int} {i₀ : Inf} {c : Int} {tk tk2 : Tok} (R : RowAt led l rows) (hz : ItemAt rows z i₀) (hfit : rows.length ≤ 1000) :
    Does prog w p loose mean mg mb 135 [.ref l, .int z tk2, .int c tk] 3 led (fun r led' => r = .none ∧ ∃ rows', ids rows' = ids rows ∧ cels rows' = hbAt c i₀.c (z.toNat + 1) (cels rows) ∧ RowAt led' l rows' ∧ Keeps (dsOf rows) led led') := by
  obtain ⟨k, rfl, hk⟩ := hz
  rw [Int.toNat_natCast]
  exact hand_back_does R hk hfit
end Mine
end
theorem Mine.calm03 : True := by
  w_top off
  k_with_none
  k_with "getAttr ref" => ((k_here; (with_reducible show wpAny _ _ (getAttr _ (Str.ofString "cluster") _) _ _ _); k_dflt (refine' get_cluster ?zqk1 ?zqk2 ?zqk3 ?zqk4 ?zqk5 ?_; (case zqk1 => k_asm); (case zqk2 => k_asm); (case zqk3 => k_asm); (case zqk4 => apply ReadsOk.intro <;> k_is); (case zqk5 => k_asm); k_whole; intro tqZ9)))
  k_with "getAttr ref" => ((k_here; (with_reducible show wpAny _ _ (getAttr _ (Str.ofString "is_unsafe") _) _ _ _); k_dflt (refine' get_uns ?zqk1 ?zqk2 ?zqk3 ?zqk4 ?zqk5 ?_; (case zqk1 => k_asm); (case zqk2 => k_asm); (case zqk3 => k_asm); (case zqk4 => apply ReadsOk.intro <;> k_is); (case zqk5 => k_asm); k_whole)))
  k_with "getAttr ref" => ((k_here; (with_reducible show wpAny _ _ (getAttr _ (Str.ofString "glyph") _) _ _ _); k_dflt (refine' get_glyph ?zqk1 ?zqk2 ?zqk3 ?zqk4 ?zqk5 ?_; (case zqk1 => k_asm); (case zqk2 => k_asm); (case zqk3 => k_asm); (case zqk4 => apply ReadsOk.intro <;> k_is); (case zqk5 => k_asm); k_whole; intro tqZ9)))
  k_with "getAttr ref" => ((k_here; (with_reducible show wpAny _ _ (getAttr _ (Str.ofString "kind") _) _ _ _); k_dflt (refine' get_kind ?zqk1 ?zqk2 ?zqk3 ?zqk4 ?zqk5 ?_; (case zqk1 => k_asm); (case zqk2 => k_asm); (case zqk3 => k_asm); (case zqk4 => apply ReadsOk.intro <;> k_is); (case zqk5 => k_asm); k_whole; intro tqZ9)))
  k_with "getAttr ref" => ((k_here; (with_reducible show wpAny _ _ (getAttr _ (Str.ofString "lig_count") _) _ _ _); k_dflt (refine' get_lig ?zqk1 ?zqk2 ?zqk3 ?zqk4 ?zqk5 ?_; (case zqk1 => k_asm); (case zqk2 => k_asm); (case zqk3 => k_asm); (case zqk4 => apply ReadsOk.intro <;> k_is); (case zqk5 => k_asm); k_whole; intro tqZ9)))
  k_with "getAttr ref" => ((k_here; (with_reducible show wpAny _ _ (getAttr _ (Str.ofString "row") _) _ _ _); k_dflt (refine' get_row ?zqk1 ?zqk2 ?zqk3 ?zqB ?zqk4 ?zqk5 ?zqk6 ?zqk7 ?_; (case zqk1 => k_asm); (case zqk2 => k_asm); (case zqk3 => k_asm); (case zqB => k_asm); (case zqk4 => k_is); (case zqk5 => k_is); (case zqk6 => k_is); (case zqk7 => k_is); k_whole)))
  k_with "setAttr ref" => ((k_here; (with_reducible show wpAny _ _ (setAttr _ (Str.ofString "cluster") _) _ _ _); k_dflt (refine' set_clu ?zqk1 ?zqk2 ?zqk3 ?zqk4 ?zqk5 ?_; (case zqk1 => k_asm); (case zqk2 => k_asm); (case zqk3 => k_asm); (case zqk4 => apply StoresOk.intro <;> k_is); (case zqk5 => k_asm); k_whole; intro hqZ9 esqZ9 nqZ9 FqZ9 NqZ9 IqZ9)))
  k_with "setAttr ref" => ((k_here; (with_reducible show wpAny _ _ (setAttr _ (Str.ofString "is_unsafe") _) _ _ _); k_dflt (refine' set_uns ?zqk1 ?zqk2 ?zqk3 ?zqk4 ?zqk5 ?_; (case zqk1 => k_asm); (case zqk2 => k_asm); (case zqk3 => k_asm); (case zqk4 => apply StoresOk.intro <;> k_is); (case zqk5 => k_asm); k_whole; intro hqZ9 esqZ9 nqZ9 FqZ9 NqZ9 IqZ9)))
  k_with "subscriptTail" => ((k_here; (with_reducible show wpAny _ _ (subscriptTail _ _ (Value.ref _) (Value.int _ _)) _ _ _); k_dflt (refine' item_row ?zqN ?zqR ?zqz ?zqf ?_; (case zqN => k_asm); (case zqR => k_asm); (case zqz => k_asm); (case zqf => assumption); k_whole)))
  k_with "exec While" => ((k_here; refine Halt.go ?_))
  k_with "last exec While" => ((k_here; refine Halt.go ?_))
  k_with "call builtin:len" => ((k_here; (with_reducible show wpAny _ _ (call (Value.builtin _) [Value.ref _]) _ _ _); k_dflt (refine' len_row ?zqN ?zqR ?zqf ?_; (case zqN => k_asm); (case zqR => k_asm); (case zqf => assumption); k_whole; intro tqZ9)))
  k_with "subscriptTail" => ((k_here; (with_reducible show wpAny _ _ (subscriptTail _ (PySem.Expr.Slice _ _ none _) (Value.ref _) (Value.ref _)) _ _ _); k_dflt (refine' slice_led ?zqF ?zqN ?zql ?zqp ?zqq ?zqe ?zqz ?_ ?zqs ?zqt; (case zqF => k_asm); (case zqN => k_asm); (case zql => first | assumption | k_mem); (case zqp => kmk_part); (case zqq => kmk_part); (case zqe => first | assumption | (rename (∀ _ : Nat, slicePick _ _ _ _ = _) => hpAZ9; exact hpAZ9 _)); (case zqz => assumption); (case zqs => with_unfolding_all rfl); (case zqt => kmk_pure); k_whole); intro DqZ9 hqZ9 FqZ9 NqZ9 l1Z9))
  k_with "subscriptTail Name Slice ref ref" => (walk_at "subscriptTail")
  k_with "CompEnd" => ((k_here; refine LCg.CompEnd.intro (by k_asm) (by k_asm) _ (fun _ hp => hp) (by first | assumption | (simp only [LCg.Off3, and_true]; assumption)) (by lcg_src) ?_))
  k_with "call ref" => ((k_here; k_dflt (refine' does_use (set_cluster_does ?zqI) ?zqB ?zqF ?zqX ?zqN ?zqT ?zqk ?zqd ?zqu ?_; (case zqB => k_asm); (case zqF => k_asm); (case zqX => k_asm); (case zqN => k_asm); (case zqT => k_asm); (case zqk => first | exact rfl | assumption); (case zqI => k_asm); (case zqd => ktr_room); (case zqu => ktr_units); k_whole; intro rqZ9 ledqZ9 hqZ9 tkqZ9 FqZ9 NqZ9 hRqZ9; obtain ⟨e1Z9, esqZ9, nqZ9, IqZ9, e2Z9⟩ := hRqZ9; subst e1Z9; subst e2Z9)))
  trivial
section
open Mine
namespace Mine
variable {prog : Program} {w : World} {p : Program} {loose : List Str} {mean : ExcName → Option Value} {mg mb : Str → Option Value}
structure WidP (l : List Cel) (B : Nat) : Prop where
  two : 2 ≤ B
  eqs : ∀ q, 2 ≤ q → q < B → ∃ a b, l[q]? = some a ∧ l[q - 1]? = some b ∧ a.c = b.c
  stop : ∀ a b, l[B]? = some a → l[B - 1]? = some b → a.c ≠ b.c
def behM (c : Nat × Tok) (m : Str → Option Value) : Str → Option Value := fun y => if y = "behind" then some (.int (c.1 : Int) c.2) else m y
theorem behM_next {m : Str → Option Value} {j : Nat} {c : Nat × Tok} {z : Int} {t : Tok} (h : z = (j : Int)) : (fun y => if y = ("behind" : Str) then some (Value.int z t) else behM c m y) = behM (j, t) m := by
  funext y; by_cases hy : y = "behind" <;> simp [behM, hy, h]
set_option maxRecDepth 100000 in
set_option maxHeartbeats 8000000 in
theorem widened_does {rows : List Inf} {l : Addr} {led : List (Addr × Obj)} {t0 t2 : Tok} (R : RowAt led l rows) (hfit : rows.length ≤ 1000) :
    Does prog w p loose mean mg mb 123 [.ref l, .int 0 t0, .int 2 t2] 3 led (fun r led' => ∃ t B nn ta tb, r = .ref t ∧ led' = (t, ({ cls := .type "tuple", data := .seq #[.int 0 ta, .int (B : Nat) tb] nn } : Obj)) :: led ∧ WidP (cels rows) B) := by
  unfold Does
  intro dp un gd cn cs a ccd cl outer A₀ base h₀ L m s Q E B F X N T hcs hdp hun hret
  obtain ⟨nn, hl⟩ := R.list
  refine wpAny_call ?_
  k_dflt ktr_enter
  k_steps
  all_goals unfold Halt
  rename Fr _ _ _ _ => F1
  rename News _ _ _ _ => N1
  refine while_st behM (fun c' nx => nx = led ∧ 2 ≤ c'.1 ∧ (∀ q, 2 ≤ q → q < c'.1 → ∃ a b, (cels rows)[q]? = some a ∧ (cels rows)[q - 1]? = some b ∧ a.c = b.c)) (fun c' => rows.length + 2 - c'.1) (2, t2) F1 N1 ?_ ?_ ?_
  · funext y; by_cases hy : y = "behind" <;> simp [behM, hy]
  · exact ⟨rfl, Nat.le_refl _, fun q h1 h2 => by omega⟩
  rintro ⟨j, tj⟩ nx h tkk ⟨rfl, hj, hq⟩ Fw Nw
  dsimp only at hj hq
  by_cases hjl : j < rows.length
  · obtain ⟨i, hi⟩ : ∃ i, rows[j]? = some i := ⟨rows[j], List.getElem?_eq_getElem hjl⟩
    obtain ⟨i2, hi2⟩ : ∃ i2, rows[j - 1]? = some i2 := ⟨rows[j - 1], List.getElem?_eq_getElem (by omega)⟩
    have hIt : ItemAt rows (j : Int) i := ⟨j, rfl, hi⟩
    have hIt2 : ItemAt rows ((j : Int) - 1) i2 := ⟨j - 1, by omega, hi2⟩
    have hI : InfAt nx i.x i := R.inf _ hIt.mem
    have hI2 : InfAt nx i2.x i2 := R.inf _ hIt2.mem
    k_steps
    · have hcond : i.c = i2.c := by assumption
      refine wpost_next (by assumption) (by assumption) (j + 1, _) (behM_next ?_) ⟨rfl, ?_, ?_⟩ ?_
      · omega
      · dsimp only; omega
      · intro q h1 h2
        by_cases hqj : q = j
        · subst hqj; exact ⟨i.cel, i2.cel, by simp [hi], by simp [hi2], hcond⟩
        · exact hq q h1 (by dsimp only at h2; omega)
      · dsimp only; omega
    · have hcond : i.c ≠ i2.c := by assumption
      unfold Halt
      k_dflt (refine whl_start 100 ?_)
      k_steps
      refine hret _ _ _ _ (by assumption) (by assumption) ⟨_, j, _, _, _, rfl, rfl, hj, hq, ?_⟩
      intro a b ha hb
      simp [hi] at ha; simp [hi2] at hb
      subst ha; subst hb; exact hcond
  · k_steps
    unfold Halt
    k_dflt (refine whl_start 100 ?_)
    k_steps
    refine hret _ _ _ _ (by assumption) (by assumption) ⟨_, j, _, _, _, rfl, rfl, hj, hq, ?_⟩
    intro a b ha hb
    have := (List.getElem?_eq_some_iff.mp ha).1
    simp at this; omega
end Mine
end
theorem Mine.calm04 : True := by
  w_top off
  k_with_none
  k_with "getAttr ref" => ((k_here; (with_reducible show wpAny _ _ (getAttr _ (Str.ofString "cluster") _) _ _ _); k_dflt (refine' get_cluster ?zqk1 ?zqk2 ?zqk3 ?zqk4 ?zqk5 ?_; (case zqk1 => k_asm); (case zqk2 => k_asm); (case zqk3 => k_asm); (case zqk4 => apply ReadsOk.intro <;> k_is); (case zqk5 => k_asm); k_whole; intro tqZ9)))
  k_with "getAttr ref" => ((k_here; (with_reducible show wpAny _ _ (getAttr _ (Str.ofString "is_unsafe") _) _ _ _); k_dflt (refine' get_uns ?zqk1 ?zqk2 ?zqk3 ?zqk4 ?zqk5 ?_; (case zqk1 => k_asm); (case zqk2 => k_asm); (case zqk3 => k_asm); (case zqk4 => apply ReadsOk.intro <;> k_is); (case zqk5 => k_asm); k_whole)))
  k_with "getAttr ref" => ((k_here; (with_reducible show wpAny _ _ (getAttr _ (Str.ofString "glyph") _) _ _ _); k_dflt (refine' get_glyph ?zqk1 ?zqk2 ?zqk3 ?zqk4 ?zqk5 ?_; (case zqk1 => k_asm); (case zqk2 => k_asm); (case zqk3 => k_asm); (case zqk4 => apply ReadsOk.intro <;> k_is); (case zqk5 => k_asm); k_whole; intro tqZ9)))
  k_with "getAttr ref" => ((k_here; (with_reducible show wpAny _ _ (getAttr _ (Str.ofString "kind") _) _ _ _); k_dflt (refine' get_kind ?zqk1 ?zqk2 ?zqk3 ?zqk4 ?zqk5 ?_; (case zqk1 => k_asm); (case zqk2 => k_asm); (case zqk3 => k_asm); (case zqk4 => apply ReadsOk.intro <;> k_is); (case zqk5 => k_asm); k_whole; intro tqZ9)))
  k_with "getAttr ref" => ((k_here; (with_reducible show wpAny _ _ (getAttr _ (Str.ofString "lig_count") _) _ _ _); k_dflt (refine' get_lig ?zqk1 ?zqk2 ?zqk3 ?zqk4 ?zqk5 ?_; (case zqk1 => k_asm); (case zqk2 => k_asm); (case zqk3 => k_asm); (case zqk4 => apply ReadsOk.intro <;> k_is); (case zqk5 => k_asm); k_whole; intro tqZ9)))
  k_with "getAttr ref" => ((k_here; (with_reducible show wpAny _ _ (getAttr _ (Str.ofString "row") _) _ _ _); k_dflt (refine' get_row ?zqk1 ?zqk2 ?zqk3 ?zqB ?zqk4 ?zqk5 ?zqk6 ?zqk7 ?_; (case zqk1 => k_asm); (case zqk2 => k_asm); (case zqk3 => k_asm); (case zqB => k_asm); (case zqk4 => k_is); (case zqk5 => k_is); (case zqk6 => k_is); (case zqk7 => k_is); k_whole)))
  k_with "setAttr ref" => ((k_here; (with_reducible show wpAny _ _ (setAttr _ (Str.ofString "cluster") _) _ _ _); k_dflt (refine' set_clu ?zqk1 ?zqk2 ?zqk3 ?zqk4 ?zqk5 ?_; (case zqk1 => k_asm); (case zqk2 => k_asm); (case zqk3 => k_asm); (case zqk4 => apply StoresOk.intro <;> k_is); (case zqk5 => k_asm); k_whole; intro hqZ9 esqZ9 nqZ9 FqZ9 NqZ9 IqZ9)))
  k_with "setAttr ref" => ((k_here; (with_reducible show wpAny _ _ (setAttr _ (Str.ofString "is_unsafe") _) _ _ _); k_dflt (refine' set_uns ?zqk1 ?zqk2 ?zqk3 ?zqk4 ?zqk5 ?_; (case zqk1 => k_asm); (case zqk2 => k_asm); (case zqk3 => k_asm); (case zqk4 => apply StoresOk.intro <;> k_is); (case zqk5 => k_asm); k_whole; intro hqZ9 esqZ9 nqZ9 FqZ9 NqZ9 IqZ9)))
  k_with "subscriptTail" => ((k_here; (with_reducible show wpAny _ _ (subscriptTail _ _ (Value.ref _) (Value.int _ _)) _ _ _); k_dflt (refine' item_row ?zqN ?zqR ?zqz ?zqf ?_; (case zqN => k_asm); (case zqR => k_asm); (case zqz => k_asm); (case zqf => assumption); k_whole)))
  k_with "exec While" => ((k_here; refine Halt.go ?_))
  k_with "last exec While" => ((k_here; refine Halt.go ?_))
  k_with "call builtin:len" => ((k_here; (with_reducible show wpAny _ _ (call (Value.builtin _) [Value.ref _]) _ _ _); k_dflt (refine' len_row ?zqN ?zqR ?zqf ?_; (case zqN => k_asm); (case zqR => k_asm); (case zqf => assumption); k_whole; intro tqZ9)))
  k_with "subscriptTail" => ((k_here; (with_reducible show wpAny _ _ (subscriptTail _ (PySem.Expr.Slice _ _ none _) (Value.ref _) (Value.ref _)) _ _ _); k_dflt (refine' slice_led ?zqF ?zqN ?zql ?zqp ?zqq ?zqe ?zqz ?_ ?zqs ?zqt; (case zqF => k_asm); (case zqN => k_asm); (case zql => first | assumption | k_mem); (case zqp => kmk_part); (case zqq => kmk_part); (case zqe => first | assumption | (rename (∀ _ : Nat, slicePick _ _ _ _ = _) => hpAZ9; exact hpAZ9 _)); (case zqz => assumption); (case zqs => with_unfolding_all rfl); (case zqt => kmk_pure); k_whole); intro DqZ9 hqZ9 FqZ9 NqZ9 l1Z9))
  k_with "subscriptTail Name Slice ref ref" => (walk_at "subscriptTail")
  k_with "CompEnd" => ((k_here; refine LCg.CompEnd.intro (by k_asm) (by k_asm) _ (fun _ hp => hp) (by first | assumption | (simp only [LCg.Off3, and_true]; assumption)) (by lcg_src) ?_))
  k_with "call ref" => ((k_here; k_dflt (refine' does_use (set_cluster_does ?zqI) ?zqB ?zqF ?zqX ?zqN ?zqT ?zqk ?zqd ?zqu ?_; (case zqB => k_asm); (case zqF => k_asm); (case zqX => k_asm); (case zqN => k_asm); (case zqT => k_asm); (case zqk => first | exact rfl | assumption); (case zqI => k_asm); (case zqd => ktr_room); (case zqu => ktr_units); k_whole; intro rqZ9 ledqZ9 hqZ9 tkqZ9 FqZ9 NqZ9 hRqZ9; obtain ⟨e1Z9, esqZ9, nqZ9, IqZ9, e2Z9⟩ := hRqZ9; subst e1Z9; subst e2Z9)))
  trivial
section
open Mine
namespace Mine
variable {prog : Program} {w : World} {p : Program} {loose : List Str} {mean : ExcName → Option Value} {mg mb : Str → Option Value}
set_option maxRecDepth 100000 in
set_option maxHeartbeats 8000000 in
theorem merge_noop {b : Addr} {led : List (Addr × Obj)} {z z' : Int} {t0 t2 : Tok} (hz : z' - z < 2) :
    Does prog w p loose mean mg mb 128 [.ref b, .int z t0, .int z' t2] 2 led (fun r led' => r = .none ∧ led' = led) := by
  unfold Does
  intro dp un gd cn cs a ccd cl outer A₀ base h₀ L m s Q E B F X N T hcs hdp hun hret
  refine wpAny_call ?_
  k_dflt ktr_enter
  k_steps
  all_goals first
    | exact hret _ _ _ _ (by assumption) (by assumption) ⟨rfl, rfl⟩
    | (exfalso; omega)
set_option maxRecDepth 100000 in
set_option maxHeartbeats 8000000 in
theorem is_to_hide_does {i : Inf} {x : Addr} {led : List (Addr × Obj)} (hi : InfAt led x i) :
    Does prog w p loose mean mg mb 152 [.ref x] 2 led (fun r led' => r = .bool i.hid ∧ led' = led) := by
  unfold Does
  intro dp un gd cn cs a ccd cl outer A₀ base h₀ L m s Q E B F X N T hcs hdp hun hret
  refine wpAny_call ?_
  k_dflt ktr_enter
  k_steps
  · have hk : (i.kind != "") = true := by assumption
    refine hret _ _ _ _ (by assumption) (by assumption) ⟨?_, rfl⟩
    have hk' : (i.kind == "") = false := by simpa [bne] using hk
    unfold Inf.hid; rw [hk']; rfl
  · have hk : (i.kind != "") = false := by assumption
    refine hret _ _ _ _ (by assumption) (by assumption) ⟨?_, rfl⟩
    have hk' : (i.kind == "") = true := by simpa [bne] using hk
    unfold Inf.hid; rw [hk']
    show Value.bool (!(i.kind == "")) = _
    rw [hk']; rfl
end Mine
end
theorem Mine.calm05 : True := by
  w_top off
  k_with_none
  k_with "getAttr ref" => ((k_here; (with_reducible show wpAny _ _ (getAttr _ (Str.ofString "cluster") _) _ _ _); k_dflt (refine' get_cluster ?zqk1 ?zqk2 ?zqk3 ?zqk4 ?zqk5 ?_; (case zqk1 => k_asm); (case zqk2 => k_asm); (case zqk3 => k_asm); (case zqk4 => apply ReadsOk.intro <;> k_is); (case zqk5 => k_asm); k_whole; intro tqZ9)))
  k_with "getAttr ref" => ((k_here; (with_reducible show wpAny _ _ (getAttr _ (Str.ofString "is_unsafe") _) _ _ _); k_dflt (refine' get_uns ?zqk1 ?zqk2 ?zqk3 ?zqk4 ?zqk5 ?_; (case zqk1 => k_asm); (case zqk2 => k_asm); (case zqk3 => k_asm); (case zqk4 => apply ReadsOk.intro <;> k_is); (case zqk5 => k_asm); k_whole)))
  k_with "getAttr ref" => ((k_here; (with_reducible show wpAny _ _ (getAttr _ (Str.ofString "glyph") _) _ _ _); k_dflt (refine' get_glyph ?zqk1 ?zqk2 ?zqk3 ?zqk4 ?zqk5 ?_; (case zqk1 => k_asm); (case zqk2 => k_asm); (case zqk3 => k_asm); (case zqk4 => apply ReadsOk.intro <;> k_is); (case zqk5 => k_asm); k_whole; intro tqZ9)))
  k_with "getAttr ref" => ((k_here; (with_reducible show wpAny _ _ (getAttr _ (Str.ofString "kind") _) _ _ _); k_dflt (refine' get_kind ?zqk1 ?zqk2 ?zqk3 ?zqk4 ?zqk5 ?_; (case zqk1 => k_asm); (case zqk2 => k_asm); (case zqk3 => k_asm); (case zqk4 => apply ReadsOk.intro <;> k_is); (case zqk5 => k_asm); k_whole; intro tqZ9)))
  k_with "getAttr ref" => ((k_here; (with_reducible show wpAny _ _ (getAttr _ (Str.ofString "lig_count") _) _ _ _); k_dflt (refine' get_lig ?zqk1 ?zqk2 ?zqk3 ?zqk4 ?zqk5 ?_; (case zqk1 => k_asm); (case zqk2 => k_asm); (case zqk3 => k_asm); (case zqk4 => apply ReadsOk.intro <;> k_is); (case zqk5 => k_asm); k_whole; intro tqZ9)))
  k_with "getAttr ref" => ((k_here; (with_reducible show wpAny _ _ (getAttr _ (Str.ofString "row") _) _ _ _); k_dflt (refine' get_row ?zqk1 ?zqk2 ?zqk3 ?zqB ?zqk4 ?zqk5 ?zqk6 ?zqk7 ?_; (case zqk1 => k_asm); (case zqk2 => k_asm); (case zqk3 => k_asm); (case zqB => k_asm); (case zqk4 => k_is); (case zqk5 => k_is); (case zqk6 => k_is); (case zqk7 => k_is); k_whole)))
  k_with "setAttr ref" => ((k_here; (with_reducible show wpAny _ _ (setAttr _ (Str.ofString "cluster") _) _ _ _); k_dflt (refine' set_clu ?zqk1 ?zqk2 ?zqk3 ?zqk4 ?zqk5 ?_; (case zqk1 => k_asm); (case zqk2 => k_asm); (case zqk3 => k_asm); (case zqk4 => apply StoresOk.intro <;> k_is); (case zqk5 => k_asm); k_whole; intro hqZ9 esqZ9 nqZ9 FqZ9 NqZ9 IqZ9)))
  k_with "setAttr ref" => ((k_here; (with_reducible show wpAny _ _ (setAttr _ (Str.ofString "is_unsafe") _) _ _ _); k_dflt (refine' set_uns ?zqk1 ?zqk2 ?zqk3 ?zqk4 ?zqk5 ?_; (case zqk1 => k_asm); (case zqk2 => k_asm); (case zqk3 => k_asm); (case zqk4 => apply StoresOk.intro <;> k_is); (case zqk5 => k_asm); k_whole; intro hqZ9 esqZ9 nqZ9 FqZ9 NqZ9 IqZ9)))
  k_with "subscriptTail" => ((k_here; (with_reducible show wpAny _ _ (subscriptTail _ _ (Value.ref _) (Value.int _ _)) _ _ _); k_dflt (refine' item_row ?zqN ?zqR ?zqz ?zqf ?_; (case zqN => k_asm); (case zqR => k_asm); (case zqz => k_asm); (case zqf => assumption); k_whole)))
  k_with "exec While" => ((k_here; refine Halt.go ?_))
  k_with "last exec While" => ((k_here; refine Halt.go ?_))
  k_with "call builtin:len" => ((k_here; (with_reducible show wpAny _ _ (call (Value.builtin _) [Value.ref _]) _ _ _); k_dflt (refine' len_row ?zqN ?zqR ?zqf ?_; (case zqN => k_asm); (case zqR => k_asm); (case zqf => assumption); k_whole; intro tqZ9)))
  k_with "subscriptTail" => ((k_here; (with_reducible show wpAny _ _ (subscriptTail _ (PySem.Expr.Slice _ _ none _) (Value.ref _) (Value.ref _)) _ _ _); k_dflt (refine' slice_led ?zqF ?zqN ?zql ?zqp ?zqq ?zqe ?zqz ?_ ?zqs ?zqt; (case zqF => k_asm); (case zqN => k_asm); (case zql => first | assumption | k_mem); (case zqp => kmk_part); (case zqq => kmk_part); (case zqe => first | assumption | (rename (∀ _ : Nat, slicePick _ _ _ _ = _) => hpAZ9; exact hpAZ9 _)); (case zqz => assumption); (case zqs => with_unfolding_all rfl); (case zqt => kmk_pure); k_whole); intro DqZ9 hqZ9 FqZ9 NqZ9 l1Z9))
  k_with "subscriptTail Name Slice ref ref" => (walk_at "subscriptTail")
  k_with "CompEnd" => ((k_here; refine LCg.CompEnd.intro (by k_asm) (by k_asm) _ (fun _ hp => hp) (by first | assumption | (simp only [LCg.Off3, and_true]; assumption)) (by lcg_src) ?_))
  k_with "call ref" => ((k_here; k_dflt (refine' does_use (set_cluster_does ?zqI) ?zqB ?zqF ?zqX ?zqN ?zqT ?zqk ?zqd ?zqu ?_; (case zqB => k_asm); (case zqF => k_asm); (case zqX => k_asm); (case zqN => k_asm); (case zqT => k_asm); (case zqk => first | exact rfl | assumption); (case zqI => k_asm); (case zqd => ktr_room); (case zqu => ktr_units); k_whole; intro rqZ9 ledqZ9 hqZ9 tkqZ9 FqZ9 NqZ9 hRqZ9; obtain ⟨e1Z9, esqZ9, nqZ9, IqZ9, e2Z9⟩ := hRqZ9; subst e1Z9; subst e2Z9)))
  k_with "call ref" => ((k_here; k_dflt (refine' does_use (widened_does ?zqI ?zqf) ?zqB ?zqF ?zqX ?zqN ?zqT ?zqk ?zqd ?zqu ?_; (case zqB => k_asm); (case zqF => k_asm); (case zqX => k_asm); (case zqN => k_asm); (case zqT => k_asm); (case zqk => first | exact rfl | assumption); (case zqI => k_asm); (case zqf => assumption); (case zqd => ktr_room); (case zqu => ktr_units); k_whole; intro rqZ9 ledqZ9 hqZ9 tkqZ9 FqZ9 NqZ9 hRqZ9; obtain ⟨twqZ9, BwqZ9, nwqZ9, taqZ9, tbqZ9, e1Z9, e2Z9, hWqZ9⟩ := hRqZ9; subst e1Z9; subst e2Z9)))
  k_with "exec For" => ((k_here; (rename Fr _ _ _ _ => lFqZ9); (with_unfolding_all refine' For_invVF lFqZ9 ?zqk1 ?zqk2 ?_; (case zqk1 => exact rfl); (case zqk2 => exact rfl); k_whole)))
  k_with "exec For Name Subscript cons nil" => (walk_at "exec For")
  k_with "exec For Name Name cons nil" => (walk_at "exec For")
  k_with "pyIter ref" => ((k_here; refine Halt.go ?_))
  k_with "execs cons" => ((k_here; (with_reducible rename Rest _ _ _ _ _ _ _ _ => hRest9Z9); k_dflt (refine Rest.stop hRest9Z9 ?_)))
  k_with "eval Name" => ((k_here; k_dflt (refine' nameX_L ?zqF ?zqv ?_ ?zqa ?zqb; (case zqF => k_asm); (case zqa => rfl); (case zqb => rfl); (case zqv => assumption); k_whole)))
  trivial
section
open Mine
namespace Mine
theorem min_of {a b M : Int} (h1 : M = a ∨ M = b) (h2 : M ≤ a ∧ M ≤ b) : M = min a b := by omega
/-- the frame of merge, behind its least cluster -/
def MState (g1 : Heap) (L1 b : Addr) (led : List (Addr × Obj)) (t0 t2 : Tok) (M : Int) (sg : Array GenState) (sd : Drawn) (so : OsState) (G : Shared → Prop) : Prop :=
  ∀ (h : Heap) (tk : Nat) (mX : Str → Option Value) (W : List (Addr × Obj)) (tm : Tok), Fr g1 L1 h mX → News g1 L1 h W → mX (Str.ofString "least_cluster") = some (.int M tm) → mX (Str.ofString "begin") = some (.int 0 t0) → mX (Str.ofString "end") = some (.int 2 t2) →
    mX (Str.ofString "buffer") = some (.ref b) → (∀ q ∈ led, q ∈ W) → G ⟨h, sg, sd, tk, so⟩
variable {prog : Program} {w : World} {p : Program} {loose : List Str} {mean : ExcName → Option Value} {mg mb : Str → Option Value}
set_option maxRecDepth 100000 in
set_option maxHeartbeats 8000000 in
theorem merge_does {rows : List Inf} {i0 : Inf} {M : Int} {b bd l : Addr} {led : List (Addr × Obj)} {t0 t2 : Tok} (Bf : BufAt led b bd l) (R : RowAt led l rows) (hfit : rows.length ≤ 1000) (hrows : (rows = [i0] ∧ M = i0.c) ∨ ∃ i1 rest, rows = i0 :: i1 :: rest ∧ M = min i0.c i1.c) :
    Does prog w p loose mean mg mb 128 [.ref b, .int 0 t0, .int 2 t2] 6 led (fun r led' => r = .none ∧ ∃ rows' B, WidP (cels rows) B ∧ ids rows' = ids rows ∧ cels rows' = mapFirst (setTo M) B (cels rows) ∧ RowAt led' l rows' ∧ Keeps (dsOf rows) led led') := by
  unfold Does
  intro dp un gd cn cs a ccd cl outer A₀ base h₀ L m s Q E B F X N T hcs hdp hun hret
  obtain ⟨sh, sg, sd, st, so⟩ := s
  dsimp only at F N hret
  obtain ⟨nn, hl⟩ := R.list
  have hp2 : ∀ B : Nat, slicePick (refs rows).toArray (some (0 : Int)) (some (B : Int)) none = (refs (rows.take B)).toArray := fun B => by
    rw [show (0 : Int) = ((0 : Nat) : Int) from rfl, pick_ab]; simp [refs, List.map_take]
  have hfr : (refs rows).length ≤ 1000 := by simpa [refs] using hfit
  refine wpAny_call ?_
  k_dflt ktr_enter
  rename_i g1 L1 h1 FG1 F1 N1 B1 X1 T1
  refine cut_at 2 (MState g1 L1 b led t0 t2 M sg sd so) ?suf (fun key => ?walk)
  case suf =>
    unfold MState
    intro h tk mX W tm F9 N9 hmL hmB hmE hmb hsub
    clear F1 N1
    dsimp only [List.drop]
    have RW : RowAt W l rows := R.mono hsub
    have BW : BufAt W b bd l := Bf.mono hsub
    have hlW := hsub _ hl
    k_steps
    unfold Halt
    rename Fr _ _ _ _ => F1
    rename News _ _ _ _ => N1
    rename WidP _ _ => hW
    refine iter_led (fun j nx => ∃ rows', ids rows' = ids rows ∧ cels rows' = mapFirst (setTo M) j (cels rows) ∧ RowAt nx l rows' ∧ Keeps (dsOf rows) led nx) (by rfl) List.mem_cons_self F1 N1 ⟨rows, rfl, rfl, by k_asm, fun q hq _ => by have := hsub q hq; simp [this]⟩ ?_ ?_
    · rintro j v nx I oI h tkk hv ⟨rows', hid, hce, R', K'⟩ hsl off Fw Nw
      obtain ⟨a, ha, rfl⟩ : ∃ a, rows[j]? = some a ∧ v = .ref a.x := by
        simp only [refs, List.getElem?_map, Option.map_eq_some_iff] at hv
        obtain ⟨a, ha, e⟩ := hv
        rw [List.getElem?_take] at ha
        split at ha
        · exact ⟨a, ha, e.symm⟩
        · cases ha
      obtain ⟨i, hi, hx, hdd⟩ := ids_get hid ha
      have hmem := List.mem_of_getElem? hi
      have hI : InfAt nx a.x i := hx ▸ R'.inf i hmem
      have hId : I ≠ i.d := fun e => off _ hI.at_.2 e.symm
      have hxd : i.x ≠ i.d := R'.xd i hmem i hmem
      have hsd := list_ne_dict Nw (List.mem_cons_of_mem _ hsl) (List.mem_cons_of_mem _ hI.at_.2)
      have hjl : j < (refs (rows.take _)).length := (List.getElem?_eq_some_iff.mp hv).1
      k_steps
      rename News _ _ _ (setL _ _ _) => N2
      rename InfAt (setL _ _ _) _ _ => I2
      have hA : (cels rows)[j]? = some i.cel := by
        have h1 : (cels rows')[j]? = some i.cel := by simp [hi]
        rw [hce, mapFirst_get] at h1
        simpa using h1
      refine gpost_next (by assumption) (news_sub N2 (setL_cons_sub hId)) (setL_off hId.symm off) (mem_setL_ne hsl hsd) ⟨?_, rows'.set j _, ?_, ?_, R'.set hi (InfAt.shrink (hx ▸ hI) hxd I2), K'.trans (keeps_setL ?_)⟩
      · intro y hy; simp [hy]
      · exact (set_ids hi (by rfl)).trans hid
      · rw [set_cels, hce]; exact mapFirst_succ (setTo M) hA
      · show i.d ∈ rows.map Inf.d
        rw [← ids_d hid]; exact List.mem_map_of_mem hmem
    · rintro u nx h tkk ⟨rows', hid, hce, R', K'⟩ Fw Nw
      k_steps
      have hlen : ∀ B, (refs (rows.take B)).length = min B (cels rows).length := fun B => by simp [refs]
      rw [hlen, mapFirst_min] at hce
      exact hret _ _ _ _ (by assumption) (by assumption) ⟨rfl, rows', _, hW, hid, hce, R', K'⟩
  case walk =>
    rcases hrows with ⟨hr, hM⟩ | ⟨i1, rest, hr, hM⟩
    · have hp1 : slicePick (refs rows).toArray (some (0 : Int)) (some (2 : Int)) none = [Value.ref i0.x].toArray := by rw [hr]; exact pick_ab (refs [i0]) 0 2
      have hI0 : InfAt led i0.x i0 := R.inf _ (by simp [hr])
      k_steps
      unfold Halt
      rename Rest _ _ _ _ _ _ _ _ => key
      rename Int => M'
      obtain rfl : M' = M := by
        have h1 : M' = i0.c := by assumption
        rw [h1, hM]
      exact key.get _ _ _ _ _ (by assumption) (by assumption) rfl rfl rfl rfl (fun q hq => by simp [hq])
    · have hp1 : slicePick (refs rows).toArray (some (0 : Int)) (some (2 : Int)) none = [Value.ref i0.x, Value.ref i1.x].toArray := by rw [hr]; exact pick_ab (refs (i0 :: i1 :: rest)) 0 2
      have hI0 : InfAt led i0.x i0 := R.inf _ (by simp [hr])
      have hI1 : InfAt led i1.x i1 := R.inf _ (by simp [hr])
      k_steps
      unfold Halt
      rename Rest _ _ _ _ _ _ _ _ => key
      rename Int => M'
      obtain rfl : M' = M := by
        have h1 : M' = i0.c ∨ M' = i1.c := by assumption
        have h2 : M' ≤ i0.c ∧ M' ≤ i1.c := by assumption
        rw [hM]; exact min_of h1 h2
      exact key.get _ _ _ _ _ (by assumption) (by assumption) rfl rfl rfl rfl (fun q hq => by simp [hq])
end Mine
end
section
open Mine
namespace Mine
theorem merge_does2R {prog : Program} {w : World} {p : Program} {loose : List Str} {mean : ExcName → Option Value} {mg mb : Str → Option Value} {rows rest : List Inf} {i0 i1 : Inf} {b bd l : Addr} {led : List (Addr × Obj)} {t0 t2 : Tok} (hrows : rows = i0 :: i1 :: rest) (Bf : BufAt led b bd l) (R : RowAt led l rows) (hfit : rows.length ≤ 1000) :
    Does prog w p loose mean mg mb 128 [.ref b, .int 0 t0, .int 2 t2] 6 led (fun r led' => r = .none ∧ ∃ rows' B, WidP (cels rows) B ∧ ids rows' = ids rows ∧ cels rows' = mapFirst (setTo (min i0.c i1.c)) B (cels rows) ∧ RowAt led' l rows' ∧ Keeps (dsOf rows) led led') := by
  exact merge_does Bf R hfit (.inr ⟨_, _, hrows, rfl⟩)
theorem merge_does1R {prog : Program} {w : World} {p : Program} {loose : List Str} {mean : ExcName → Option Value} {mg mb : Str → Option Value} {rows : List Inf} {i0 : Inf} {b bd l : Addr} {led : List (Addr × Obj)} {t0 t2 : Tok} (hrows : rows = [i0]) (Bf : BufAt led b bd l) (R : RowAt led l rows) (hfit : rows.length ≤ 1000) :
    Does prog w p loose mean mg mb 128 [.ref b, .int 0 t0, .int 2 t2] 6 led (fun r led' => r = .none ∧ ∃ rows' B, WidP (cels rows) B ∧ ids rows' = ids rows ∧ cels rows' = mapFirst (setTo i0.c) B (cels rows) ∧ RowAt led' l rows' ∧ Keeps (dsOf rows) led led') := by
  exact merge_does Bf R hfit (.inl ⟨hrows, rfl⟩)
end Mine
end
section
open Mine
namespace Mine
/-- what drop_cluster makes of a row -/
def DropR (l : List Cel) (k : Nat) (l2 : List Cel) : Prop :=
  (∃ j a e f l1, k = j + 1 ∧ l[j]? = some a ∧ l[j + 1]? = some e ∧ l[j + 2]? = some f ∧ (if a.c = e.c ∨ f.c = e.c then l1 = l else l1 = hbAt e.c a.c (j + 1) l) ∧ l2 = [j, j + 2].foldl (mark e.u e.c) l1) ∨
  (∃ j a e l1, k = j + 1 ∧ l[j]? = some a ∧ l[j + 1]? = some e ∧ l.length = j + 2 ∧ (if a.c = e.c then l1 = l else l1 = hbAt e.c a.c (j + 1) l) ∧ l2 = [j].foldl (mark e.u e.c) l1) ∨
  (∃ e f rest l1, k = 0 ∧ l = e :: f :: rest ∧ (if f.c = e.c then l1 = l else ∃ B, WidP l B ∧ l1 = mapFirst (setTo (min e.c f.c)) B l) ∧ l2 = [1].foldl (mark e.u e.c) l1) ∨
  (∃ e, k = 0 ∧ l = [e] ∧ l2 = [e])
def Zd (rows : List Inf) (k : Nat) (l : List Cel) : Prop := ∃ l2, DropR (cels rows) k l2 ∧ l2.eraseIdx k = l.eraseIdx k
/-- what merge or hand_back makes of the row -/
def Mrg (rows : List Inf) (k : Nat) (e : Inf) (l1 : List Cel) : Prop :=
  (∃ j a, k = j + 1 ∧ rows[j]? = some a ∧ l1 = hbAt e.c a.c (j + 1) (cels rows)) ∨
  (∃ f rest B, k = 0 ∧ rows = e :: f :: rest ∧ WidP (cels rows) B ∧ l1 = mapFirst (setTo (min e.c f.c)) B (cels rows)) ∨
  (∃ B, k = 0 ∧ rows = [e] ∧ l1 = mapFirst (setTo e.c) B (cels rows))
/-- the neighbours, and what is to be shown of them -/
structure NbOk (rows : List Inf) (k : Nat) (e : Inf) (nbs : List Inf) (qs : List Nat) : Prop where
  at_ : ∀ (i : Nat) (x0 : Inf), nbs[i]? = some x0 → ∃ q : Nat, qs[i]? = some q ∧ rows[q]? = some x0
  len : qs.length = nbs.length
  two : nbs.length ≤ 2
  hin : ((nbs.map Inf.c).any fun y => y == e.c) = true → Zd rows k (qs.foldl (mark e.u e.c) (cels rows))
  hout : ((nbs.map Inf.c).any fun y => y == e.c) = false → ∀ l1, Mrg rows k e l1 → Zd rows k (qs.foldl (mark e.u e.c) l1)
def nbI (rows : List Inf) (e : Inf) (y : Int) : Inf := (rows[y.toNat]?).getD e
theorem nb_get {rows : List Inf} {e : Inf} {y : Nat} (h : y < rows.length) : rows[y]? = some ((rows[y]?).getD e) := by rw [List.getElem?_eq_getElem h]; rfl
theorem itemAt_nb {rows : List Inf} {e : Inf} {z y : Int} (_ : ItemAt rows z e) (h0 : 0 ≤ y) (h1 : y < (rows.length : Int)) : ItemAt rows y (nbI rows e y) := ⟨y.toNat, by omega, nb_get (by omega)⟩
theorem cels_at {rows : List Inf} {j : Nat} {a : Inf} (h : rows[j]? = some a) : (cels rows)[j]? = some a.cel := by rw [cels, List.getElem?_map, h]; rfl
theorem nb00 {rows : List Inf} {k : Nat} {e : Inf} (he : rows[k]? = some e) (h0 : ¬ (0 ≤ (k : Int) - 1)) (h1 : ¬ ((k : Int) + 1 < (rows.length : Int))) : NbOk rows k e [] [] := by
  obtain rfl : k = 0 := by omega
  refine ⟨fun i x0 h => by simp at h, rfl, Nat.zero_le _, fun h => by simp at h, fun _ l1 hm => ?_⟩
  have hr : rows = [e] := by
    match rows, he, h1 with
    | [x], he, _ => simpa using he
    | _ :: _ :: _, _, h1 => simp at h1; omega
  subst hr
  refine ⟨[e.cel], .inr (.inr (.inr ⟨e.cel, rfl, rfl, rfl⟩)), ?_⟩
  rcases hm with ⟨j, a, h, -⟩ | ⟨f, rest, B, -, h, -⟩ | ⟨B, -, -, rfl⟩
  · cases h
  · cases h
  · cases B with
    | zero => rfl
    | succ n => cases n <;> rfl
theorem nb01 {rows : List Inf} {k : Nat} {e : Inf} (he : rows[k]? = some e) (h0 : ¬ (0 ≤ (k : Int) - 1)) (h1 : (k : Int) + 1 < (rows.length : Int)) : NbOk rows k e [nbI rows e ((k : Int) + 1)] [k + 1] := by
  obtain rfl : k = 0 := by omega
  match rows, he, h1 with
  | x :: f :: rest, he, _ =>
    obtain rfl : x = e := by simpa using he
    have e1 : nbI (x :: f :: rest) x (((0 : Nat) : Int) + 1) = f := rfl
    rw [e1]
    refine ⟨fun i x0 h => ?_, rfl, by simp, fun h => ?_, fun h l1 hm => ?_⟩
    · rcases i with _ | i
      · exact ⟨1, rfl, by simpa using h⟩
      · simp at h
    · have hc : f.c = x.c := by simpa using h
      exact ⟨_, .inr (.inr (.inl ⟨x.cel, f.cel, cels rest, _, rfl, rfl, by rw [if_pos]; exact hc, rfl⟩)), rfl⟩
    · have hc : ¬ f.c = x.c := by simpa using h
      rcases hm with ⟨j, a, h, -⟩ | ⟨f', rest', B, -, h, hw, rfl⟩ | ⟨B, -, h, -⟩
      · cases h
      · cases h
        exact ⟨_, .inr (.inr (.inl ⟨x.cel, f.cel, cels rest, _, rfl, rfl, by
          rw [if_neg]
          · exact ⟨B, hw, rfl⟩
          · exact hc, rfl⟩)), rfl⟩
      · cases h
theorem nb10 {rows : List Inf} {k : Nat} {e : Inf} (he : rows[k]? = some e) (h0 : 0 ≤ (k : Int) - 1) (h1 : ¬ ((k : Int) + 1 < (rows.length : Int))) : NbOk rows k e [nbI rows e ((k : Int) - 1)] [k - 1] := by
  obtain ⟨j, rfl⟩ : ∃ j, k = j + 1 := ⟨k - 1, by omega⟩
  have hlt := (List.getElem?_eq_some_iff.mp he).1
  have ej : (((j + 1 : Nat) : Int) - 1).toNat = j := by omega
  unfold nbI
  rw [ej]
  have ha : rows[j]? = some ((rows[j]?).getD e) := nb_get (by omega)
  generalize (rows[j]?).getD e = a at *
  refine ⟨fun i x0 h => ?_, rfl, by simp, fun h => ?_, fun h l1 hm => ?_⟩
  · rcases i with _ | i
    · exact ⟨j, rfl, by rw [ha]; simpa using h⟩
    · simp at h
  · have hc : a.c = e.c := by simpa using h
    exact ⟨_, .inr (.inl ⟨j, a.cel, e.cel, _, rfl, cels_at ha, cels_at he, by simp [cels]; omega, by rw [if_pos]; exact hc, rfl⟩), rfl⟩
  · have hc : ¬ a.c = e.c := by simpa using h
    rcases hm with ⟨j', a', h, h2, rfl⟩ | ⟨f', rest', B, h, -⟩ | ⟨B, h, -⟩
    · obtain rfl : j' = j := by omega
      rw [ha] at h2
      cases h2
      exact ⟨_, .inr (.inl ⟨j', a.cel, e.cel, _, rfl, cels_at ha, cels_at he, by simp [cels]; omega, by
          rw [if_neg]
          · rfl
          · exact hc, rfl⟩), rfl⟩
    · cases h
    · cases h
theorem nb11 {rows : List Inf} {k : Nat} {e : Inf} (he : rows[k]? = some e) (h0 : 0 ≤ (k : Int) - 1) (h1 : (k : Int) + 1 < (rows.length : Int)) : NbOk rows k e [nbI rows e ((k : Int) - 1), nbI rows e ((k : Int) + 1)] [k - 1, k + 1] := by
  obtain ⟨j, rfl⟩ : ∃ j, k = j + 1 := ⟨k - 1, by omega⟩
  have hlt := (List.getElem?_eq_some_iff.mp he).1
  have ej : (((j + 1 : Nat) : Int) - 1).toNat = j := by omega
  have ef : (((j + 1 : Nat) : Int) + 1).toNat = j + 2 := by omega
  unfold nbI
  rw [ej, ef]
  have ha : rows[j]? = some ((rows[j]?).getD e) := nb_get (by omega)
  have hf : rows[j + 2]? = some ((rows[j + 2]?).getD e) := nb_get (by omega)
  generalize (rows[j]?).getD e = a at *
  generalize (rows[j + 2]?).getD e = f at *
  refine ⟨fun i x0 h => ?_, rfl, by simp, fun h => ?_, fun h l1 hm => ?_⟩
  · rcases i with _ | _ | i
    · exact ⟨j, rfl, by rw [ha]; simpa using h⟩
    · exact ⟨j + 2, rfl, by rw [hf]; simpa using h⟩
    · simp at h
  · have hc : a.c = e.c ∨ f.c = e.c := by simpa using h
    exact ⟨_, .inl ⟨j, a.cel, e.cel, f.cel, _, rfl, cels_at ha, cels_at he, cels_at hf, by rw [if_pos]; exact hc, rfl⟩, rfl⟩
  · have hc : ¬ (a.c = e.c ∨ f.c = e.c) := by simpa using h
    rcases hm with ⟨j', a', h, h2, rfl⟩ | ⟨f', rest', B, h, -⟩ | ⟨B, h, -⟩
    · obtain rfl : j' = j := by omega
      rw [ha] at h2
      cases h2
      exact ⟨_, .inl ⟨j', a.cel, e.cel, f.cel, _, rfl, cels_at ha, cels_at he, cels_at hf, by
          rw [if_neg]
          · rfl
          · exact hc, rfl⟩, rfl⟩
    · cases h
    · cases h
end Mine
namespace Mine
theorem refs_c {nbs : List Inf} {i : Nat} {v : Value} {z : Int} (hv : (refs nbs)[i]? = some v) (hz : (nbs.map Inf.c)[i]? = some z) : ∃ a, nbs[i]? = some a ∧ v = .ref a.x ∧ z = a.c := by
  rw [refs, List.getElem?_map] at hv
  rw [List.getElem?_map] at hz
  cases h : nbs[i]? with
  | none => rw [h] at hv; cases hv
  | some a => rw [h] at hv hz; exact ⟨a, rfl, (Option.some.inj hv).symm, (Option.some.inj hz).symm⟩
theorem refs_q {rows nbs : List Inf} {qs : List Nat} {i : Nat} {v : Value} (hnb : ∀ (i : Nat) (x0 : Inf), nbs[i]? = some x0 → ∃ q : Nat, qs[i]? = some q ∧ rows[q]? = some x0) (hv : (refs nbs)[i]? = some v) : ∃ (q : Nat) (x0 : Inf), qs[i]? = some q ∧ rows[q]? = some x0 ∧ v = .ref x0.x := by
  rw [refs, List.getElem?_map] at hv
  cases h : nbs[i]? with
  | none => rw [h] at hv; cases hv
  | some a => rw [h] at hv; obtain ⟨q, h1, h2⟩ := hnb i a h; exact ⟨q, a, h1, h2, (Option.some.inj hv).symm⟩
/-- the frame of drop_cluster, ahead of its for -/
def DState5 (g1 : Heap) (L1 l : Addr) (led : List (Addr × Obj)) (rows : List Inf) (k : Nat) (e : Inf) (sg : Array GenState) (sd : Drawn) (so : OsState) (G : Shared → Prop) : Prop :=
  ∀ (h : Heap) (tk : Nat) (mX : Str → Option Value) (W : List (Addr × Obj)) (rowsX : List Inf) (lB : Addr) (nB : Nat) (nbs : List Inf) (qs : List Nat) (tc : Tok),
    Fr g1 L1 h mX → News g1 L1 h W → mX (Str.ofString "beside") = some (.ref lB) → mX (Str.ofString "is_unsafe") = some (.bool e.u) → mX (Str.ofString "cluster") = some (.int e.c tc) →
    (lB, listOf (refs nbs).toArray nB) ∈ W → (∀ (i : Nat) (x0 : Inf), nbs[i]? = some x0 → ∃ q : Nat, qs[i]? = some q ∧ rows[q]? = some x0) → qs.length = nbs.length → ids rowsX = ids rows → RowAt W l rowsX → Keeps (dsOf rows) led W →
    Zd rows k (qs.foldl (mark e.u e.c) (cels rowsX)) → G ⟨h, sg, sd, tk, so⟩
/-- and ahead of its if -/
def DState4 (g1 : Heap) (L1 l b : Addr) (led : List (Addr × Obj)) (rows : List Inf) (k : Nat) (e : Inf) (t0 : Tok) (sg : Array GenState) (sd : Drawn) (so : OsState) (G : Shared → Prop) : Prop :=
  ∀ (h : Heap) (tk : Nat) (mX : Str → Option Value) (W : List (Addr × Obj)) (o1 : Obj) (lB : Addr) (nB : Nat) (nbs : List Inf) (qs : List Nat) (tc : Tok),
    Fr g1 L1 h mX → News g1 L1 h W → (L1 + 1, o1) ∈ W → o1.data = .cell (some (.ref l)) → mX (Str.ofString "beside") = some (.ref lB) → mX (Str.ofString "is_unsafe") = some (.bool e.u) → mX (Str.ofString "cluster") = some (.int e.c tc) →
    mX (Str.ofString "at") = some (.int (k : Int) t0) → mX (Str.ofString "buffer") = some (.ref b) → (lB, listOf (refs nbs).toArray nB) ∈ W → (∀ q ∈ led, q ∈ W) → NbOk rows k e nbs qs → G ⟨h, sg, sd, tk, so⟩
end Mine
end
section
open Mine
local macro_rules | `(tactic| lcg_src) => `(tactic| exact ⟨_, by k_mem, rfl, _, rfl⟩)
theorem Mine.calm06 : True := by
  w_top off
  k_with_none
  k_with "getAttr ref" => ((k_here; (with_reducible show wpAny _ _ (getAttr _ (Str.ofString "cluster") _) _ _ _); k_dflt (refine' get_cluster ?zqk1 ?zqk2 ?zqk3 ?zqk4 ?zqk5 ?_; (case zqk1 => k_asm); (case zqk2 => k_asm); (case zqk3 => k_asm); (case zqk4 => apply ReadsOk.intro <;> k_is); (case zqk5 => k_asm); k_whole; intro tqZ9)))
  k_with "getAttr ref" => ((k_here; (with_reducible show wpAny _ _ (getAttr _ (Str.ofString "is_unsafe") _) _ _ _); k_dflt (refine' get_uns ?zqk1 ?zqk2 ?zqk3 ?zqk4 ?zqk5 ?_; (case zqk1 => k_asm); (case zqk2 => k_asm); (case zqk3 => k_asm); (case zqk4 => apply ReadsOk.intro <;> k_is); (case zqk5 => k_asm); k_whole)))
  k_with "getAttr ref" => ((k_here; (with_reducible show wpAny _ _ (getAttr _ (Str.ofString "glyph") _) _ _ _); k_dflt (refine' get_glyph ?zqk1 ?zqk2 ?zqk3 ?zqk4 ?zqk5 ?_; (case zqk1 => k_asm); (case zqk2 => k_asm); (case zqk3 => k_asm); (case zqk4 => apply ReadsOk.intro <;> k_is); (case zqk5 => k_asm); k_whole; intro tqZ9)))
  k_with "getAttr ref" => ((k_here; (with_reducible show wpAny _ _ (getAttr _ (Str.ofString "kind") _) _ _ _); k_dflt (refine' get_kind ?zqk1 ?zqk2 ?zqk3 ?zqk4 ?zqk5 ?_; (case zqk1 => k_asm); (case zqk2 => k_asm); (case zqk3 => k_asm); (case zqk4 => apply ReadsOk.intro <;> k_is); (case zqk5 => k_asm); k_whole; intro tqZ9)))
  k_with "getAttr ref" => ((k_here; (with_reducible show wpAny _ _ (getAttr _ (Str.ofString "lig_count") _) _ _ _); k_dflt (refine' get_lig ?zqk1 ?zqk2 ?zqk3 ?zqk4 ?zqk5 ?_; (case zqk1 => k_asm); (case zqk2 => k_asm); (case zqk3 => k_asm); (case zqk4 => apply ReadsOk.intro <;> k_is); (case zqk5 => k_asm); k_whole; intro tqZ9)))
  k_with "getAttr ref" => ((k_here; (with_reducible show wpAny _ _ (getAttr _ (Str.ofString "row") _) _ _ _); k_dflt (refine' get_row ?zqk1 ?zqk2 ?zqk3 ?zqB ?zqk4 ?zqk5 ?zqk6 ?zqk7 ?_; (case zqk1 => k_asm); (case zqk2 => k_asm); (case zqk3 => k_asm); (case zqB => k_asm); (case zqk4 => k_is); (case zqk5 => k_is); (case zqk6 => k_is); (case zqk7 => k_is); k_whole)))
  k_with "setAttr ref" => ((k_here; (with_reducible show wpAny _ _ (setAttr _ (Str.ofString "cluster") _) _ _ _); k_dflt (refine' set_clu ?zqk1 ?zqk2 ?zqk3 ?zqk4 ?zqk5 ?_; (case zqk1 => k_asm); (case zqk2 => k_asm); (case zqk3 => k_asm); (case zqk4 => apply StoresOk.intro <;> k_is); (case zqk5 => k_asm); k_whole; intro hqZ9 esqZ9 nqZ9 FqZ9 NqZ9 IqZ9)))
  k_with "setAttr ref" => ((k_here; (with_reducible show wpAny _ _ (setAttr _ (Str.ofString "is_unsafe") _) _ _ _); k_dflt (refine' set_uns ?zqk1 ?zqk2 ?zqk3 ?zqk4 ?zqk5 ?_; (case zqk1 => k_asm); (case zqk2 => k_asm); (case zqk3 => k_asm); (case zqk4 => apply StoresOk.intro <;> k_is); (case zqk5 => k_asm); k_whole; intro hqZ9 esqZ9 nqZ9 FqZ9 NqZ9 IqZ9)))
  k_with "subscriptTail" => ((k_here; (with_reducible show wpAny _ _ (subscriptTail _ _ (Value.ref _) (Value.int _ _)) _ _ _); k_dflt (refine' item_row ?zqN ?zqR ?zqz ?zqf ?_; (case zqN => k_asm); (case zqR => k_asm); (case zqz => k_asm); (case zqf => assumption); k_whole)))
  k_with "exec While" => ((k_here; refine Halt.go ?_))
  k_with "last exec While" => ((k_here; refine Halt.go ?_))
  k_with "call builtin:len" => ((k_here; (with_reducible show wpAny _ _ (call (Value.builtin _) [Value.ref _]) _ _ _); k_dflt (refine' len_row ?zqN ?zqR ?zqf ?_; (case zqN => k_asm); (case zqR => k_asm); (case zqf => assumption); k_whole; intro tqZ9)))
  k_with "subscriptTail" => ((k_here; (with_reducible show wpAny _ _ (subscriptTail _ (PySem.Expr.Slice _ _ none _) (Value.ref _) (Value.ref _)) _ _ _); k_dflt (refine' slice_led ?zqF ?zqN ?zql ?zqp ?zqq ?zqe ?zqz ?_ ?zqs ?zqt; (case zqF => k_asm); (case zqN => k_asm); (case zql => first | assumption | k_mem); (case zqp => kmk_part); (case zqq => kmk_part); (case zqe => first | assumption | (rename (∀ _ : Nat, slicePick _ _ _ _ = _) => hpAZ9; exact hpAZ9 _)); (case zqz => assumption); (case zqs => with_unfolding_all rfl); (case zqt => kmk_pure); k_whole); intro DqZ9 hqZ9 FqZ9 NqZ9 l1Z9))
  k_with "subscriptTail Name Slice ref ref" => (walk_at "subscriptTail")
  k_with "CompEnd" => ((k_here; refine LCg.CompEnd.intro (by k_asm) (by k_asm) _ (fun _ hp => hp) (by first | assumption | (simp only [LCg.Off3, and_true]; assumption)) (by lcg_src) ?_))
  k_with "own enter" => ((refine' code_defC ?zqk1 ?zqk2 ?zqk3 ?zqk4 ?zqk5 ?zqkA ?zqkF ?zqkK ?zqk6 ?zqk7 ?zqk8 ?zqk9 ?zqkB ?zqkD ?_ ?zqc2 ?zqc3 ?zqc4; (case zqkA => exact rfl); (case zqkF => exact rfl); (case zqkK => first | exact rfl | assumption); (case zqk1 => k_asm); (case zqk2 => k_asm); (case zqk3 => k_asm); (case zqk4 => k_asm); (case zqk5 => k_asm); (case zqk6 => k_is); (case zqk7 => k_is); (case zqk8 => ktr_room); (case zqk9 => first | exact BindsTo.of_eq rfl | exact binds_K (by k_in) rfl (by k_is) rfl rfl rfl | fail "k_enter: no rule for these arguments"); (case zqkB => exact rfl); (case zqkD => decide +kernel); (case zqc2 => exact rfl); (case zqc3 => exact rfl); (case zqc4 => exact rfl); k_whole; intro g1 L1 h1 tk1w cells1 FG1 F1 N1 Y1 B1 X1 T1 lw1; k_cells Y1; (try simp only [List.cons_append, List.nil_append] at N1); (try dsimp only); (try k_lift B1); (try k_fold)))
  k_with "call ref" => ((k_here; k_dflt (refine' does_use (hand_back_doesZ ?zqI ?zqhk ?zqf) ?zqB ?zqF ?zqX ?zqN ?zqT ?zqk ?zqd ?zqu ?_; (case zqB => k_asm); (case zqF => k_asm); (case zqX => k_asm); (case zqN => k_asm); (case zqT => k_asm); (case zqk => first | exact rfl | assumption); (case zqI => k_asm); (case zqhk => k_asm); (case zqf => assumption); (case zqd => ktr_room); (case zqu => ktr_units); k_whole; intro rqZ9 ledqZ9 hqZ9 tkqZ9 FqZ9 NqZ9 hRqZ9; obtain ⟨e1Z9, rowsqZ9, hidqZ9, hceqZ9, RqZ9, KqZ9⟩ := hRqZ9; subst e1Z9)))
  k_with "call ref" => ((k_here; k_dflt (refine' does_use (merge_does2R ?zqhr ?zqI ?zqR ?zqf) ?zqB ?zqF ?zqX ?zqN ?zqT ?zqk ?zqd ?zqu ?_; (case zqB => k_asm); (case zqF => k_asm); (case zqX => k_asm); (case zqN => k_asm); (case zqT => k_asm); (case zqk => first | exact rfl | assumption); (case zqhr => assumption); (case zqI => k_asm); (case zqR => k_asm); (case zqf => assumption); (case zqd => ktr_room); (case zqu => ktr_units); k_whole; intro rqZ9 ledqZ9 hqZ9 tkqZ9 FqZ9 NqZ9 hRqZ9; obtain ⟨e1Z9, rowsqZ9, BwqZ9, hWqZ9, hidqZ9, hceqZ9, RqZ9, KqZ9⟩ := hRqZ9; subst e1Z9)))
  k_with "call ref" => ((k_here; k_dflt (refine' does_use (merge_does1R ?zqhr ?zqI ?zqR ?zqf) ?zqB ?zqF ?zqX ?zqN ?zqT ?zqk ?zqd ?zqu ?_; (case zqB => k_asm); (case zqF => k_asm); (case zqX => k_asm); (case zqN => k_asm); (case zqT => k_asm); (case zqk => first | exact rfl | assumption); (case zqhr => assumption); (case zqI => k_asm); (case zqR => k_asm); (case zqf => assumption); (case zqd => ktr_room); (case zqu => ktr_units); k_whole; intro rqZ9 ledqZ9 hqZ9 tkqZ9 FqZ9 NqZ9 hRqZ9; obtain ⟨e1Z9, rowsqZ9, BwqZ9, hWqZ9, hidqZ9, hceqZ9, RqZ9, KqZ9⟩ := hRqZ9; subst e1Z9)))
  k_with "exec Assign cons ListComp" => ((k_here; lct_look; k_dflt (refine Assign_comp_tup (F₀ := by k_asm) (by rfl) (by with_unfolding_all rfl) (by with_unfolding_all rfl) (by decide) (by rfl) (by decide) (by rfl) (by rfl) (by rfl) ?_)))
  k_with "SrcTup" => ((k_here; k_dflt (refine' SrcTup.intro ?zqka ?zqkb ?zqkc ?zqkd ?zqke ?_; (case zqka => rfl); (case zqkb => k_asm); (case zqkc => k_asm); (case zqkd => k_mem); (case zqke => first | size_fits | exact Nat.le_of_ble_eq_true rfl)); intro gqZ9; lct_lit))
  k_with "exec For" => ((k_here; (rename Fr _ _ _ _ => lFqZ9); (with_unfolding_all refine' For_invVF lFqZ9 ?zqk1 ?zqk2 ?_; (case zqk1 => exact rfl); (case zqk2 => exact rfl); k_whole)))
  k_with "exec For Name Subscript cons nil" => (walk_at "exec For")
  k_with "exec For Name Name cons nil" => (walk_at "exec For")
  k_with "pyIter ref" => ((k_here; refine Halt.go ?_))
  k_with "execs cons" => ((k_here; (with_reducible rename Rest _ _ _ _ _ _ _ _ => hRest9Z9); k_dflt (refine Rest.stop hRest9Z9 ?_)))
  k_with "CompSrc" => ((k_here; refine Halt.go ?_))
  k_with "eval ListComp" => ((k_here; k_dflt (refine LCg.ListComp_U (F₀ := by k_asm) (by with_unfolding_all rfl) (by decide) (by rfl) (by decide) (by rfl) ?_)))
  k_with "eval Name" => ((k_here; k_dflt (refine' nameX_L ?zqF ?zqv ?_ ?zqa ?zqb; (case zqF => k_asm); (case zqa => rfl); (case zqb => rfl); (case zqv => assumption); k_whole)))
  k_with "subscriptTail" => ((k_here; (with_reducible show wpAny _ _ (subscriptTail _ _ (Value.ref _) (Value.int _ _)) _ _ _); k_dflt (refine' item_row ?zqN ?zqR ?zqz ?zqf ?_; (case zqN => k_asm); (case zqR => k_asm); (case zqz => first | assumption | exact itemAt_nb (by assumption) (by first | assumption | omega) (by first | assumption | omega)); (case zqf => assumption); k_whole)))
  k_with "compareOp NotIn int ref" => ((k_here; k_dflt (refine' notin_led ?zqkN ?zqkm ?zqki ?_; (case zqkN => k_asm); (case zqkm => k_mem); (case zqki => assumption); k_whole)))
  trivial
section
open Mine
namespace Mine
variable {prog : Program} {w : World} {p : Program} {loose : List Str} {mean : ExcName → Option Value} {mg mb : Str → Option Value}
set_option maxRecDepth 100000 in
set_option maxHeartbeats 8000000 in
theorem drop_does {rows : List Inf} {k : Nat} {b bd l : Addr} {led : List (Addr × Obj)} {t0 : Tok} (Bf : BufAt led b bd l) (R : RowAt led l rows) (hfit : rows.length ≤ 1000) (hk : k < rows.length) :
    Does prog w p loose mean mg mb 140 [.ref b, .int (k : Int) t0] 9 led (fun r led' => r = .none ∧ ∃ rows' l2, DropR (cels rows) k l2 ∧ l2.eraseIdx k = (cels rows').eraseIdx k ∧ ids rows' = ids rows ∧ RowAt led' l rows' ∧ Keeps (dsOf rows) led led') := by
  unfold Does
  intro dp un gd cn cs a₁ ccd cl outer A₀ base h₀ L m s Q E B F X N T hcs hdp hun hret
  obtain ⟨sh, sg, sd, st, so⟩ := s
  dsimp only at F N hret
  obtain ⟨e, he⟩ : ∃ e, rows[k]? = some e := ⟨_, List.getElem?_eq_getElem hk⟩
  have iE : ItemAt rows (k : Int) e := ⟨k, rfl, he⟩
  have hE : InfAt led e.x e := R.inf _ iE.mem
  have hk0 : 0 ≤ (k : Int) := Int.natCast_nonneg k
  have hk1 : (k : Int) < (rows.length : Int) := by omega
  refine wpAny_call ?_
  k_dflt (walk_at "own enter")
  rename_i o1 d1
  show wpAny _ _ _ _ _ _
  k_fold
  refine cut_at 5 (DState5 g1 L1 l led rows k e sg sd so) ?suf5 (fun key5 => ?_)
  case suf5 =>
    unfold DState5
    intro h tk mX W rowsX lB nB nbs qs tc F9 N9 hmB hmU hmC hB hnb hql hid RX KX hZ
    clear F1 N1
    dsimp only [List.drop]
    k_steps
    unfold Halt
    rename Fr _ _ _ _ => F1
    rename News _ _ _ _ => N1
    refine' iter_led (fun i nx => ∃ rows', ids rows' = ids rows ∧ cels rows' = (qs.take i).foldl (mark e.u e.c) (cels rowsX) ∧ RowAt nx l rows' ∧ Keeps (dsOf rows) led nx) (by rfl) hB F1 N1 ⟨rowsX, hid, by rfl, RX, KX⟩ ?ht0 ?hd0
    case ht0 =>
      rintro i v nx I oI h tkk hv ⟨rows', hid2, hce, R', K'⟩ hsl off Fw Nw
      obtain ⟨q, x0, hq, hx0, rfl⟩ := refs_q hnb hv
      obtain ⟨x, hx, hxx, hxd⟩ := ids_get hid2 hx0
      have hmem := List.mem_of_getElem? hx
      have hI : InfAt nx x0.x x := hxx ▸ R'.inf x hmem
      have hId : I ≠ x.d := fun e => off _ hI.at_.2 e.symm
      have hne : x.x ≠ x.d := R'.xd x hmem x hmem
      have hsd := list_ne_dict Nw (List.mem_cons_of_mem _ hsl) (List.mem_cons_of_mem _ hI.at_.2)
      have hcx : (cels rows')[q]? = some x.cel := by simp [hx]
      have htk : qs.take (i + 1) = qs.take i ++ [q] := by rw [List.take_add_one, hq]; rfl
      have hkd : Keeps (dsOf rows) led nx := K'
      k_steps
      all_goals first
        | (rename News _ _ _ (setL _ _ _) => N2
           rename InfAt (setL _ _ _) _ _ => I2
           have hc : x.c = e.c := by assumption
           have hu : e.u = true := by assumption
           refine gpost_next (by assumption) (news_sub N2 (setL_cons_sub hId)) (setL_off hId.symm off) (mem_setL_ne hsl hsd) ⟨fun y hy => by simp [hy], rows'.set q _, (set_ids hx (by rfl)).trans hid2, ?_, R'.set hx (InfAt.shrink (hxx ▸ hI) hne I2), K'.trans (keeps_setL (by show x.d ∈ rows.map Inf.d; rw [← ids_d hid2]; exact List.mem_map_of_mem hmem))⟩
           rw [htk, List.foldl_append, ← hce, set_cels]
           exact (mark_yes hcx hu hc).symm)
        | (refine gpost_next (by assumption) (by assumption) off hsl ⟨fun y hy => by simp [hy], rows', hid2, ?_, R', K'⟩
           rw [htk, List.foldl_append, ← hce]
           exact (mark_no hcx (by first | (left; assumption) | (right; assumption))).symm)
    case hd0 =>
      rintro u nx h tkk ⟨rows', hid2, hce, R', K'⟩ Fw Nw
      k_steps
      obtain ⟨l2, hD, hE2⟩ := hZ
      have hlen2 : (refs nbs).length = qs.length := by rw [hql]; simp [refs]
      rw [hlen2, List.take_length] at hce
      exact hret _ _ _ _ (by assumption) (by assumption) ⟨rfl, rows', l2, hD, by rw [hce]; exact hE2, hid2, R', K'⟩
  refine cut_at 4 (DState4 g1 L1 l b led rows k e t0 sg sd so) ?suf4 (fun key4 => ?walk)
  case suf4 =>
    unfold DState4
    intro h tk mX W o1' lB nB nbs qs tc F9 N9 hc1 hd1 hmB hmU hmC hmA hmb hB hsub nb
    clear F1 N1
    dsimp only [List.drop]
    have RW : RowAt W l rows := R.mono hsub
    have BW : BufAt W b bd l := Bf.mono hsub
    have hBd : lB ∉ dsOf rows := list_not_ds N9 hB fun i hi => hsub _ (R.inf i hi).at_.2
    have KW : Keeps (dsOf rows) led W := fun q hq _ => hsub q hq
    have hnf : (refs nbs).length ≤ 1000 := by have := nb.two; simp [refs]; omega
    have hnl : (nbs.map Inf.c).length = (refs nbs).length := by simp [refs]
    k_steps
    unfold Halt
    refine LCg.CompSrc.ledger (by rfl) (by k_asm) (by k_asm) (by k_mem) (by rw [sizeLine_eq, List.size_toArray]; omega) ?_
    intro g
    refine comp_ints (ns := nbs.map Inf.c) (by k_mem) hnl ?_ ?_
    · intro i v z hv hz I oI C oC D m₂ ys h tk E' hC hx Fw Nw off ne hS
      obtain ⟨a, ha, rfl, rfl⟩ := refs_c hv hz
      obtain ⟨q, -, hq⟩ := nb.at_ i a ha
      have hA : InfAt W a.x a := RW.inf a (List.mem_of_getElem? hq)
      k_steps
    · intro ys hys
      obtain hk2 | ⟨j, hj⟩ : k = 0 ∨ ∃ j, k = j + 1 := by
        cases k with
        | zero => exact .inl rfl
        | succ j => exact .inr ⟨j, rfl⟩
      · have hmA0 : mX (Str.ofString "at") = some (.int 0 t0) := by rw [hmA, hk2]; rfl
        clear hmA
        obtain hr | ⟨f, rest, hr⟩ : rows = [e] ∨ ∃ f rest, rows = e :: f :: rest := by
          rw [hk2] at he
          match rows, he with
          | [x], he => left; simpa using he
          | x :: f :: rest, he => right; exact ⟨f, rest, by simpa using he⟩
        · k_steps
          all_goals first
            | (
              have h9 : ((nbs.map Inf.c).any fun y => y == e.c) = true := by assumption
              unfold Halt
              rename Rest _ _ _ _ _ _ _ _ => key5
              exact key5.get _ _ _ _ rows lB nB nbs qs tc (by assumption) (by assumption) hmB hmU hmC (by k_mem) nb.at_ nb.len rfl (by k_asm) (fun q hq _ => by have := hsub q hq; simp [this]) (nb.hin h9))
            | (
              have h9 : ((nbs.map Inf.c).any fun y => y == e.c) = false := by assumption
              unfold Halt
              rename Rest _ _ _ _ _ _ _ _ => key5
              rename List Inf => rowsX
              rename ids _ = ids _ => hidX
              rename cels _ = _ => hceX
              rename RowAt _ _ _ => RX
              rename Keeps _ _ _ => KX
              exact key5.get _ _ _ _ rowsX lB nB nbs qs tc (by assumption) (by assumption) hmB hmU hmC (KX _ (by k_mem) hBd) nb.at_ nb.len hidX RX (KX.sub fun q hq => by have := hsub q hq; simp [this]) (nb.hout h9 _ (by rw [hceX]; rename WidP _ _ => hW; exact .inr (.inr ⟨_, hk2, hr, rfl⟩))))
        · k_steps
          all_goals first
            | (
              have h9 : ((nbs.map Inf.c).any fun y => y == e.c) = true := by assumption
              unfold Halt
              rename Rest _ _ _ _ _ _ _ _ => key5
              exact key5.get _ _ _ _ rows lB nB nbs qs tc (by assumption) (by assumption) hmB hmU hmC (by k_mem) nb.at_ nb.len rfl (by k_asm) (fun q hq _ => by have := hsub q hq; simp [this]) (nb.hin h9))
            | (
              have h9 : ((nbs.map Inf.c).any fun y => y == e.c) = false := by assumption
              unfold Halt
              rename Rest _ _ _ _ _ _ _ _ => key5
              rename List Inf => rowsX
              rename ids _ = ids _ => hidX
              rename cels _ = _ => hceX
              rename RowAt _ _ _ => RX
              rename Keeps _ _ _ => KX
              exact key5.get _ _ _ _ rowsX lB nB nbs qs tc (by assumption) (by assumption) hmB hmU hmC (KX _ (by k_mem) hBd) nb.at_ nb.len hidX RX (KX.sub fun q hq => by have := hsub q hq; simp [this]) (nb.hout h9 _ (by rw [hceX]; rename WidP _ _ => hW; exact .inr (.inl ⟨_, _, _, hk2, hr, hW, rfl⟩))))
      · have iA : ItemAt rows ((k : Int) - 1) (nbI rows e ((k : Int) - 1)) := itemAt_nb iE (by omega) (by omega)
        have haj : rows[j]? = some (nbI rows e ((k : Int) - 1)) := by
          obtain ⟨q, hq1, hq2⟩ := iA
          have : q = j := by omega
          rw [← this]; exact hq2
        have hpos : 0 < (k : Int) := by omega
        have htn : ((k : Int) - 1).toNat = j := by omega
        k_steps
        all_goals first
          | (
            have h9 : ((nbs.map Inf.c).any fun y => y == e.c) = true := by assumption
            unfold Halt
            rename Rest _ _ _ _ _ _ _ _ => key5
            exact key5.get _ _ _ _ rows lB nB nbs qs tc (by assumption) (by assumption) hmB hmU hmC (by k_mem) nb.at_ nb.len rfl (by k_asm) (fun q hq _ => by have := hsub q hq; simp [this]) (nb.hin h9))
          | (
            have h9 : ((nbs.map Inf.c).any fun y => y == e.c) = false := by assumption
            unfold Halt
            rename Rest _ _ _ _ _ _ _ _ => key5
            rename List Inf => rowsX
            rename ids _ = ids _ => hidX
            rename cels _ = _ => hceX
            rename RowAt _ _ _ => RX
            rename Keeps _ _ _ => KX
            exact key5.get _ _ _ _ rowsX lB nB nbs qs tc (by assumption) (by assumption) hmB hmU hmC (KX _ (by k_mem) hBd) nb.at_ nb.len hidX RX (KX.sub fun q hq => by have := hsub q hq; simp [this]) (nb.hout h9 _ (by rw [hceX, htn]; exact .inl ⟨j, _, hj, haj, rfl⟩)))
  case walk =>
    k_steps
    all_goals (
      unfold Halt
      rename Rest _ _ _ _ _ _ _ _ => key4
      rename News _ _ _ _ => N8
      rename Fr _ _ _ _ => F8)
    · exact key4.get _ _ _ _ _ _ _ [_, _] _ _ F8 N8 (by k_mem) (by assumption) rfl rfl rfl rfl rfl (by k_mem) (fun q hq => by simp [hq]) (nb11 he (by omega) (by omega))
    · exact key4.get _ _ _ _ _ _ _ [_] _ _ F8 N8 (by k_mem) (by assumption) rfl rfl rfl rfl rfl (by k_mem) (fun q hq => by simp [hq]) (nb10 he (by omega) (by omega))
    · exact key4.get _ _ _ _ _ _ _ [_] _ _ F8 N8 (by k_mem) (by assumption) rfl rfl rfl rfl rfl (by k_mem) (fun q hq => by simp [hq]) (nb01 he (by omega) (by omega))
    · exact key4.get _ _ _ _ _ _ _ [] _ _ F8 N8 (by k_mem) (by assumption) rfl rfl rfl rfl rfl (by k_mem) (fun q hq => by simp [hq]) (nb00 he (by omega) (by omega))
end Mine
end
end
section
open Mine
theorem Mine.calm07 : True := by
  w_top off
  k_with_none
  k_with "getAttr ref" => ((k_here; (with_reducible show wpAny _ _ (getAttr _ (Str.ofString "cluster") _) _ _ _); k_dflt (refine' get_cluster ?zqk1 ?zqk2 ?zqk3 ?zqk4 ?zqk5 ?_; (case zqk1 => k_asm); (case zqk2 => k_asm); (case zqk3 => k_asm); (case zqk4 => apply ReadsOk.intro <;> k_is); (case zqk5 => k_asm); k_whole; intro tqZ9)))
  k_with "getAttr ref" => ((k_here; (with_reducible show wpAny _ _ (getAttr _ (Str.ofString "is_unsafe") _) _ _ _); k_dflt (refine' get_uns ?zqk1 ?zqk2 ?zqk3 ?zqk4 ?zqk5 ?_; (case zqk1 => k_asm); (case zqk2 => k_asm); (case zqk3 => k_asm); (case zqk4 => apply ReadsOk.intro <;> k_is); (case zqk5 => k_asm); k_whole)))
  k_with "getAttr ref" => ((k_here; (with_reducible show wpAny _ _ (getAttr _ (Str.ofString "glyph") _) _ _ _); k_dflt (refine' get_glyph ?zqk1 ?zqk2 ?zqk3 ?zqk4 ?zqk5 ?_; (case zqk1 => k_asm); (case zqk2 => k_asm); (case zqk3 => k_asm); (case zqk4 => apply ReadsOk.intro <;> k_is); (case zqk5 => k_asm); k_whole; intro tqZ9)))
  k_with "getAttr ref" => ((k_here; (with_reducible show wpAny _ _ (getAttr _ (Str.ofString "kind") _) _ _ _); k_dflt (refine' get_kind ?zqk1 ?zqk2 ?zqk3 ?zqk4 ?zqk5 ?_; (case zqk1 => k_asm); (case zqk2 => k_asm); (case zqk3 => k_asm); (case zqk4 => apply ReadsOk.intro <;> k_is); (case zqk5 => k_asm); k_whole; intro tqZ9)))
  k_with "getAttr ref" => ((k_here; (with_reducible show wpAny _ _ (getAttr _ (Str.ofString "lig_count") _) _ _ _); k_dflt (refine' get_lig ?zqk1 ?zqk2 ?zqk3 ?zqk4 ?zqk5 ?_; (case zqk1 => k_asm); (case zqk2 => k_asm); (case zqk3 => k_asm); (case zqk4 => apply ReadsOk.intro <;> k_is); (case zqk5 => k_asm); k_whole; intro tqZ9)))
  k_with "getAttr ref" => ((k_here; (with_reducible show wpAny _ _ (getAttr _ (Str.ofString "row") _) _ _ _); k_dflt (refine' get_row ?zqk1 ?zqk2 ?zqk3 ?zqB ?zqk4 ?zqk5 ?zqk6 ?zqk7 ?_; (case zqk1 => k_asm); (case zqk2 => k_asm); (case zqk3 => k_asm); (case zqB => k_asm); (case zqk4 => k_is); (case zqk5 => k_is); (case zqk6 => k_is); (case zqk7 => k_is); k_whole)))
  k_with "setAttr ref" => ((k_here; (with_reducible show wpAny _ _ (setAttr _ (Str.ofString "cluster") _) _ _ _); k_dflt (refine' set_clu ?zqk1 ?zqk2 ?zqk3 ?zqk4 ?zqk5 ?_; (case zqk1 => k_asm); (case zqk2 => k_asm); (case zqk3 => k_asm); (case zqk4 => apply StoresOk.intro <;> k_is); (case zqk5 => k_asm); k_whole; intro hqZ9 esqZ9 nqZ9 FqZ9 NqZ9 IqZ9)))
  k_with "setAttr ref" => ((k_here; (with_reducible show wpAny _ _ (setAttr _ (Str.ofString "is_unsafe") _) _ _ _); k_dflt (refine' set_uns ?zqk1 ?zqk2 ?zqk3 ?zqk4 ?zqk5 ?_; (case zqk1 => k_asm); (case zqk2 => k_asm); (case zqk3 => k_asm); (case zqk4 => apply StoresOk.intro <;> k_is); (case zqk5 => k_asm); k_whole; intro hqZ9 esqZ9 nqZ9 FqZ9 NqZ9 IqZ9)))
  k_with "subscriptTail" => ((k_here; (with_reducible show wpAny _ _ (subscriptTail _ _ (Value.ref _) (Value.int _ _)) _ _ _); k_dflt (refine' item_row ?zqN ?zqR ?zqz ?zqf ?_; (case zqN => k_asm); (case zqR => k_asm); (case zqz => k_asm); (case zqf => assumption); k_whole)))
  k_with "exec While" => ((k_here; refine Halt.go ?_))
  k_with "last exec While" => ((k_here; refine Halt.go ?_))
  k_with "call builtin:len" => ((k_here; (with_reducible show wpAny _ _ (call (Value.builtin _) [Value.ref _]) _ _ _); k_dflt (refine' len_row ?zqN ?zqR ?zqf ?_; (case zqN => k_asm); (case zqR => k_asm); (case zqf => assumption); k_whole; intro tqZ9)))
  k_with "subscriptTail" => ((k_here; (with_reducible show wpAny _ _ (subscriptTail _ (PySem.Expr.Slice _ _ none _) (Value.ref _) (Value.ref _)) _ _ _); k_dflt (refine' slice_led ?zqF ?zqN ?zql ?zqp ?zqq ?zqe ?zqz ?_ ?zqs ?zqt; (case zqF => k_asm); (case zqN => k_asm); (case zql => first | assumption | k_mem); (case zqp => kmk_part); (case zqq => kmk_part); (case zqe => first | assumption | (rename (∀ _ : Nat, slicePick _ _ _ _ = _) => hpAZ9; exact hpAZ9 _)); (case zqz => assumption); (case zqs => with_unfolding_all rfl); (case zqt => kmk_pure); k_whole); intro DqZ9 hqZ9 FqZ9 NqZ9 l1Z9))
  k_with "subscriptTail Name Slice ref ref" => (walk_at "subscriptTail")
  k_with "CompEnd" => ((k_here; refine LCg.CompEnd.intro (by k_asm) (by k_asm) _ (fun _ hp => hp) (by first | assumption | (simp only [LCg.Off3, and_true]; assumption)) (by lcg_src) ?_))
  k_with "call ref" => ((k_here; k_dflt (refine' does_use (set_cluster_does ?zqI) ?zqB ?zqF ?zqX ?zqN ?zqT ?zqk ?zqd ?zqu ?_; (case zqB => k_asm); (case zqF => k_asm); (case zqX => k_asm); (case zqN => k_asm); (case zqT => k_asm); (case zqk => first | exact rfl | assumption); (case zqI => k_asm); (case zqd => ktr_room); (case zqu => ktr_units); k_whole; intro rqZ9 ledqZ9 hqZ9 tkqZ9 FqZ9 NqZ9 hRqZ9; obtain ⟨e1Z9, esqZ9, nqZ9, IqZ9, e2Z9⟩ := hRqZ9; subst e1Z9; subst e2Z9)))
  k_with "call ref" => ((k_here; (with_reducible show wpAny _ _ (call (Value.ref 128) _ _) _ _ _); k_dflt (refine' does_use (merge_noop ?zqI) ?zqB ?zqF ?zqX ?zqN ?zqT ?zqk ?zqd ?zqu ?_; (case zqB => k_asm); (case zqF => k_asm); (case zqX => k_asm); (case zqN => k_asm); (case zqT => k_asm); (case zqk => first | exact rfl | assumption); (case zqI => omega); (case zqd => ktr_room); (case zqu => ktr_units); k_whole; intro rqZ9 ledqZ9 hqZ9 tkqZ9 FqZ9 NqZ9 hRqZ9; obtain ⟨e1Z9, e2Z9⟩ := hRqZ9; subst e1Z9; subst e2Z9)))
  k_with "call ref" => ((k_here; (with_reducible show wpAny _ _ (call (Value.ref 140) _ _) _ _ _); k_dflt (refine' does_use (drop_does ?zqI ?zqR ?zqf ?zqhk) ?zqB ?zqF ?zqX ?zqN ?zqT ?zqk ?zqd ?zqu ?_; (case zqB => k_asm); (case zqF => k_asm); (case zqX => k_asm); (case zqN => k_asm); (case zqT => k_asm); (case zqk => first | exact rfl | assumption); (case zqI => k_asm); (case zqR => k_asm); (case zqf => assumption); (case zqhk => assumption); (case zqd => ktr_room); (case zqu => ktr_units); k_whole; intro rqZ9 ledqZ9 hqZ9 tkqZ9 FqZ9 NqZ9 hRqZ9; obtain ⟨e1Z9, rowsqZ9, l2qZ9, hdqZ9, hceqZ9, hidqZ9, RqZ9, KqZ9⟩ := hRqZ9; subst e1Z9; (have BfqZ9 := BufAt.keeps (by k_asm) KqZ9 (by assumption) (by assumption)))))
  k_with "pyIter ref" => ((k_here; refine Halt.go ?_))
  k_with "exec For" => ((k_here; (rename Fr _ _ _ _ => lFqZ9); (with_unfolding_all refine' For_invVF lFqZ9 ?zqk1 ?zqk2 ?_; (case zqk1 => exact rfl); (case zqk2 => exact rfl); k_whole)))
  k_with "exec For Name Subscript cons nil" => (walk_at "exec For")
  k_with "exec For Name Name cons nil" => (walk_at "exec For")
  k_with "compareOp NotEq ref ref" => ((k_here; k_dflt (first
  | (refine' ne_nil ?zqka ?zqkb ?zqkc ?zqku ?_; (case zqka => k_asm); (case zqkb => k_mem); (case zqkc => k_mem); (case zqku => ktr_units); k_whole)
  | (refine' ne_len ?zqka ?zqkb ?zqkc ?zqkl ?zqku ?_; (case zqka => k_asm); (case zqkb => k_mem); (case zqkc => k_mem); (case zqkl => (simp [refs]; done)); (case zqku => ktr_units); k_whole))))
  k_with "compareOp Eq ref ref" => ((k_here; k_dflt (first
  | (refine' eq_nil ?zqka ?zqkb ?zqkc ?zqku ?_; (case zqka => k_asm); (case zqkb => k_mem); (case zqkc => k_mem); (case zqku => ktr_units); k_whole)
  | (refine' eq_len ?zqka ?zqkb ?zqkc ?zqkl ?zqku ?_; (case zqka => k_asm); (case zqkb => k_mem); (case zqkc => k_mem); (case zqkl => (simp [refs]; done)); (case zqku => ktr_units); k_whole))))
  k_with "setItem ref ref" => ((k_here; refine Halt.go ?_))
  k_with "execs cons" => ((k_here; k_fold; (rename Fr _ _ _ _ => hFmZ9); revert hFmZ9; (show let mmZ9 : Str → Option Value := _; Fr _ _ _ mmZ9 → _); intro mmZ9 hFmZ9))
  trivial
section
open Mine
namespace Mine
variable {prog : Program} {w : World} {p : Program} {loose : List Str} {mean : ExcName → Option Value} {mg mb : Str → Option Value}
set_option maxRecDepth 100000 in
set_option maxHeartbeats 8000000 in
theorem put_does {rows : List Inf} {k n0 : Nat} {e : Inf} {b bd l G : Addr} {led : List (Addr × Obj)} {t0 t1 : Tok} (Bf : BufAt led b bd l) (R : RowAt led l rows) (hfit : rows.length ≤ 1000) (he : rows[k]? = some e) (hG : (G, listOf ([] : List Value).toArray n0) ∈ led) (hb : b ∉ dsOf rows) (hbd : bd ∉ dsOf rows) :
    Does prog w p loose mean mg mb 145 [.ref b, .int (k : Int) t0, .int 1 t1, .ref G] 12 led (fun r led' => r = .none ∧ ∃ rows' l2, DropR (cels rows) k l2 ∧ cels rows' = l2.eraseIdx k ∧ ids rows' = (ids rows).eraseIdx k ∧ RowAt led' l rows' ∧ BufAt led' b bd l ∧ Keeps (l :: dsOf rows) led led') := by
  unfold Does
  intro dp un gd cn cs a₁ ccd cl outer A₀ base h₀ L m s Q E B F X N T hcs hdp hun hret
  obtain ⟨nn, hl⟩ := R.list
  have hk := (List.getElem?_eq_some_iff.mp he).1
  have iE : ItemAt rows (k : Int) e := ⟨k, rfl, he⟩
  have hE : InfAt led e.x e := R.inf _ iE.mem
  have hfr : (refs rows).length ≤ 1000 := by simpa [refs] using hfit
  have hp1 : slicePick (refs rows).toArray (some (k : Int)) (some ((k : Int) + 1)) none = [Value.ref e.x].toArray := by
    rw [show (k : Int) + 1 = ((k + 1 : Nat) : Int) by omega, pick_ab]
    congr 1
    apply List.ext_getElem?
    intro q
    rw [List.getElem?_take, List.getElem?_drop]
    cases q with
    | zero => simp [refs, he]
    | succ q => rw [if_neg (by omega)]; simp
  have hb1 : sliceBounds (some (k : Int)) (some ((k : Int) + 1)) none (refs rows).length = ((k : Int), ((k + 1 : Nat) : Int), 1) := by
    rw [show (k : Int) + 1 = ((k + 1 : Nat) : Int) by omega, sliceBounds_ab]
    have : (refs rows).length = rows.length := by simp [refs]
    rw [this, Nat.min_eq_left (by omega), Nat.min_eq_left (by omega)]
  have he1 : (refs rows).take k ++ [Value.ref e.x] ++ (refs rows).drop (k + 1) = refs rows := by
    have h1 : (refs rows)[k]? = some (.ref e.x) := by simp [refs, he]
    obtain ⟨hlt, h2⟩ := List.getElem?_eq_some_iff.mp h1
    rw [List.append_assoc, ← h2]
    simp
  refine wpAny_call ?_
  k_dflt ktr_enter
  k_steps
  all_goals
    unfold Halt
    rename Fr _ _ _ _ => F1
    rename News _ _ _ _ => N1
    rename InfAt (setL _ _ _) _ _ => I1
    have hGd : G ∉ dsOf rows := list_not_ds N hG fun i hi => (R.inf i hi).at_.2
    obtain ⟨X2, rows2, N2, R2, hid2, hce2, Bf2, hG2, K2⟩ := put_mid N1 (fun q hq => by simp [hq]) I1 (by first | assumption | (symm; assumption)) R he Bf hb hbd hG hGd
    clear N1 I1
    refine iter_nil (by rfl) (List.mem_cons_of_mem _ hG2) F1 N2 ?_
    intro u3 h3 tk3 F3 N3
    k_steps
  all_goals
    unfold Halt
    rename News _ _ _ _ => N4
    rename Fr _ _ _ _ => F4
    rename (_ ∧ _ ∧ AllLt _ X2) => l4
    have hrefs : refs rows2 = refs rows := ids_refs hid2
    have hds : dsOf rows2 = dsOf rows := ids_d hid2
    have hlen2 := ids_len hid2
    obtain ⟨nn2, hl2⟩ := R2.list
    rw [hrefs] at hl2
    refine set_slice_ref F4 N4 (by k_mem) (by k_mem) (allLt_mem l4.2.2 _ hl2) (by kmk_part) (by kmk_part) hb1 (by omega) hfr (by simp) he1 ?_
    intro h5 n5 F5 N5
    obtain ⟨Y, N6, R6, Bf6, K6⟩ := relist (rows2 := rows2) (news_sub N4 (fun q hq => by simp [hq])) (by rw [hrefs]; exact N5) (fun q hq => by simp [hq]) R2 hl2 (fun _ h => h) R2.nd Bf2
    clear N5 N4 F4
    have hfit2 : rows2.length ≤ 1000 := by omega
    have hk2 : k < rows2.length := by omega
    have hb2 : b ∉ dsOf rows2 := hds ▸ hb
    have hbd2 : bd ∉ dsOf rows2 := hds ▸ hbd
    k_steps
  all_goals
    unfold Halt
    rename News _ _ _ _ => N7
    rename Fr _ _ _ _ => F7
    rename RowAt _ _ _ => R7
    rename BufAt _ _ _ _ => Bf7
    rename Keeps (dsOf rows2) _ _ => K7
    rename ids _ = ids rows2 => hid7
    rename List.eraseIdx _ _ = List.eraseIdx _ _ => hce7
    rename DropR _ _ _ => hd7
    rename List Inf => rowsD
    rename List Cel => l2D
    have hlenD := ids_len hid7
    obtain ⟨nn7, hl7⟩ := R7.list
    have hb7 : sliceBounds (some (k : Int)) (some ((k : Int) + 1)) none (refs rowsD).length = ((k : Int), ((k + 1 : Nat) : Int), 1) := by
      rw [show (k : Int) + 1 = ((k + 1 : Nat) : Int) by omega, sliceBounds_ab]
      have : (refs rowsD).length = rowsD.length := by simp [refs]
      rw [this, Nat.min_eq_left (by omega), Nat.min_eq_left (by omega)]
    have he7 : (refs rowsD).take k ++ [] ++ (refs rowsD).drop (k + 1) = refs (rowsD.eraseIdx k) := by
      rw [List.append_nil, List.eraseIdx_eq_take_drop_succ]
      simp [refs]
    refine set_slice_ref F7 N7 (List.mem_cons_of_mem _ hl7) (by k_mem) (ne_of_fresh hl7 (by assumption)) (by kmk_part) (by kmk_part) hb7 (by omega) (by simp [refs]; omega) (by simp) he7 ?_
    intro h8 n8 F8 N8
    obtain ⟨Z, N9, R9, Bf9, K9⟩ := relist (rows2 := rowsD.eraseIdx k) (news_sub N7 (fun q hq => List.mem_cons_of_mem _ hq)) N8 (fun q hq => List.mem_cons_of_mem _ hq) R7 hl7 (fun i hi => List.mem_of_mem_eraseIdx hi) ((R7.nd.sublist ((List.eraseIdx_sublist rowsD k).map Inf.d))) Bf7
    clear N8 N7 F7
    k_steps
    refine hret _ Z _ _ (by assumption) (by assumption) ⟨rfl, rowsD.eraseIdx k, l2D, hce2 ▸ hd7, ?_, ?_, R9, Bf9, ?_⟩
    · rw [hce7]; exact map_eraseIdx _ _ _
    · rw [← hid2, ← hid7]; exact map_eraseIdx _ _ _
    · refine (K2.weaken fun d hd => List.mem_cons_of_mem _ hd).trans ((K6.weaken fun d hd => by simp at hd; simp [hd]).trans (((K7.sub fun q hq => by simp [hq]).weaken fun d hd => List.mem_cons_of_mem _ (hds ▸ hd)).trans (K9.weaken fun d hd => by simp at hd; simp [hd])))
end Mine
end
end
section
open Mine
theorem Mine.calm08 : True := by
  w_top off
  k_with_none
  k_with "getAttr ref" => ((k_here; (with_reducible show wpAny _ _ (getAttr _ (Str.ofString "cluster") _) _ _ _); k_dflt (refine' get_cluster ?zqk1 ?zqk2 ?zqk3 ?zqk4 ?zqk5 ?_; (case zqk1 => k_asm); (case zqk2 => k_asm); (case zqk3 => k_asm); (case zqk4 => apply ReadsOk.intro <;> k_is); (case zqk5 => k_asm); k_whole; intro tqZ9)))
  k_with "getAttr ref" => ((k_here; (with_reducible show wpAny _ _ (getAttr _ (Str.ofString "is_unsafe") _) _ _ _); k_dflt (refine' get_uns ?zqk1 ?zqk2 ?zqk3 ?zqk4 ?zqk5 ?_; (case zqk1 => k_asm); (case zqk2 => k_asm); (case zqk3 => k_asm); (case zqk4 => apply ReadsOk.intro <;> k_is); (case zqk5 => k_asm); k_whole)))
  k_with "getAttr ref" => ((k_here; (with_reducible show wpAny _ _ (getAttr _ (Str.ofString "glyph") _) _ _ _); k_dflt (refine' get_glyph ?zqk1 ?zqk2 ?zqk3 ?zqk4 ?zqk5 ?_; (case zqk1 => k_asm); (case zqk2 => k_asm); (case zqk3 => k_asm); (case zqk4 => apply ReadsOk.intro <;> k_is); (case zqk5 => k_asm); k_whole; intro tqZ9)))
  k_with "getAttr ref" => ((k_here; (with_reducible show wpAny _ _ (getAttr _ (Str.ofString "kind") _) _ _ _); k_dflt (refine' get_kind ?zqk1 ?zqk2 ?zqk3 ?zqk4 ?zqk5 ?_; (case zqk1 => k_asm); (case zqk2 => k_asm); (case zqk3 => k_asm); (case zqk4 => apply ReadsOk.intro <;> k_is); (case zqk5 => k_asm); k_whole; intro tqZ9)))
  k_with "getAttr ref" => ((k_here; (with_reducible show wpAny _ _ (getAttr _ (Str.ofString "lig_count") _) _ _ _); k_dflt (refine' get_lig ?zqk1 ?zqk2 ?zqk3 ?zqk4 ?zqk5 ?_; (case zqk1 => k_asm); (case zqk2 => k_asm); (case zqk3 => k_asm); (case zqk4 => apply ReadsOk.intro <;> k_is); (case zqk5 => k_asm); k_whole; intro tqZ9)))
  k_with "getAttr ref" => ((k_here; (with_reducible show wpAny _ _ (getAttr _ (Str.ofString "row") _) _ _ _); k_dflt (refine' get_row ?zqk1 ?zqk2 ?zqk3 ?zqB ?zqk4 ?zqk5 ?zqk6 ?zqk7 ?_; (case zqk1 => k_asm); (case zqk2 => k_asm); (case zqk3 => k_asm); (case zqB => k_asm); (case zqk4 => k_is); (case zqk5 => k_is); (case zqk6 => k_is); (case zqk7 => k_is); k_whole)))
  k_with "setAttr ref" => ((k_here; (with_reducible show wpAny _ _ (setAttr _ (Str.ofString "cluster") _) _ _ _); k_dflt (refine' set_clu ?zqk1 ?zqk2 ?zqk3 ?zqk4 ?zqk5 ?_; (case zqk1 => k_asm); (case zqk2 => k_asm); (case zqk3 => k_asm); (case zqk4 => apply StoresOk.intro <;> k_is); (case zqk5 => k_asm); k_whole; intro hqZ9 esqZ9 nqZ9 FqZ9 NqZ9 IqZ9)))
  k_with "setAttr ref" => ((k_here; (with_reducible show wpAny _ _ (setAttr _ (Str.ofString "is_unsafe") _) _ _ _); k_dflt (refine' set_uns ?zqk1 ?zqk2 ?zqk3 ?zqk4 ?zqk5 ?_; (case zqk1 => k_asm); (case zqk2 => k_asm); (case zqk3 => k_asm); (case zqk4 => apply StoresOk.intro <;> k_is); (case zqk5 => k_asm); k_whole; intro hqZ9 esqZ9 nqZ9 FqZ9 NqZ9 IqZ9)))
  k_with "subscriptTail" => ((k_here; (with_reducible show wpAny _ _ (subscriptTail _ _ (Value.ref _) (Value.int _ _)) _ _ _); k_dflt (refine' item_row ?zqN ?zqR ?zqz ?zqf ?_; (case zqN => k_asm); (case zqR => k_asm); (case zqz => k_asm); (case zqf => assumption); k_whole)))
  k_with "exec While" => ((k_here; refine Halt.go ?_))
  k_with "last exec While" => ((k_here; refine Halt.go ?_))
  k_with "call builtin:len" => ((k_here; (with_reducible show wpAny _ _ (call (Value.builtin _) [Value.ref _]) _ _ _); k_dflt (refine' len_row ?zqN ?zqR ?zqf ?_; (case zqN => k_asm); (case zqR => k_asm); (case zqf => assumption); k_whole; intro tqZ9)))
  k_with "subscriptTail" => ((k_here; (with_reducible show wpAny _ _ (subscriptTail _ (PySem.Expr.Slice _ _ none _) (Value.ref _) (Value.ref _)) _ _ _); k_dflt (refine' slice_led ?zqF ?zqN ?zql ?zqp ?zqq ?zqe ?zqz ?_ ?zqs ?zqt; (case zqF => k_asm); (case zqN => k_asm); (case zql => first | assumption | k_mem); (case zqp => kmk_part); (case zqq => kmk_part); (case zqe => first | assumption | (rename (∀ _ : Nat, slicePick _ _ _ _ = _) => hpAZ9; exact hpAZ9 _)); (case zqz => assumption); (case zqs => with_unfolding_all rfl); (case zqt => kmk_pure); k_whole); intro DqZ9 hqZ9 FqZ9 NqZ9 l1Z9))
  k_with "subscriptTail Name Slice ref ref" => (walk_at "subscriptTail")
  k_with "CompEnd" => ((k_here; refine LCg.CompEnd.intro (by k_asm) (by k_asm) _ (fun _ hp => hp) (by first | assumption | (simp only [LCg.Off3, and_true]; assumption)) (by lcg_src) ?_))
  k_with "call ref" => ((k_here; k_dflt (refine' does_use (set_cluster_does ?zqI) ?zqB ?zqF ?zqX ?zqN ?zqT ?zqk ?zqd ?zqu ?_; (case zqB => k_asm); (case zqF => k_asm); (case zqX => k_asm); (case zqN => k_asm); (case zqT => k_asm); (case zqk => first | exact rfl | assumption); (case zqI => k_asm); (case zqd => ktr_room); (case zqu => ktr_units); k_whole; intro rqZ9 ledqZ9 hqZ9 tkqZ9 FqZ9 NqZ9 hRqZ9; obtain ⟨e1Z9, esqZ9, nqZ9, IqZ9, e2Z9⟩ := hRqZ9; subst e1Z9; subst e2Z9)))
  k_with "call ref" => ((k_here; (with_reducible show wpAny _ _ (call (Value.ref 152) _ _) _ _ _); k_dflt (refine' does_use (is_to_hide_does ?zqI) ?zqB ?zqF ?zqX ?zqN ?zqT ?zqk ?zqd ?zqu ?_; (case zqB => k_asm); (case zqF => k_asm); (case zqX => k_asm); (case zqN => k_asm); (case zqT => k_asm); (case zqk => first | exact rfl | assumption); (case zqI => k_asm); (case zqd => ktr_room); (case zqu => ktr_units); k_whole; intro rqZ9 ledqZ9 hqZ9 tkqZ9 FqZ9 NqZ9 hRqZ9; obtain ⟨e1Z9, e2Z9⟩ := hRqZ9; subst e1Z9; subst e2Z9)))
  k_with "call ref" => ((k_here; (with_reducible show wpAny _ _ (call (Value.ref 145) _ _) _ _ _); k_dflt (refine' does_use (put_does ?zqI ?zqR ?zqf ?zqhe ?zqhG ?zqhb ?zqhbd) ?zqB ?zqF ?zqX ?zqN ?zqT ?zqk ?zqd ?zqu ?_; (case zqB => k_asm); (case zqF => k_asm); (case zqX => k_asm); (case zqN => k_asm); (case zqT => k_asm); (case zqk => first | exact rfl | assumption); (case zqI => k_asm); (case zqR => k_asm); (case zqf => assumption); (case zqhe => assumption); (case zqhG => k_mem); (case zqhb => assumption); (case zqhbd => assumption); (case zqd => ktr_room); (case zqu => ktr_units); k_whole; intro rqZ9 ledqZ9 hqZ9 tkqZ9 FqZ9 NqZ9 hRqZ9; obtain ⟨e1Z9, rowsqZ9, l2qZ9, hdqZ9, hceqZ9, hidqZ9, RqZ9, BfqZ9, KqZ9⟩ := hRqZ9; subst e1Z9)))
  k_with "execs cons" => ((k_here; k_fold; (rename Fr _ _ _ _ => hFmZ9); revert hFmZ9; (show let mmZ9 : Str → Option Value := _; Fr _ _ _ mmZ9 → _); intro mmZ9 hFmZ9))
  trivial
section
open Mine
namespace Mine
variable {prog : Program} {w : World} {p : Program} {loose : List Str} {mean : ExcName → Option Value} {mg mb : Str → Option Value}
inductive HideR : List Cel → Nat → List Cel → Prop
  | done {l : List Cel} {k : Nat} : l.length ≤ k → HideR l k l
  | skip {l r : List Cel} {k : Nat} {e : Cel} : l[k]? = some e → e.h = false → HideR l (k + 1) r → HideR l k r
  | gone {l l2 r : List Cel} {k : Nat} {e : Cel} : l[k]? = some e → e.h = true → DropR l k l2 → HideR (l2.eraseIdx k) k r → HideR l k r
def atM (c : Nat × Tok × List Inf) (m : Str → Option Value) : Str → Option Value := fun y => if y = "at" then some (.int (c.1 : Int) c.2.1) else m y
theorem atM_next {m : Str → Option Value} {j : Nat} {c : Nat × Tok × List Inf} {z : Int} {t : Tok} {r : List Inf} (h : z = (j : Int)) : (fun y => if y = ("at" : Str) then some (Value.int z t) else atM c m y) = atM (j, t, r) m := by
  funext y; by_cases hy : y = "at" <;> simp [atM, hy, h]
theorem atM_start {m : Str → Option Value} {t : Tok} {r : List Inf} : (fun y => if y = ("at" : Str) then some (Value.int 0 t) else m y) = atM (0, t, r) (fun y => if y = ("at" : Str) then some (Value.int 0 t) else m y) := by
  funext y; by_cases hy : y = "at" <;> simp [atM, hy]
theorem atM_same {m : Str → Option Value} {c : Nat × Tok × List Inf} {r : List Inf} : atM c m = atM (c.1, c.2.1, r) m := rfl
set_option maxRecDepth 100000 in
set_option maxHeartbeats 8000000 in
theorem hide_does {rows : List Inf} {b bd l : Addr} {led : List (Addr × Obj)} {t0 : Tok} (Bf : BufAt led b bd l) (R : RowAt led l rows) (hfit : rows.length ≤ 1000) (hb : b ∉ dsOf rows) (hbd : bd ∉ dsOf rows) :
    Does prog w p loose mean mg mb 166 [.ref b, .int 0 t0] 15 led (fun r led' => r = .none ∧ ∃ rows', HideR (cels rows) 0 (cels rows') ∧ RowAt led' l rows' ∧ BufAt led' b bd l ∧ Keeps (l :: dsOf rows) led led') := by
  unfold Does
  intro dp un gd cn cs a₁ ccd cl outer A₀ base h₀ L m s Q E B F X N T hcs hdp hun hret
  refine wpAny_call ?_
  k_dflt ktr_enter
  k_steps
  unfold Halt
  rename Fr _ _ _ _ => F1
  rename News _ _ _ _ => N1
  refine while_st atM (fun c nx => RowAt nx l c.2.2 ∧ BufAt nx b bd l ∧ Keeps (l :: dsOf rows) led nx ∧ c.2.2.length ≤ 1000 ∧ (∀ d ∈ dsOf c.2.2, d ∈ dsOf rows) ∧ c.1 ≤ c.2.2.length ∧ (∀ r, HideR (cels c.2.2) c.1 r → HideR (cels rows) 0 r)) (fun c => 2 * c.2.2.length - c.1) (0, _, rows) F1 N1 atM_start ⟨R, Bf, Keeps.refl _ _, hfit, fun _ h => h, Nat.zero_le _, fun _ h => h⟩ ?_
  rintro ⟨k, tk0, rowsK⟩ nx h tkk ⟨RK, BK, KK, hfitK, hdsK, hkK, hH⟩ Fw Nw
  dsimp only at RK hfitK hdsK hkK hH
  have hbK : b ∉ dsOf rowsK := fun h => hb (hdsK _ h)
  have hbdK : bd ∉ dsOf rowsK := fun h => hbd (hdsK _ h)
  by_cases hlt : k < rowsK.length
  · obtain ⟨e, he⟩ : ∃ e, rowsK[k]? = some e := ⟨_, List.getElem?_eq_getElem hlt⟩
    have iE : ItemAt rowsK (k : Int) e := ⟨k, rfl, he⟩
    have hE : InfAt nx e.x e := RK.inf _ iE.mem
    have hcE : (cels rowsK)[k]? = some e.cel := by simp [he]
    k_steps
    · have hh : e.hid = true := by assumption
      rename RowAt _ _ _ => R2
      rename BufAt _ _ _ _ => B2
      rename Keeps _ (_ :: _) _ => K2
      rename DropR _ _ _ => D2
      rename ids _ = List.eraseIdx _ _ => hid2
      rename cels _ = List.eraseIdx _ _ => hce2
      rename List Inf => rows2
      have hlen2 : rows2.length = rowsK.length - 1 := by
        have := congrArg List.length hid2
        rw [List.length_eraseIdx_of_lt (by simpa using hlt)] at this
        simpa using this
      have hsub : ∀ d ∈ dsOf rows2, d ∈ dsOf rowsK := fun d hd => by
        have h1 : dsOf rows2 = (dsOf rowsK).eraseIdx k := by
          have := congrArg (List.map fun k => k.2) hid2
          rw [map_eraseIdx] at this
          simpa [ids, List.map_map, Function.comp_def, Inf.id] using this
        rw [h1] at hd
        exact List.mem_of_mem_eraseIdx hd
      refine wpost_next (by assumption) (by assumption) (k, tk0, rows2) (by rfl) ⟨R2, B2, KK.trans ((K2.sub fun q hq => List.mem_cons_of_mem _ hq).weaken fun d hd => ?_), ?_, fun d hd => hdsK d (hsub d hd), ?_, fun r hr => hH r (.gone hcE hh D2 (hce2 ▸ hr))⟩ ?_
      · rcases List.mem_cons.mp hd with rfl | hd
        · exact List.mem_cons_self
        · exact List.mem_cons_of_mem _ (hdsK _ hd)
      · dsimp only; omega
      · dsimp only; omega
      · dsimp only; omega
    · have hh : e.hid = false := by assumption
      refine wpost_next (by assumption) (by assumption) (k + 1, _, rowsK) (atM_next ?_) ⟨RK, BK, KK, hfitK, hdsK, ?_, fun r hr => hH r (.skip hcE hh hr)⟩ ?_
      · dsimp only; omega
      · dsimp only; omega
      · dsimp only; omega
  · k_steps
    exact hret _ _ _ _ (by assumption) (by assumption) ⟨rfl, rowsK, hH _ (.done (by simp; omega)), RK, BK, KK⟩
end Mine
end
end
section
open Mine
local macro_rules | `(tactic| k_all) => `(tactic| assumption)
local macro_rules | `(tactic| ktr_units) => `(tactic| omega)
local macro_rules | `(tactic| ktr_room) => `(tactic| omega)
theorem Mine.calm09 : True := by
  w_top off
  k_with_none
  k_with "getAttr ref" => ((k_here; (with_reducible show wpAny _ _ (getAttr _ (Str.ofString "cluster") _) _ _ _); k_dflt (refine' get_cluster ?zqk1 ?zqk2 ?zqk3 ?zqk4 ?zqk5 ?_; (case zqk1 => k_asm); (case zqk2 => k_asm); (case zqk3 => k_asm); (case zqk4 => apply ReadsOk.intro <;> k_is); (case zqk5 => k_asm); k_whole; intro tqZ9)))
  k_with "getAttr ref" => ((k_here; (with_reducible show wpAny _ _ (getAttr _ (Str.ofString "is_unsafe") _) _ _ _); k_dflt (refine' get_uns ?zqk1 ?zqk2 ?zqk3 ?zqk4 ?zqk5 ?_; (case zqk1 => k_asm); (case zqk2 => k_asm); (case zqk3 => k_asm); (case zqk4 => apply ReadsOk.intro <;> k_is); (case zqk5 => k_asm); k_whole)))
  k_with "getAttr ref" => ((k_here; (with_reducible show wpAny _ _ (getAttr _ (Str.ofString "glyph") _) _ _ _); k_dflt (refine' get_glyph ?zqk1 ?zqk2 ?zqk3 ?zqk4 ?zqk5 ?_; (case zqk1 => k_asm); (case zqk2 => k_asm); (case zqk3 => k_asm); (case zqk4 => apply ReadsOk.intro <;> k_is); (case zqk5 => k_asm); k_whole; intro tqZ9)))
  k_with "getAttr ref" => ((k_here; (with_reducible show wpAny _ _ (getAttr _ (Str.ofString "kind") _) _ _ _); k_dflt (refine' get_kind ?zqk1 ?zqk2 ?zqk3 ?zqk4 ?zqk5 ?_; (case zqk1 => k_asm); (case zqk2 => k_asm); (case zqk3 => k_asm); (case zqk4 => apply ReadsOk.intro <;> k_is); (case zqk5 => k_asm); k_whole; intro tqZ9)))
  k_with "getAttr ref" => ((k_here; (with_reducible show wpAny _ _ (getAttr _ (Str.ofString "lig_count") _) _ _ _); k_dflt (refine' get_lig ?zqk1 ?zqk2 ?zqk3 ?zqk4 ?zqk5 ?_; (case zqk1 => k_asm); (case zqk2 => k_asm); (case zqk3 => k_asm); (case zqk4 => apply ReadsOk.intro <;> k_is); (case zqk5 => k_asm); k_whole; intro tqZ9)))
  k_with "getAttr ref" => ((k_here; (with_reducible show wpAny _ _ (getAttr _ (Str.ofString "row") _) _ _ _); k_dflt (refine' get_row ?zqk1 ?zqk2 ?zqk3 ?zqB ?zqk4 ?zqk5 ?zqk6 ?zqk7 ?_; (case zqk1 => k_asm); (case zqk2 => k_asm); (case zqk3 => k_asm); (case zqB => k_asm); (case zqk4 => k_is); (case zqk5 => k_is); (case zqk6 => k_is); (case zqk7 => k_is); k_whole)))
  k_with "setAttr ref" => ((k_here; (with_reducible show wpAny _ _ (setAttr _ (Str.ofString "cluster") _) _ _ _); k_dflt (refine' set_clu ?zqk1 ?zqk2 ?zqk3 ?zqk4 ?zqk5 ?_; (case zqk1 => k_asm); (case zqk2 => k_asm); (case zqk3 => k_asm); (case zqk4 => apply StoresOk.intro <;> k_is); (case zqk5 => k_asm); k_whole; intro hqZ9 esqZ9 nqZ9 FqZ9 NqZ9 IqZ9)))
  k_with "setAttr ref" => ((k_here; (with_reducible show wpAny _ _ (setAttr _ (Str.ofString "is_unsafe") _) _ _ _); k_dflt (refine' set_uns ?zqk1 ?zqk2 ?zqk3 ?zqk4 ?zqk5 ?_; (case zqk1 => k_asm); (case zqk2 => k_asm); (case zqk3 => k_asm); (case zqk4 => apply StoresOk.intro <;> k_is); (case zqk5 => k_asm); k_whole; intro hqZ9 esqZ9 nqZ9 FqZ9 NqZ9 IqZ9)))
  k_with "subscriptTail" => ((k_here; (with_reducible show wpAny _ _ (subscriptTail _ _ (Value.ref _) (Value.int _ _)) _ _ _); k_dflt (refine' item_row ?zqN ?zqR ?zqz ?zqf ?_; (case zqN => k_asm); (case zqR => k_asm); (case zqz => k_asm); (case zqf => assumption); k_whole)))
  k_with "exec While" => ((k_here; refine Halt.go ?_))
  k_with "last exec While" => ((k_here; refine Halt.go ?_))
  k_with "call builtin:len" => ((k_here; (with_reducible show wpAny _ _ (call (Value.builtin _) [Value.ref _]) _ _ _); k_dflt (refine' len_row ?zqN ?zqR ?zqf ?_; (case zqN => k_asm); (case zqR => k_asm); (case zqf => assumption); k_whole; intro tqZ9)))
  k_with "subscriptTail" => ((k_here; (with_reducible show wpAny _ _ (subscriptTail _ (PySem.Expr.Slice _ _ none _) (Value.ref _) (Value.ref _)) _ _ _); k_dflt (refine' slice_led ?zqF ?zqN ?zql ?zqp ?zqq ?zqe ?zqz ?_ ?zqs ?zqt; (case zqF => k_asm); (case zqN => k_asm); (case zql => first | assumption | k_mem); (case zqp => kmk_part); (case zqq => kmk_part); (case zqe => first | assumption | (rename (∀ _ : Nat, slicePick _ _ _ _ = _) => hpAZ9; exact hpAZ9 _)); (case zqz => assumption); (case zqs => with_unfolding_all rfl); (case zqt => kmk_pure); k_whole); intro DqZ9 hqZ9 FqZ9 NqZ9 l1Z9))
  k_with "subscriptTail Name Slice ref ref" => (walk_at "subscriptTail")
  k_with "CompEnd" => ((k_here; refine LCg.CompEnd.intro (by k_asm) (by k_asm) _ (fun _ hp => hp) (by first | assumption | (simp only [LCg.Off3, and_true]; assumption)) (by lcg_src) ?_))
  k_with "own enter" => ((refine' code_defC ?zqk1 ?zqk2 ?zqk3 ?zqk4 ?zqk5 ?zqkA ?zqkF ?zqkK ?zqk6 ?zqk7 ?zqk8 ?zqk9 ?zqkB ?zqkD ?_ ?zqc2 ?zqc3 ?zqc4; (case zqkA => exact rfl); (case zqkF => exact rfl); (case zqkK => first | exact rfl | assumption); (case zqk1 => k_asm); (case zqk2 => k_asm); (case zqk3 => k_asm); (case zqk4 => k_asm); (case zqk5 => k_asm); (case zqk6 => k_is); (case zqk7 => k_is); (case zqk8 => ktr_room); (case zqk9 => first | exact BindsTo.of_eq rfl | exact binds_K (by k_in) rfl (by k_is) rfl rfl rfl | fail "k_enter: no rule for these arguments"); (case zqkB => exact rfl); (case zqkD => decide +kernel); (case zqc2 => exact rfl); (case zqc3 => exact rfl); (case zqc4 => exact rfl); k_whole; intro g1 L1 h1 tk1w cells1 FG1 F1 N1 Y1 B1 X1 T1 lw1; k_cells Y1; (try simp only [List.cons_append, List.nil_append] at N1); (try dsimp only); (try k_lift B1); (try k_fold)))
  k_with "subscriptTail" => ((k_here; (with_reducible show wpAny _ _ (subscriptTail _ _ (Value.ref _) (Value.int _ _)) _ _ _); k_dflt (refine' item_nth ?zqkN ?zqkl ?zqkz ?zqkf ?_; (case zqkN => k_asm); (case zqkl => k_mem); (case zqkz => assumption); (case zqkf => first | assumption | (simp only [trefs, List.length_map, List.length_append, List.length_cons, List.length_nil]; omega)); k_whole)))
  k_with "subscriptTail" => ((k_here; (with_reducible show wpAny _ _ (subscriptTail _ (PySem.Expr.Slice _ _ none _) (Value.ref _) (Value.ref _)) _ _ _); k_dflt (refine' slice_led ?zqF ?zqN ?zql ?zqp ?zqq ?zqe ?zqz ?_ ?zqs ?zqt; (case zqF => k_asm); (case zqN => k_asm); (case zql => k_mem); (case zqp => kmk_part); (case zqq => kmk_part); (case zqe => first | assumption | exact pick_butT _ _ | exact pick_tailT _ _); (case zqz => first | assumption | (simp only [trefs, List.length_map, List.length_append, List.length_cons, List.length_nil]; omega)); (case zqs => with_unfolding_all rfl); (case zqt => kmk_pure); k_whole); intro DqZ9 hqZ9 FqZ9 NqZ9 l1Z9; (try k_lt l1Z9)))
  k_with "subscriptTail" => ((k_here; (with_reducible show wpAny _ _ (subscriptTail _ _ (Value.ref _) (Value.int 0 _)) _ _ _); k_dflt (refine' tup_item0 ?zqkN ?zqkl ?_; (case zqkN => k_asm); (case zqkl => k_mem); k_whole)))
  k_with "subscriptTail" => ((k_here; (with_reducible show wpAny _ _ (subscriptTail _ _ (Value.ref _) (Value.int 1 _)) _ _ _); k_dflt (refine' tup_item1 ?zqkN ?zqkl ?_; (case zqkN => k_asm); (case zqkl => k_mem); k_whole)))
  k_with "subscriptTail" => ((k_here; (with_reducible show wpAny _ _ (subscriptTail _ _ (Value.ref _) (Value.int 2 _)) _ _ _); k_dflt (refine' tup_item2 ?zqkN ?zqkl ?_; (case zqkN => k_asm); (case zqkl => k_mem); k_whole)))
  k_with "binaryOp Add ref ref" => ((k_here; k_dflt (refine' add_led ?zqkF ?zqkN ?zqka ?zqkb ?zqkz ?_; (case zqkF => k_asm); (case zqkN => k_asm); (case zqka => k_mem); (case zqkb => k_mem); (case zqkz => (simp only [trefs, List.length_map, List.length_append, List.length_cons, List.length_nil]; omega)); k_whole); intro DqZ9 hqZ9 FqZ9 NqZ9 l1Z9; (try k_lt l1Z9)))
  k_with "compareOp NotEq ref ref" => ((k_here; k_dflt (first
  | (refine' ne_nil ?zqka ?zqkb ?zqkc ?zqku ?_; (case zqka => k_asm); (case zqkb => k_mem); (case zqkc => k_mem); (case zqku => ktr_units); k_whole)
  | (refine' ne_len ?zqka ?zqkb ?zqkc ?zqkl ?zqku ?_; (case zqka => k_asm); (case zqkb => k_mem); (case zqkc => k_mem); (case zqkl => (simp [trefs]; done)); (case zqku => ktr_units); k_whole))))
  k_with "compareOp Eq ref ref" => ((k_here; k_dflt (first
  | (refine' eq_nil ?zqka ?zqkb ?zqkc ?zqku ?_; (case zqka => k_asm); (case zqkb => k_mem); (case zqkc => k_mem); (case zqku => ktr_units); k_whole)
  | (refine' eq_len ?zqka ?zqkb ?zqkc ?zqkl ?zqku ?_; (case zqka => k_asm); (case zqkb => k_mem); (case zqkc => k_mem); (case zqkl => (simp [trefs]; done)); (case zqku => ktr_units); k_whole))))
  k_with "exec Assign cons ListComp" => ((k_here; (with_reducible show wpAny _ _ (exec (Stmt.Assign _ (PySem.Expr.ListComp (PySem.Expr.IfExp _ _ _ _) _ _ _) _) _) _ _ _); k_dflt (refine LCg.Assign_ListComp_U (F₀ := by k_asm) (by rfl) (by with_unfolding_all rfl) (by with_unfolding_all rfl) (by decide) (by rfl) (by decide) (by rfl) (by rfl) (by rfl) ?_)))
  k_with "compareOp NotIn int ref" => ((k_here; k_dflt (refine' notin_led ?zqkN ?zqkm ?zqki ?_; (case zqkN => k_asm); (case zqkm => k_mem); (case zqki => assumption); k_whole)))
  k_with "execs cons" => ((k_here; (with_reducible rename Rest _ _ _ _ _ _ _ _ => hRest9Z9); k_dflt (refine Rest.stop hRest9Z9 ?_)))
  k_with "CompSrc" => ((k_here; refine Halt.go ?_))
  k_with "eval Name" => ((k_here; k_dflt (refine' nameX_L ?zqF ?zqv ?_ ?zqa ?zqb; (case zqF => k_asm); (case zqa => rfl); (case zqb => rfl); (case zqv => assumption); k_whole)))
  trivial
section
open Mine
namespace Mine
variable {prog : Program} {w : World} {p : Program} {loose : List Str} {mean : ExcName → Option Value} {mg mb : Str → Option Value}
set_option maxRecDepth 100000 in
set_option maxHeartbeats 8000000 in
theorem gone_does {P R : List Tup} {e : Tup} {l : Addr} {nn : Nat} {led : List (Addr × Obj)} {t0 : Tok} (hl : (l, listOf (trefs (P ++ e :: R)).toArray nn) ∈ led) (hin : TupsIn led (P ++ e :: R)) (hfit : P.length + R.length + 3 ≤ 500) :
    Does prog w p loose mean mg mb 178 [.ref l, .int ((P.length : Nat) : Int) t0] 9 led (fun r led' => (∀ q ∈ led, q ∈ led') ∧ GoneR r led' (goneP (tris P) e.k (tris R))) := by
  unfold Does
  intro dp un gd cn cs a₁ ccd cl outer A₀ base h₀ L m s Q E B F X N T hcs hdp hun hret
  generalize hans : goneP (tris P) e.k (tris R) = ans at hret
  rw [← goneS1_eq] at hans
  generalize hnb : (!(sides (tris P) (tris R)).any fun y => y == e.k.c) = nb at hans
  obtain ⟨sh, sg, sd, st, so⟩ := s
  dsimp only at F N hret
  have hE : (e.t, e.obj) ∈ led := hin e (by simp)
  have iE : NthIs (trefs (P ++ e :: R)) ((P.length : Nat) : Int) (.ref e.t) := .inl ⟨_, rfl, by simp [trefs]⟩
  have hpL : slicePick (trefs (P ++ e :: R)).toArray none (some ((P.length : Nat) : Int)) none = (trefs P).toArray := by
    rw [pick_b]; congr 1; simp [trefs, List.take_append, List.take_of_length_le]
  have hpR : slicePick (trefs (P ++ e :: R)).toArray (some (((P.length : Nat) : Int) + 1)) none none = (trefs R).toArray := by
    rw [show ((P.length : Nat) : Int) + 1 = ((P.length + 1 : Nat) : Int) by omega, pick_a]; congr 1; simp [trefs, List.drop_append]
  have hpX : slicePick (trefs P).toArray (some (-1 : Int)) none none = (trefs (P.drop (P.length - 1))).toArray := pick_lastL P
  have hpY : slicePick (trefs R).toArray none (some (1 : Int)) none = (trefs (R.take 1)).toArray := pick_headL R
  have hz1 : (P.drop (P.length - 1)).length ≤ 1 := by rw [List.length_drop]; omega
  have hz2 : (R.take 1).length ≤ 1 := by rw [List.length_take]; omega
  refine wpAny_call ?_
  k_dflt (walk_at "own enter")
  rename_i o3 o2 o1 d3 d2 d1
  show wpAny _ _ _ _ _ _
  k_fold
  show let ev : Env := _; let Ar : Around := Around.deeper _ ev; wpAny _ Ar (execs _ ev) _ _ _
  intro ev Ar
  have hAd : Ar.depth = dp + 1 := by simp only [Ar, depth_deeper]
  have hAu : Ar.units = un + 3 := by simp only [Ar, units_deeper]
  refine cut_at 6 (GState g1 L1 led e.k sg sd so fun a b => a ++ headM e.k.u e.k.c b = ans) ?suf4 (fun key4 => ?walk4)
  case suf4 =>
    unfold GState
    intro h tk mX W o1' tc lL lR nL nR LL RR F9 N9 hc1 hd1 hmL hmR hmU hL hR tL tR hsub hsz hfin
    clear F1 N1
    dsimp only [List.drop]
    have hfin2 : tris LL ++ headM e.k.u e.k.c (tris RR) = ans := hfin
    clear hfin
    subst hfin2
    rcases RR with _ | ⟨f, post⟩
    · k_steps
      all_goals (
        refine hret _ _ _ _ (by assumption) (by assumption) ⟨fun q hq => by have := hsub q hq; simp [this], goneR_of List.mem_cons_self ?_⟩
        exact Vals.app (Vals.tups fun T hT => by have := tL T hT; simp [this]) Vals.nil)
    · have hF : (f.t, f.obj) ∈ W := tR f (by simp)
      have iF : NthIs (trefs (f :: post)) 0 (.ref f.t) := .inl ⟨0, rfl, by simp [trefs]⟩
      simp only [List.length_cons] at hsz
      k_steps
      all_goals (
        refine hret _ _ _ _ (by assumption) (by assumption) ⟨fun q hq => by have := hsub q hq; simp [this], goneR_of List.mem_cons_self ?_⟩
        refine Vals.app (Vals.tups fun T hT => by have := tL T hT; simp [this]) ?_
        refine Vals.cons ?_ (Vals.tups fun T hT => by have := tR T (by simp [hT]); simp [this])
        first
          | exact one_old (by k_mem) (.inl (by assumption))
          | exact one_old (by k_mem) (.inr (by assumption))
          | exact one_new (by k_mem) (by assumption) (by assumption))
  case walk4 =>
  refine cut_at 5 (GState g1 L1 led e.k sg sd so fun a b => goneS3 e.k a b = ans) ?suf3 (fun key3 => ?walk3)
  case suf3 =>
    unfold GState
    intro h tk mX W o1' tc lL lR nL nR LL RR F9 N9 hc1 hd1 hmL hmR hmU hL hR tL tR hsub hsz hfin
    clear F1 N1
    dsimp only [List.drop]
    have hfin2 : goneS3 e.k (tris LL) (tris RR) = ans := hfin
    clear hfin
    rcases List.eq_nil_or_concat LL with rfl | ⟨P', a, rfl⟩
    · k_steps
      all_goals (
        unfold Halt
        rename Rest _ _ _ _ _ _ _ _ => key4
        refine GState.vals key4.get (by assumption) (by assumption) (by k_mem) hd1 (by first | assumption | rfl) (by first | assumption | rfl) (by first | assumption | rfl) (by k_mem) (by k_mem) Vals.nil (Vals.tups fun T hT => by have := tR T hT; simp [this]) (fun q hq => by have := hsub q hq; simp [this]) (by simpa [trefs] using hsz) hfin2)
    · simp only [List.concat_eq_append] at *
      have hA : (a.t, a.obj) ∈ W := tL a (by simp)
      have iA : NthIs (trefs (P' ++ [a])) (-1) (.ref a.t) := .inr ⟨rfl, by simp [trefs]⟩
      simp only [List.length_append, List.length_cons, List.length_nil] at hsz
      k_steps
      all_goals (
        unfold Halt
        rename Rest _ _ _ _ _ _ _ _ => key4
        refine GState.vals (kL := tris P' ++ [mkM e.k.u e.k.c a.k]) key4.get (by assumption) (by assumption) (by k_mem) hd1 (by first | assumption | rfl) (by first | assumption | rfl) (by first | assumption | rfl) (by k_mem) (by k_mem) ?_ (Vals.tups fun T hT => by have := tR T hT; simp [this]) (fun q hq => by have := hsub q hq; simp [this]) (by simp [trefs]; omega) (by
          rw [← hfin2]; simp [goneS3, lastM_snoc])
        (try simp only [trefs_app, trefs_cons, trefs_nil])
        refine Vals.app (Vals.tups fun T hT => by have := tL T (by simp [hT]); simp [this]) (Vals.cons ?_ Vals.nil)
        first
          | exact one_old (by k_mem) (.inl (by assumption))
          | exact one_old (by k_mem) (.inr (by assumption))
          | exact one_new (by k_mem) (by assumption) (by assumption))
  case walk3 =>
  refine cut_at 4 (GState1 g1 L1 led e.k nb sg sd so fun a b => goneS2 nb e.k a b = ans) ?suf2 (fun key2 => ?walk2)
  case suf2 =>
    unfold GState1
    intro h tk mX Y o1' o2' o3' v2 v3 tc lL lR lB nL nR nB vsB bs LL RR F9 N9 hd1 hd2 hd3 y1 y2 y3 hmL hmR hmU hmB hL hR hB hbs hnb9 tL tR hsub hsz hfin
    clear F1 N1
    dsimp only [List.drop]
    have hfin2 : goneS2 nb e.k (tris LL) (tris RR) = ans := hfin
    clear hfin
    rcases List.eq_nil_or_concat LL with rfl | ⟨P', a, rfl⟩
    · rcases RR with _ | ⟨f, post⟩
      · k_steps
        all_goals (
          unfold Halt
          rename Rest _ _ _ _ _ _ _ _ => key3
          refine GState.vals key3.get (by assumption) (by assumption) (by k_mem) hd1 (by first | assumption | rfl) (by first | assumption | rfl) (by first | assumption | rfl) (by k_mem) (by k_mem) Vals.nil Vals.nil (fun q hq => by have := hsub q hq; simp [this]) (by simp [trefs]) hfin2)
      · have hF : (f.t, f.obj) ∈ Y := tR f (by simp)
        have iF : NthIs (trefs (f :: post)) 0 (.ref f.t) := .inl ⟨0, rfl, by simp [trefs]⟩
        simp only [List.length_cons] at hsz
        k_steps
        all_goals try (
          unfold Halt
          rename Rest _ _ _ _ _ _ _ _ => key3
          have hn : nb = false := by
            rw [← hnb9]
            first
              | assumption
              | (have h9 : (bs.any fun y => y == e.k.c) = true := by assumption
                 rw [h9]; rfl)
          refine GState.vals key3.get (by assumption) (by assumption) (by k_mem) hd1 (by first | assumption | rfl) (by first | assumption | rfl) (by first | assumption | rfl) (by k_mem) (by k_mem) Vals.nil (Vals.tups fun T hT => by have := tR T hT; simp [this]) (fun q hq => by have := hsub q hq; simp [this]) (by simp [trefs] at hsz ⊢; omega) (by
            rw [← hfin2, hn]; rfl))
        unfold Halt
        have hlo : (if f.k.c < e.k.c then f.k.c else e.k.c) = min e.k.c f.k.c := by split <;> omega
        have hn : nb = true := by
          have h9 : (bs.any fun y => y == e.k.c) = false := by assumption
          rw [← hnb9, h9]; rfl
        refine LCg.CompSrc.ledger (by rfl) (by k_asm) (by k_asm) (by k_mem) (by simp only [sizeLine_eq, trefs, List.size_toArray, List.length_map, List.length_append, List.length_cons, List.length_nil]; omega) ?_
        intro g
        refine comp_map (lowIf f.k.c (if f.k.c < e.k.c then f.k.c else e.k.c)) (by k_mem) ?_ ?_
        · intro T hT I oI C oC D m₂ ys h tk E' news' hsub2 hC hx Fw Nw off ne
          simp only [List.forall_mem_cons] at hsub2
          repeat (obtain ⟨_, hsub2⟩ := hsub2)
          have hTm : (T.t, T.obj) ∈ news' := hsub2 _ (tR T hT)
          k_steps
          · have hc : T.k.c = f.k.c := by assumption
            have hu : T.k.u = true := by assumption
            exact tstep_new (by assumption) (by assumption) off (by assumption) (by unfold lowIf; rw [if_pos hc, hu, Bool.true_and]; rfl)
          · have hc : T.k.c = f.k.c := by assumption
            have hu : T.k.u = false := by assumption
            exact tstep_new (by assumption) (by assumption) off (by assumption) (by unfold lowIf; rw [if_pos hc, hu, Bool.false_and])
          · have hc : T.k.c ≠ f.k.c := by assumption
            exact tstep_same (by assumption) (by assumption) off hTm (by unfold lowIf; rw [if_neg hc])
        · intro ts' news' ht hin' hsub2
          have hlen := tris_len ht
          simp only [List.length_map, List.length_cons] at hlen
          simp only [List.forall_mem_cons] at hsub2
          repeat (obtain ⟨_, hsub2⟩ := hsub2)
          have hL' := hsub2 _ hL
          k_steps
          all_goals (
            unfold Halt
            rename Rest _ _ _ _ _ _ _ _ => key3
            refine GState.vals key3.get (by assumption) (by assumption) (by k_mem) hd1 (by first | assumption | rfl) (by first | assumption | rfl) (by first | assumption | rfl) (by k_mem) (by k_mem) Vals.nil (Vals.tups fun T hT => by have := hin' T hT; simp [this]) (fun q hq => by have := hsub2 q (hsub q hq); simp [this]) (by simp [trefs]; omega) (by
              rw [← hfin2, hn, ht, hlo]; rfl))
    · simp only [List.concat_eq_append] at *
      simp only [List.length_append, List.length_cons, List.length_nil] at hsz
      k_steps
      all_goals (
        unfold Halt
        rename Rest _ _ _ _ _ _ _ _ => key3
        refine GState.vals key3.get (by assumption) (by assumption) (by k_mem) hd1 (by first | assumption | rfl) (by first | assumption | rfl) (by first | assumption | rfl) (by k_mem) (by k_mem) (Vals.tups fun T hT => by have := tL T hT; simp [this]) (Vals.tups fun T hT => by have := tR T hT; simp [this]) (fun q hq => by have := hsub q hq; simp [this]) (by simp [trefs]; omega) (by
          rw [← hfin2]; simp [goneS2_snoc]))
  case walk2 =>
  refine cut_at 3 (GState1 g1 L1 led e.k nb sg sd so fun a b => goneS1 nb e.k a b = ans) ?suf1 (fun key1 => ?walk1)
  case suf1 =>
    unfold GState1
    intro h tk mX Y o1' o2' o3' v2 v3 tc lL lR lB nL nR nB vsB bs LL RR F9 N9 hd1 hd2 hd3 y1 y2 y3 hmL hmR hmU hmB hL hR hB hbs hnb9 tL tR hsub hsz hfin
    clear F1 N1
    dsimp only [List.drop]
    have hfin2 : goneS1 nb e.k (tris LL) (tris RR) = ans := hfin
    clear hfin
    rcases List.eq_nil_or_concat LL with rfl | ⟨P', a, rfl⟩
    · k_steps
      all_goals (
        unfold Halt
        rename Rest _ _ _ _ _ _ _ _ => key2
        first
          | exact key2.get _ _ _ Y _ _ _ v2 v3 tc lL lR lB nL nR nB vsB bs [] RR (by assumption) (by assumption) hd1 hd2 hd3 y1 y2 y3 hmL hmR hmU hmB hL hR hB hbs hnb9 tL tR hsub hsz hfin2
          | exact key2.get _ _ _ (_ :: Y) _ _ _ v2 v3 tc lL lR lB nL nR nB vsB bs [] RR (by assumption) (news_rot (by assumption)) hd1 hd2 hd3 (ne_cons (by k_ne) y1) (ne_cons (by k_ne) y2) (ne_cons (by k_ne) y3) hmL hmR hmU hmB (List.mem_cons_of_mem _ hL) (List.mem_cons_of_mem _ hR) (List.mem_cons_of_mem _ hB) hbs hnb9 (tL.mono fun q hq => List.mem_cons_of_mem _ hq) (tR.mono fun q hq => List.mem_cons_of_mem _ hq) (fun q hq => List.mem_cons_of_mem _ (hsub q hq)) hsz hfin2)
    · simp only [List.concat_eq_append] at *
      have hA : (a.t, a.obj) ∈ Y := tL a (by simp)
      have iA : NthIs (trefs (P' ++ [a])) (-1) (.ref a.t) := .inr ⟨rfl, by simp [trefs]⟩
      have hfin3 : ¬ (nb = true ∧ e.k.c < a.k.c) → goneS2 nb e.k (tris (P' ++ [a])) (tris RR) = ans := fun hno => by
        rw [← hfin2]
        simp only [tris, List.map_append, List.map_cons, List.map_nil, goneS1_snoc, goneS2_snoc, if_neg hno]
      simp only [List.length_append, List.length_cons, List.length_nil] at hsz
      k_steps
      all_goals try (
        unfold Halt
        rename Rest _ _ _ _ _ _ _ _ => key2
        have hno : ¬ (nb = true ∧ e.k.c < a.k.c) := by
          first
            | (have h9 : ¬ (e.k.c < a.k.c) := by assumption
               exact fun h => h9 h.2)
            | (have h9 : (bs.any fun y => y == e.k.c) = true := by assumption
               rw [← hnb9, h9]; simp)
        first
          | exact key2.get _ _ _ Y _ _ _ v2 v3 tc lL lR lB nL nR nB vsB bs (P' ++ [a]) RR (by assumption) (by assumption) hd1 hd2 hd3 y1 y2 y3 hmL hmR hmU hmB hL hR hB hbs hnb9 tL tR hsub (by simp; omega) (hfin3 hno)
          | exact key2.get _ _ _ (_ :: Y) _ _ _ v2 v3 tc lL lR lB nL nR nB vsB bs (P' ++ [a]) RR (by assumption) (news_rot (by assumption)) hd1 hd2 hd3 (ne_cons (by k_ne) y1) (ne_cons (by k_ne) y2) (ne_cons (by k_ne) y3) hmL hmR hmU hmB (List.mem_cons_of_mem _ hL) (List.mem_cons_of_mem _ hR) (List.mem_cons_of_mem _ hB) hbs hnb9 (tL.mono fun q hq => List.mem_cons_of_mem _ hq) (tR.mono fun q hq => List.mem_cons_of_mem _ hq) (fun q hq => List.mem_cons_of_mem _ (hsub q hq)) (by simp; omega) (hfin3 hno))
      unfold Halt
      have hn : nb = true ∧ e.k.c < a.k.c := by
        have h9 : (bs.any fun y => y == e.k.c) = false := by assumption
        have h8 : e.k.c < a.k.c := by assumption
        exact ⟨by rw [← hnb9, h9]; rfl, h8⟩
      have hfin4 : goneS3 e.k ((tris (P' ++ [a])).map (setIf a.k.c e.k.c)) (tris RR) = ans := by
        rw [← hfin2]
        simp only [tris, List.map_append, List.map_cons, List.map_nil, goneS1_snoc, if_pos hn]
      refine LCg.CompSrc.ledger (by rfl) (by k_asm) (by k_asm) (by k_mem) (by simp only [sizeLine_eq, trefs, List.size_toArray, List.length_map, List.length_append, List.length_cons, List.length_nil]; omega) ?_
      intro g
      refine comp_map (setIf a.k.c e.k.c) (by k_mem) ?_ ?_
      · intro T hT I oI C oC D m₂ ys h tk E' news' hsub2 hC hx Fw Nw off ne
        simp only [List.forall_mem_cons] at hsub2
        repeat (obtain ⟨_, hsub2⟩ := hsub2)
        have hTm : (T.t, T.obj) ∈ news' := hsub2 _ (tL T hT)
        k_steps
        · have hc : T.k.c = a.k.c := by assumption
          exact tstep_new (by assumption) (by assumption) off (by assumption) (by unfold setIf; rw [if_pos hc])
        · have hc : T.k.c ≠ a.k.c := by assumption
          exact tstep_same (by assumption) (by assumption) off hTm (by unfold setIf; rw [if_neg hc])
      · intro ts' news' ht hin' hsub2
        obtain ⟨P2, a2, rfl, hP2, ha2⟩ := tris_snoc (l := (tris P').map (setIf a.k.c e.k.c)) (k := setIf a.k.c e.k.c a.k) (by rw [ht]; simp)
        have hlen := tris_len hP2
        simp only [List.length_map] at hlen
        simp only [List.forall_mem_cons] at hsub2
        repeat (obtain ⟨_, hsub2⟩ := hsub2)
        have hR' := hsub2 _ hR
        have hB' := hsub2 _ hB
        k_steps
        unfold Halt
        rename Rest _ _ _ _ _ _ _ _ => key2
        clear key2
        k_steps
        all_goals (
          unfold Halt
          rename Rest _ _ _ _ _ _ _ _ => key3
          refine GState.vals key3.get (by assumption) (by assumption) (by k_mem) hd1 (by first | assumption | rfl) (by first | assumption | rfl) (by first | assumption | rfl) (by k_mem) (by k_mem) (Vals.tups fun T hT => by have := hin' T hT; simp [this]) (Vals.tups fun T hT => by have := hsub2 _ (tR T hT); simp [this]) (fun q hq => by have := hsub2 q (hsub q hq); simp [this]) (by simp [trefs]; omega) (by
            rw [ht]; exact hfin4))
  case walk1 =>
    k_steps
    unfold Halt
    refine LCg.CompSrc.ledger (by rfl) (by k_asm) (by k_asm) (by k_mem) (by simp only [sizeLine_eq, trefs, List.size_toArray, List.length_map, List.length_append]; omega) ?_
    intro g
    refine comp_ints (ns := sides (tris P) (tris R)) (by k_mem) sides_len ?_ ?_
    · intro j v z hv hz I oI C oC D m₂ ys h tk E' hC hx Fw Nw off ne hS
      obtain ⟨T, hT, rfl, rfl⟩ := sides_at hv hz
      have hTm : (T.t, T.obj) ∈ led := hin T (by rcases hT with h | h <;> simp [h])
      k_steps
    · intro ys hys
      k_steps
      unfold Halt
      rename Rest _ _ _ _ _ _ _ _ => key1
      rename News _ _ _ _ => N8
      rename Fr _ _ _ _ => F8
      have hlow : ∀ (k : Addr), @LT.lt Nat _ L1 k → ∀ p ∈ led, p.1 ≠ k := fun k hk p hp => Nat.ne_of_lt (Nat.lt_trans (lw1 p hp) hk)
      refine' key1.get _ _ _ ((_, listOf (trefs P).toArray _) :: (_, listOf (trefs R).toArray _) :: (_, listOf ys.toArray _) :: led) _ o2 o3 _ _ _ _ _ _ _ _ _ ys (sides (tris P) (tris R)) P R F8 (news_sub N8 ?hN) ?hd1 d2 d3 ?y1 ?y2 ?y3 ?mL ?mR ?mU ?mB List.mem_cons_self (List.mem_cons_of_mem _ List.mem_cons_self) (List.mem_cons_of_mem _ (List.mem_cons_of_mem _ List.mem_cons_self)) hys hnb ?tL ?tR (fun q hq => by simp [hq]) hfit hans
      case mL => exact rfl
      case mR => exact rfl
      case mU => exact rfl
      case mB => exact rfl
      case hN => exact List.forall_mem_cons.mpr ⟨by k_mem, List.forall_mem_cons.mpr ⟨by k_mem, List.forall_mem_cons.mpr ⟨by k_mem, List.forall_mem_cons.mpr ⟨by k_mem, List.forall_mem_cons.mpr ⟨by k_mem, List.forall_mem_cons.mpr ⟨by k_mem, fun q hq => by simp [hq]⟩⟩⟩⟩⟩⟩
      case hd1 => assumption
      case y1 => exact ne_cons (by k_ne) (ne_cons (by k_ne) (ne_cons (by k_ne) (hlow _ (by omega))))
      case y2 => exact ne_cons (by k_ne) (ne_cons (by k_ne) (ne_cons (by k_ne) (hlow _ (by omega))))
      case y3 => exact ne_cons (by k_ne) (ne_cons (by k_ne) (ne_cons (by k_ne) (hlow _ (by omega))))
      case tL => exact fun T hT => by have := hin T (by simp [hT]); simp [this]
      case tR => exact fun T hT => by have := hin T (by simp [hT]); simp [this]
end Mine
end
end
section
open Mine
local macro_rules | `(tactic| k_all) => `(tactic| assumption)
theorem Mine.calm10 : True := by
  w_top off
  k_with_none
  k_with "getAttr ref" => ((k_here; (with_reducible show wpAny _ _ (getAttr _ (Str.ofString "cluster") _) _ _ _); k_dflt (refine' get_cluster ?zqk1 ?zqk2 ?zqk3 ?zqk4 ?zqk5 ?_; (case zqk1 => k_asm); (case zqk2 => k_asm); (case zqk3 => k_asm); (case zqk4 => apply ReadsOk.intro <;> k_is); (case zqk5 => k_asm); k_whole; intro tqZ9)))
  k_with "getAttr ref" => ((k_here; (with_reducible show wpAny _ _ (getAttr _ (Str.ofString "is_unsafe") _) _ _ _); k_dflt (refine' get_uns ?zqk1 ?zqk2 ?zqk3 ?zqk4 ?zqk5 ?_; (case zqk1 => k_asm); (case zqk2 => k_asm); (case zqk3 => k_asm); (case zqk4 => apply ReadsOk.intro <;> k_is); (case zqk5 => k_asm); k_whole)))
  k_with "getAttr ref" => ((k_here; (with_reducible show wpAny _ _ (getAttr _ (Str.ofString "glyph") _) _ _ _); k_dflt (refine' get_glyph ?zqk1 ?zqk2 ?zqk3 ?zqk4 ?zqk5 ?_; (case zqk1 => k_asm); (case zqk2 => k_asm); (case zqk3 => k_asm); (case zqk4 => apply ReadsOk.intro <;> k_is); (case zqk5 => k_asm); k_whole; intro tqZ9)))
  k_with "getAttr ref" => ((k_here; (with_reducible show wpAny _ _ (getAttr _ (Str.ofString "kind") _) _ _ _); k_dflt (refine' get_kind ?zqk1 ?zqk2 ?zqk3 ?zqk4 ?zqk5 ?_; (case zqk1 => k_asm); (case zqk2 => k_asm); (case zqk3 => k_asm); (case zqk4 => apply ReadsOk.intro <;> k_is); (case zqk5 => k_asm); k_whole; intro tqZ9)))
  k_with "getAttr ref" => ((k_here; (with_reducible show wpAny _ _ (getAttr _ (Str.ofString "lig_count") _) _ _ _); k_dflt (refine' get_lig ?zqk1 ?zqk2 ?zqk3 ?zqk4 ?zqk5 ?_; (case zqk1 => k_asm); (case zqk2 => k_asm); (case zqk3 => k_asm); (case zqk4 => apply ReadsOk.intro <;> k_is); (case zqk5 => k_asm); k_whole; intro tqZ9)))
  k_with "getAttr ref" => ((k_here; (with_reducible show wpAny _ _ (getAttr _ (Str.ofString "row") _) _ _ _); k_dflt (refine' get_row ?zqk1 ?zqk2 ?zqk3 ?zqB ?zqk4 ?zqk5 ?zqk6 ?zqk7 ?_; (case zqk1 => k_asm); (case zqk2 => k_asm); (case zqk3 => k_asm); (case zqB => k_asm); (case zqk4 => k_is); (case zqk5 => k_is); (case zqk6 => k_is); (case zqk7 => k_is); k_whole)))
  k_with "setAttr ref" => ((k_here; (with_reducible show wpAny _ _ (setAttr _ (Str.ofString "cluster") _) _ _ _); k_dflt (refine' set_clu ?zqk1 ?zqk2 ?zqk3 ?zqk4 ?zqk5 ?_; (case zqk1 => k_asm); (case zqk2 => k_asm); (case zqk3 => k_asm); (case zqk4 => apply StoresOk.intro <;> k_is); (case zqk5 => k_asm); k_whole; intro hqZ9 esqZ9 nqZ9 FqZ9 NqZ9 IqZ9)))
  k_with "setAttr ref" => ((k_here; (with_reducible show wpAny _ _ (setAttr _ (Str.ofString "is_unsafe") _) _ _ _); k_dflt (refine' set_uns ?zqk1 ?zqk2 ?zqk3 ?zqk4 ?zqk5 ?_; (case zqk1 => k_asm); (case zqk2 => k_asm); (case zqk3 => k_asm); (case zqk4 => apply StoresOk.intro <;> k_is); (case zqk5 => k_asm); k_whole; intro hqZ9 esqZ9 nqZ9 FqZ9 NqZ9 IqZ9)))
  k_with "subscriptTail" => ((k_here; (with_reducible show wpAny _ _ (subscriptTail _ _ (Value.ref _) (Value.int _ _)) _ _ _); k_dflt (refine' item_row ?zqN ?zqR ?zqz ?zqf ?_; (case zqN => k_asm); (case zqR => k_asm); (case zqz => k_asm); (case zqf => assumption); k_whole)))
  k_with "exec While" => ((k_here; refine Halt.go ?_))
  k_with "last exec While" => ((k_here; refine Halt.go ?_))
  k_with "call builtin:len" => ((k_here; (with_reducible show wpAny _ _ (call (Value.builtin _) [Value.ref _]) _ _ _); k_dflt (refine' len_row ?zqN ?zqR ?zqf ?_; (case zqN => k_asm); (case zqR => k_asm); (case zqf => assumption); k_whole; intro tqZ9)))
  k_with "subscriptTail" => ((k_here; (with_reducible show wpAny _ _ (subscriptTail _ (PySem.Expr.Slice _ _ none _) (Value.ref _) (Value.ref _)) _ _ _); k_dflt (refine' slice_led ?zqF ?zqN ?zql ?zqp ?zqq ?zqe ?zqz ?_ ?zqs ?zqt; (case zqF => k_asm); (case zqN => k_asm); (case zql => first | assumption | k_mem); (case zqp => kmk_part); (case zqq => kmk_part); (case zqe => first | assumption | (rename (∀ _ : Nat, slicePick _ _ _ _ = _) => hpAZ9; exact hpAZ9 _)); (case zqz => assumption); (case zqs => with_unfolding_all rfl); (case zqt => kmk_pure); k_whole); intro DqZ9 hqZ9 FqZ9 NqZ9 l1Z9))
  k_with "subscriptTail Name Slice ref ref" => (walk_at "subscriptTail")
  k_with "CompEnd" => ((k_here; refine LCg.CompEnd.intro (by k_asm) (by k_asm) _ (fun _ hp => hp) (by first | assumption | (simp only [LCg.Off3, and_true]; assumption)) (by lcg_src) ?_))
  k_with "subscriptTail" => ((k_here; (with_reducible show wpAny _ _ (subscriptTail _ _ (Value.ref _) (Value.int _ _)) _ _ _); k_dflt (refine' item_int ?zqkN ?zqkl ?zqki ?zqk0 ?zqk1 ?zqkf ?_; (case zqkN => k_asm); (case zqkl => k_mem); (case zqki => assumption); (case zqk0 => assumption); (case zqk1 => first | assumption | omega); (case zqkf => assumption); k_whole; intro nqZ9 tqqZ9)))
  k_with "call builtin:len" => ((k_here; (with_reducible show wpAny _ _ (call (Value.builtin _) [Value.ref _]) _ _ _); k_dflt (refine' len_led ?zqkN ?zqkl ?zqkf ?_; (case zqkN => k_asm); (case zqkl => k_mem); (case zqkf => first | assumption | omega); k_whole; intro tqZ9)))
  trivial
section
open Mine
namespace Mine
variable {prog : Program} {w : World} {p : Program} {loose : List Str} {mean : ExcName → Option Value} {mg mb : Str → Option Value}
theorem item_int {A : Around} {E : Value → Shared → Prop} {s : Shared} {L l : Addr} {h₀ : Heap} {news : List (Addr × Obj)} {value slice : PySem.Expr} {vs : List Value} {ns : List Int} {nn : Nat} {z : Int} {u : Tok} {Q : Value → Shared → Prop} (N : News h₀ L s.heap news) (hl : (l, listOf vs.toArray nn) ∈ news) (hi : IntsAre vs ns) (h0 : 0 ≤ z) (h1 : z < (ns.length : Int)) (hfit : ns.length ≤ 1000) (h : ∀ n t, Q (.int n t) s)
    (hs : subscripted slice false (.ref l) (.int z u) = operate [.ref l, .int z u] (getItem (.ref l) (.int z u)) := by with_unfolding_all rfl) :
    wpAny (model prog w) A (subscriptTail value slice (.ref l) (.int z u)) Q E s := by
  obtain ⟨k, rfl⟩ := Int.eq_ofNat_of_zero_le h0
  have hL : s.heap.IsList l vs.toArray := PySem.IsL.isList (n := nn) (N _ hl).1
  obtain ⟨t, hx⟩ := hi.get k (ns[k]'(by omega)) (by simp)
  exact tail_any hL.typeIs slot_list_getitem.lookup (wpAny_getItem_list hL (by omega) (by omega) (x := .int (ns[k]'(by omega)) t) (by simpa using hx) (h _ _)) hs
set_option maxRecDepth 100000 in
set_option maxHeartbeats 8000000 in
theorem draw_does {led : List (Addr × Obj)} {pn cl : Addr} {k S m : Int} {vs : List Value} {ns : List Int} {nn cn : Nat} {tk ts tm : Tok} (hp : (pn, listOf [.ref cl, .int k tk, .int S ts].toArray nn) ∈ led) (hc : (cl, listOf vs.toArray cn) ∈ led) (hi : IntsAre vs ns) (hne : cl ≠ pn) (hfit : ns.length ≤ 1000)
    (h0 : 0 ≤ k) (hk : k ≤ 1000) (hS : 0 ≤ S ∧ S ≤ 1000) (hm : 0 < m ∧ m ≤ 8) :
    Does prog w p loose mean mg mb 173 [.ref pn, .int m tm] 3 led (fun r led' => ∃ v tv nn' tk', r = .int v tv ∧ 0 ≤ v ∧ v < m ∧ led' = setL pn (listOf [.ref cl, .int (k + 1) tk', .int S ts].toArray nn') led) := by
  unfold Does
  intro dp un gd cn₁ cs a₁ ccd cl₁ outer A₀ base h₀ L m₁ s Q E B F X N T hcs hdp hun hret
  have N2 := news_setL N hp
  have hc2 : (cl, listOf vs.toArray cn) ∈ led.filter (fun q => q.1 != pn) := List.mem_filter.mpr ⟨hc, by simpa using hne⟩
  have hoff : ∀ q ∈ led.filter (fun q => q.1 != pn), q.1 ≠ pn := fun q hq => by simpa using (List.mem_filter.mp hq).2
  unfold setL at N2 hret
  clear N
  generalize led.filter (fun q => q.1 != pn) = rest at *
  have hlenV : vs.length = ns.length := hi.length
  refine wpAny_call ?_
  k_dflt ktr_enter
  k_steps
  all_goals exact hret _ _ _ _ (by assumption) (by assumption) ⟨_, _, _, _, rfl, Int.fmod_nonneg_of_pos _ hm.1, Int.fmod_lt_of_pos _ hm.1, rfl⟩
end Mine
end
end
section
open Mine
namespace Mine
theorem setL_toF {h₀ h : Heap} {L d : Addr} {o : Obj} {g : Obj → List (Addr × Obj)} {led : List (Addr × Obj)} (U : UpdF d o led g) (o' : Obj) (N : News h₀ L h (setL d o' led)) : News h₀ L h (g o') := by
  obtain ⟨pre, post, rfl, hg, h1, h2⟩ := U.split
  rw [hg]
  refine news_sub N fun q hq => ?_
  rcases List.mem_append.mp hq with h | h
  · exact mem_setL_ne (by simp [h]) (h1 q h)
  · rcases List.mem_cons.mp h with rfl | h
    · exact mem_setL_self
    · exact mem_setL_ne (by simp [h]) (h2 q h)
theorem updF_mem {d : Addr} {o : Obj} {g : Obj → List (Addr × Obj)} {led : List (Addr × Obj)} (U : UpdF d o led g) : (d, o) ∈ led := by
  obtain ⟨pre, post, rfl, -, -, -⟩ := U.split
  simp
section
variable {prog : Program} {w : World} {A : Around} {E : Value → Shared → Prop} {s : Shared} {K : Frag} {x d L : Addr} {h₀ : Heap} {m : Str → Option Value} {news : List (Addr × Obj)} {es : List DictEntry} {n : Nat} {g c lg lg' : Int} {u u' : Bool} {kd kd' : Str} {t : Tok} {f : Obj → List (Addr × Obj)} {Q : Unit → Shared → Prop}
theorem set_unsU (F : Fr h₀ L s.heap m) (X₀ : K.In h₀) (N : News h₀ L s.heap news) (r : StoresOk K "is_unsafe") (hx : (x, instObj 52 d) ∈ news) (U : UpdF d (dictOf es n) news f) (ok : Inf.Ok ⟨x, d, es, n, g, c, u, kd, lg⟩)
    (h : ∀ h' es' n', Fr h₀ L h' m → News h₀ L h' (f (dictOf es' n')) → Inf.Ok ⟨x, d, es', n', g, c, u', kd, lg⟩ → Q () { s with heap := h', toks := s.toks + 2 }) :
    wpAny (model prog w) A (setAttr (.ref x) "is_unsafe" (.bool u')) Q E s := by
  obtain ⟨a1, a2, a3, a4⟩ := r
  obtain ⟨hz, ⟨tg, gg⟩, ⟨tc, gc⟩, gu, ⟨tkd, gk⟩, ⟨tl, gl⟩⟩ := ok
  refine set_led F X₀ N hx (updF_mem U) a1 a2 a3 a4 gu hz fun h' es' n' F' N' z v o => h h' es' n' F' (setL_toF U _ N') ?_
  exact ⟨z, ⟨tg, o _ _ (by decide) gg⟩, ⟨tc, o _ _ (by decide) gc⟩, v, ⟨tkd, o _ _ (by decide) gk⟩, ⟨tl, o _ _ (by decide) gl⟩⟩
theorem set_kindU (F : Fr h₀ L s.heap m) (X₀ : K.In h₀) (N : News h₀ L s.heap news) (r : StoresOk K "kind") (hx : (x, instObj 52 d) ∈ news) (U : UpdF d (dictOf es n) news f) (ok : Inf.Ok ⟨x, d, es, n, g, c, u, kd, lg⟩)
    (h : ∀ h' es' n', Fr h₀ L h' m → News h₀ L h' (f (dictOf es' n')) → Inf.Ok ⟨x, d, es', n', g, c, u, kd', lg⟩ → Q () { s with heap := h', toks := s.toks + 2 }) :
    wpAny (model prog w) A (setAttr (.ref x) "kind" (.str kd' t)) Q E s := by
  obtain ⟨a1, a2, a3, a4⟩ := r
  obtain ⟨hz, ⟨tg, gg⟩, ⟨tc, gc⟩, gu, ⟨tkd, gk⟩, ⟨tl, gl⟩⟩ := ok
  refine set_led F X₀ N hx (updF_mem U) a1 a2 a3 a4 gk hz fun h' es' n' F' N' z v o => h h' es' n' F' (setL_toF U _ N') ?_
  exact ⟨z, ⟨tg, o _ _ (by decide) gg⟩, ⟨tc, o _ _ (by decide) gc⟩, o _ _ (by decide) gu, ⟨t, v⟩, ⟨tl, o _ _ (by decide) gl⟩⟩
theorem set_ligU (F : Fr h₀ L s.heap m) (X₀ : K.In h₀) (N : News h₀ L s.heap news) (r : StoresOk K "lig_count") (hx : (x, instObj 52 d) ∈ news) (U : UpdF d (dictOf es n) news f) (ok : Inf.Ok ⟨x, d, es, n, g, c, u, kd, lg⟩)
    (h : ∀ h' es' n', Fr h₀ L h' m → News h₀ L h' (f (dictOf es' n')) → Inf.Ok ⟨x, d, es', n', g, c, u, kd, lg'⟩ → Q () { s with heap := h', toks := s.toks + 2 }) :
    wpAny (model prog w) A (setAttr (.ref x) "lig_count" (.int lg' t)) Q E s := by
  obtain ⟨a1, a2, a3, a4⟩ := r
  obtain ⟨hz, ⟨tg, gg⟩, ⟨tc, gc⟩, gu, ⟨tkd, gk⟩, ⟨tl, gl⟩⟩ := ok
  refine set_led F X₀ N hx (updF_mem U) a1 a2 a3 a4 gl hz fun h' es' n' F' N' z v o => h h' es' n' F' (setL_toF U _ N') ?_
  exact ⟨z, ⟨tg, o _ _ (by decide) gg⟩, ⟨tc, o _ _ (by decide) gc⟩, o _ _ (by decide) gu, ⟨tkd, o _ _ (by decide) gk⟩, ⟨t, v⟩⟩
end
/-- a draw -/
theorem draw_use {prog : Program} {w : World} {p : Program} {loose : List Str} {mean : ExcName → Option Value} {mg mb : Str → Option Value} {led : List (Addr × Obj)} {f : Obj → List (Addr × Obj)} {pn cl : Addr} {k S m : Int} {vs : List Value} {ns : List Int} {nn cn : Nat} {tk ts tm : Tok}
    {dp un : Nat} {gd : Option (List Code)} {cn₁ : Str} {cs : Scope} {a : Addr} {ccd : Value} {cl₁ : List (Str × Addr)} {outer : List Env} {A₀ : Around} {base h₀ : Heap} {L : Addr} {m₁ : Str → Option Value} {s : Shared} {Q E : Value → Shared → Prop}
    (U : UpdF pn (listOf [.ref cl, .int k tk, .int S ts].toArray nn) led f) (hc : (cl, listOf vs.toArray cn) ∈ led) (hi : IntsAre vs ns) (hne : cl ≠ pn) (hfit : ns.length ≤ 1000) (h0 : 0 ≤ k) (hk : k ≤ 1000) (hS : 0 ≤ S ∧ S ≤ 1000) (hm : 0 < m ∧ m ≤ 8)
    (B : Below A₀ base outer h₀) (F : Fr h₀ L s.heap m₁) (X : (Mine.hd.heap_39 w.params).In h₀) (N : News h₀ L s.heap led) (T : Top p loose mean mg mb h₀) (hf : cs.kind = .function) (hd : dp + 3 < recursionLimit) (hu : un + 8 * 3 < cLine)
    (ret : ∀ v tv nn' tk' h' tk2, Fr h₀ L h' m₁ → News h₀ L h' (f (listOf [.ref cl, .int (k + 1) tk', .int S ts].toArray nn')) → 0 ≤ v → v < m → Q (.int v tv) { s with heap := h', toks := tk2 }) :
    wpAny (model prog w) (ktrTop dp un gd cn₁ cs L a ccd cl₁ outer) (call (.ref 173) [.ref pn, .int m tm]) Q E s :=
  does_use (draw_does (updF_mem U) hc hi hne hfit h0 hk hS hm) B F X N T hf hd hu fun r led' h' tk2 F' N' ⟨v, tv, nn', tk', e1, hv0, hv1, e2⟩ => by
    subst e1 e2
    exact ret v tv nn' tk' h' tk2 F' (setL_toF U _ N') hv0 hv1
end Mine
end
theorem Mine.calm11 : True := by
  w_top off
  k_with_none
  k_with "getAttr ref" => ((k_here; (with_reducible show wpAny _ _ (getAttr _ (Str.ofString "cluster") _) _ _ _); k_dflt (refine' get_cluster ?zqk1 ?zqk2 ?zqk3 ?zqk4 ?zqk5 ?_; (case zqk1 => k_asm); (case zqk2 => k_asm); (case zqk3 => k_asm); (case zqk4 => apply ReadsOk.intro <;> k_is); (case zqk5 => k_asm); k_whole; intro tqZ9)))
  k_with "getAttr ref" => ((k_here; (with_reducible show wpAny _ _ (getAttr _ (Str.ofString "is_unsafe") _) _ _ _); k_dflt (refine' get_uns ?zqk1 ?zqk2 ?zqk3 ?zqk4 ?zqk5 ?_; (case zqk1 => k_asm); (case zqk2 => k_asm); (case zqk3 => k_asm); (case zqk4 => apply ReadsOk.intro <;> k_is); (case zqk5 => k_asm); k_whole)))
  k_with "getAttr ref" => ((k_here; (with_reducible show wpAny _ _ (getAttr _ (Str.ofString "glyph") _) _ _ _); k_dflt (refine' get_glyph ?zqk1 ?zqk2 ?zqk3 ?zqk4 ?zqk5 ?_; (case zqk1 => k_asm); (case zqk2 => k_asm); (case zqk3 => k_asm); (case zqk4 => apply ReadsOk.intro <;> k_is); (case zqk5 => k_asm); k_whole; intro tqZ9)))
  k_with "getAttr ref" => ((k_here; (with_reducible show wpAny _ _ (getAttr _ (Str.ofString "kind") _) _ _ _); k_dflt (refine' get_kind ?zqk1 ?zqk2 ?zqk3 ?zqk4 ?zqk5 ?_; (case zqk1 => k_asm); (case zqk2 => k_asm); (case zqk3 => k_asm); (case zqk4 => apply ReadsOk.intro <;> k_is); (case zqk5 => k_asm); k_whole; intro tqZ9)))
  k_with "getAttr ref" => ((k_here; (with_reducible show wpAny _ _ (getAttr _ (Str.ofString "lig_count") _) _ _ _); k_dflt (refine' get_lig ?zqk1 ?zqk2 ?zqk3 ?zqk4 ?zqk5 ?_; (case zqk1 => k_asm); (case zqk2 => k_asm); (case zqk3 => k_asm); (case zqk4 => apply ReadsOk.intro <;> k_is); (case zqk5 => k_asm); k_whole; intro tqZ9)))
  k_with "getAttr ref" => ((k_here; (with_reducible show wpAny _ _ (getAttr _ (Str.ofString "row") _) _ _ _); k_dflt (refine' get_row ?zqk1 ?zqk2 ?zqk3 ?zqB ?zqk4 ?zqk5 ?zqk6 ?zqk7 ?_; (case zqk1 => k_asm); (case zqk2 => k_asm); (case zqk3 => k_asm); (case zqB => k_asm); (case zqk4 => k_is); (case zqk5 => k_is); (case zqk6 => k_is); (case zqk7 => k_is); k_whole)))
  k_with "setAttr ref" => ((k_here; (with_reducible show wpAny _ _ (setAttr _ (Str.ofString "cluster") _) _ _ _); k_dflt (refine' set_clu ?zqk1 ?zqk2 ?zqk3 ?zqk4 ?zqk5 ?_; (case zqk1 => k_asm); (case zqk2 => k_asm); (case zqk3 => k_asm); (case zqk4 => apply StoresOk.intro <;> k_is); (case zqk5 => k_asm); k_whole; intro hqZ9 esqZ9 nqZ9 FqZ9 NqZ9 IqZ9)))
  k_with "setAttr ref" => ((k_here; (with_reducible show wpAny _ _ (setAttr _ (Str.ofString "is_unsafe") _) _ _ _); k_dflt (refine' set_uns ?zqk1 ?zqk2 ?zqk3 ?zqk4 ?zqk5 ?_; (case zqk1 => k_asm); (case zqk2 => k_asm); (case zqk3 => k_asm); (case zqk4 => apply StoresOk.intro <;> k_is); (case zqk5 => k_asm); k_whole; intro hqZ9 esqZ9 nqZ9 FqZ9 NqZ9 IqZ9)))
  k_with "subscriptTail" => ((k_here; (with_reducible show wpAny _ _ (subscriptTail _ _ (Value.ref _) (Value.int _ _)) _ _ _); k_dflt (refine' item_row ?zqN ?zqR ?zqz ?zqf ?_; (case zqN => k_asm); (case zqR => k_asm); (case zqz => k_asm); (case zqf => assumption); k_whole)))
  k_with "exec While" => ((k_here; refine Halt.go ?_))
  k_with "last exec While" => ((k_here; refine Halt.go ?_))
  k_with "call builtin:len" => ((k_here; (with_reducible show wpAny _ _ (call (Value.builtin _) [Value.ref _]) _ _ _); k_dflt (refine' len_row ?zqN ?zqR ?zqf ?_; (case zqN => k_asm); (case zqR => k_asm); (case zqf => assumption); k_whole; intro tqZ9)))
  k_with "subscriptTail" => ((k_here; (with_reducible show wpAny _ _ (subscriptTail _ (PySem.Expr.Slice _ _ none _) (Value.ref _) (Value.ref _)) _ _ _); k_dflt (refine' slice_led ?zqF ?zqN ?zql ?zqp ?zqq ?zqe ?zqz ?_ ?zqs ?zqt; (case zqF => k_asm); (case zqN => k_asm); (case zql => first | assumption | k_mem); (case zqp => kmk_part); (case zqq => kmk_part); (case zqe => first | assumption | (rename (∀ _ : Nat, slicePick _ _ _ _ = _) => hpAZ9; exact hpAZ9 _)); (case zqz => assumption); (case zqs => with_unfolding_all rfl); (case zqt => kmk_pure); k_whole); intro DqZ9 hqZ9 FqZ9 NqZ9 l1Z9))
  k_with "subscriptTail Name Slice ref ref" => (walk_at "subscriptTail")
  k_with "CompEnd" => ((k_here; refine LCg.CompEnd.intro (by k_asm) (by k_asm) _ (fun _ hp => hp) (by first | assumption | (simp only [LCg.Off3, and_true]; assumption)) (by lcg_src) ?_))
  trivial
section
open Mine
namespace Mine
variable {prog : Program} {w : World} {p : Program} {loose : List Str} {mean : ExcName → Option Value} {mg mb : Str → Option Value}
/-- what Info(..) makes -/
def InfoR (g c : Int) (led : List (Addr × Obj)) (r : Value) (led' : List (Addr × Obj)) : Prop :=
  ∃ x d es n, r = .ref x ∧ led' = (x, instObj 52 d) :: (d, dictOf es n) :: led ∧ (∀ q ∈ led, q.1 < d) ∧ @LT.lt Nat _ d x ∧ Inf.Ok ⟨x, d, es, n, g, c, false, "", 0⟩
set_option maxRecDepth 100000 in
set_option maxHeartbeats 8000000 in
theorem info_does {a b c : Int} {ta tb tc : Tok} {led : List (Addr × Obj)} : Does prog w p loose mean mg mb 52 [.int a ta, .int b tb, .int c tc] 9 led (InfoR b c led) := by
  unfold Does
  intro dp un gd cn cs a₁ ccd cl outer A₀ base h₀ L m s Q E B F X N T hcs hdp hun hret
  obtain ⟨sh, sg, sd, st, so⟩ := s
  dsimp only at F N hret
  have X2 : (Mine.hd.heap_39 w.params).In sh := Frag.In.keeps X F.keep
  k_dflt (refine' call_cls ?k1 ?k2 ?k3 ?k4 ?k5 ?k6 ?_; (case k1 => k_asm); (case k2 => k_asm); (case k3 => k_asm); (case k4 => k_is); (case k5 => k_is); (case k6 => k_is); k_whole; intro x' d' h' F' N' l1 l2; (try k_lt2 l2))
  k_dflt ktr_enter
  k_steps
  exact hret _ _ _ _ (by assumption) (by assumption) ⟨_, _, _, _, rfl, rfl, l1, l2, ⟨Nat.le_of_ble_eq_true rfl, ⟨_, rfl⟩, ⟨_, rfl⟩, rfl, ⟨_, rfl⟩, ⟨_, rfl⟩⟩⟩
end Mine
end
section
open Mine
namespace Mine
variable {prog : Program} {w : World} {p : Program} {loose : List Str} {mean : ExcName → Option Value} {mg mb : Str → Option Value}
/-- the row with this glyph goes -/
def goneG (l : List Tri) (g : Int) : List Tri := match l[(l.map Tri.g).idxOf g]? with
  | some e => goneP (l.take ((l.map Tri.g).idxOf g)) e (l.drop ((l.map Tri.g).idxOf g + 1))
  | none => l
def goneAll : List Tri → List Int → List Tri
  | l, [] => l
  | l, g :: gs => goneAll (goneG l g) gs
theorem goneG_does {ts : List Tup} {g : Int} {l : Addr} {nn : Nat} {led : List (Addr × Obj)} {t0 : Tok} (hl : (l, listOf (trefs ts).toArray nn) ∈ led) (hin : TupsIn led ts) (hfit : ts.length ≤ 100) (hg : g ∈ (tris ts).map Tri.g) :
    Does prog w p loose mean mg mb 178 [.ref l, .int (((tris ts).map Tri.g).idxOf g : Nat) t0] 9 led (fun r led' => (∀ q ∈ led, q ∈ led') ∧ GoneR r led' (goneG (tris ts) g)) := by
  have hlt := List.idxOf_lt_length_of_mem hg
  generalize hk : ((tris ts).map Tri.g).idxOf g = k at *
  have hk2 : k < ts.length := by simpa using hlt
  have hs : ts = ts.take k ++ ts[k] :: ts.drop (k + 1) := by
    rw [List.getElem_cons_drop]; exact (List.take_append_drop k ts).symm
  have e1 : (tris ts)[k]? = some ts[k].k := by simp [hk2]
  have e2 : goneG (tris ts) g = goneP (tris (ts.take k)) ts[k].k (tris (ts.drop (k + 1))) := by
    unfold goneG
    rw [hk, e1]
    simp only [tris, List.map_take, List.map_drop]
  have e3 : (ts.take k).length = k := by rw [List.length_take]; omega
  rw [e2]
  have := gone_does (prog := prog) (w := w) (p := p) (loose := loose) (mean := mean) (mg := mg) (mb := mb) (P := ts.take k) (R := ts.drop (k + 1)) (e := ts[k]) (l := l) (nn := nn) (led := led) (t0 := t0) (by rw [← hs]; exact hl) (by rw [← hs]; exact hin) (by rw [e3, List.length_drop]; omega)
  rw [e3] at this
  exact this
theorem mkM_g {u : Bool} {c : Int} {x : Tri} : (mkM u c x).g = x.g := by unfold mkM; split <;> rfl
theorem setIf_g {a b : Int} {x : Tri} : (setIf a b x).g = x.g := by unfold setIf; split <;> rfl
theorem lowIf_g {a b : Int} {x : Tri} : (lowIf a b x).g = x.g := by unfold lowIf; split <;> rfl
theorem goneP_g {P R : List Tri} {e : Tri} : (goneP P e R).map Tri.g = P.map Tri.g ++ R.map Tri.g := by
  rcases List.eq_nil_or_concat P with rfl | ⟨pre, a, rfl⟩
  · cases R with
    | nil => rfl
    | cons f post =>
      show List.map Tri.g (if _ then _ else _) = _
      split <;> simp [mkM_g, lowIf_g, Function.comp_def]
  · simp only [List.concat_eq_append, goneP_snoc]
    cases R with
    | nil => dsimp only; split <;> simp [mkM_g, setIf_g, Function.comp_def]
    | cons f post => dsimp only; split <;> simp [mkM_g, setIf_g, Function.comp_def]
theorem goneG_g {l : List Tri} {g : Int} (hg : g ∈ l.map Tri.g) : (goneG l g).map Tri.g = (l.map Tri.g).erase g := by
  have hlt := List.idxOf_lt_length_of_mem hg
  rw [List.erase_eq_eraseIdx_of_idxOf (i := (l.map Tri.g).idxOf g) rfl]
  unfold goneG
  generalize (l.map Tri.g).idxOf g = k at *
  have hk2 : k < l.length := by simpa using hlt
  rw [List.getElem?_eq_getElem hk2]
  dsimp only
  rw [goneP_g, List.eraseIdx_eq_take_drop_succ]
  simp only [List.map_take, List.map_drop]
theorem goneG_next {l : List Tri} {g : Int} {gs : List Int} (h : (g :: gs).Sublist (l.map Tri.g)) : g ∈ l.map Tri.g ∧ gs.Sublist ((goneG l g).map Tri.g) := by
  have hm : g ∈ l.map Tri.g := h.subset List.mem_cons_self
  refine ⟨hm, ?_⟩
  rw [goneG_g hm]
  have := h.erase g
  simpa using this
end Mine
namespace Mine
theorem kf_ints_of : ∀ {vs : List Value} {ns : List Int}, IntsAre vs ns → kf_ints vs = true
  | [], _, _ => rfl
  | _ :: _, _, .cons n t h => by unfold kf_ints; exact kf_ints_of h
theorem kf_at_of {k : Int} : ∀ {vs : List Value} {ns : List Int}, IntsAre vs ns → k ∈ ns → kf_at k vs = some (ns.idxOf k)
  | [], _, .nil, h => by cases h
  | _ :: _, _, .cons (ns := ns) n t h, hm => by
    unfold kf_at
    rw [List.idxOf_cons]
    by_cases e : n = k
    · subst e
      simp [isInt]
    · have hb : (n == k) = false := by simpa using e
      have hb2 : isInt k (.int n t) = false := by simp [isInt]; first | exact e | exact fun x => e x.symm
      have hm2 : k ∈ ns := by
        rcases List.mem_cons.mp hm with h1 | h1
        · exact absurd h1.symm e
        · exact h1
      rw [hb2, hb, kf_at_of h hm2]; rfl
section
variable {prog : Program} {w : World} {A : Around} {E : Value → Shared → Prop} {s : Shared} {L D : Addr} {h₀ : Heap} {news : List (Addr × Obj)}
theorem index_led {vs : List Value} {ns : List Int} {n : Nat} {k : Int} {t : Tok} {Q : Value → Shared → Prop} (N : News h₀ L s.heap news) (hm : (D, listOf vs.toArray n) ∈ news) (hi : IntsAre vs ns) (hk : k ∈ ns) (hfit : ns.length ≤ 1000)
    (h : Q (.int (ns.idxOf k : Nat) s.toks) { s with toks := s.toks + 1 }) : wpAny (model prog w) A (call (.builtin "list.index") [.ref D, .int k t]) Q E s :=
  kf_index N hm (by simpa using kf_ints_of hi) (by simpa using kf_at_of hi hk) rfl (by have := hi.length; rw [sizeLine_eq]; simp; omega) h
end
end Mine
end
section
open Mine
namespace Mine
def glM (rv gv : Option Value) (m : Str → Option Value) : Str → Option Value := fun y => if y = "glyph" then gv else if y = "rows" then rv else m y
theorem glM_start {m : Str → Option Value} : m = glM (m "rows") (m "glyph") m := by
  funext y; unfold glM; split; next h => rw [h]
  split; next h => rw [h]
  rfl
theorem glM_next {m : Str → Option Value} {rv gv a b : Option Value} : (fun y => if y = ("rows" : Str) then a else if y = ("glyph" : Str) then b else glM rv gv m y) = glM a b m := by
  funext y; unfold glM
  by_cases h1 : y = "rows"
  · subst h1; rfl
  · by_cases h2 : y = "glyph"
    · subst h2; rfl
    · simp [h1, h2]
def GoneJ (m₀ : Str → Option Value) (base : List (Addr × Obj)) (gs : List Int) (res : List Tri) (i : Nat) (m : Str → Option Value) (nx : List (Addr × Obj)) : Prop :=
  ∃ (D' : Addr) (ts' : List Tup) (nn : Nat) (gv : Option Value), m = glM (some (.ref D')) gv m₀ ∧ (∀ q ∈ base, q ∈ nx) ∧ (D', listOf (trefs ts').toArray nn) ∈ nx ∧ TupsIn nx ts' ∧ ts'.length ≤ 100 ∧ goneAll (tris ts') (gs.drop i) = res ∧ (gs.drop i).Sublist ((tris ts').map Tri.g)
theorem goneJ_start {m₀ : Str → Option Value} {base : List (Addr × Obj)} {gs : List Int} {D' : Addr} {ts' : List Tup} {nn : Nat} (hm : m₀ "rows" = some (.ref D')) (hD : (D', listOf (trefs ts').toArray nn) ∈ base) (hin : TupsIn base ts') (hle : ts'.length ≤ 100) (hs : gs.Sublist ((tris ts').map Tri.g)) :
    GoneJ m₀ base gs (goneAll (tris ts') gs) 0 m₀ base :=
  ⟨D', ts', nn, m₀ "glyph", by rw [← hm]; exact glM_start, fun _ h => h, hD, hin, hle, by rw [List.drop_zero], by rw [List.drop_zero]; exact hs⟩
theorem ints_at : ∀ {vs : List Value} {ns : List Int} {i : Nat} {v : Value}, IntsAre vs ns → vs[i]? = some v → ∃ z t, v = .int z t ∧ ns.drop i = z :: ns.drop (i + 1)
  | [], _, _, _, _, h => by cases h
  | _ :: _, _, 0, _, .cons n t _, h => ⟨n, t, (Option.some.inj h).symm, rfl⟩
  | _ :: _, _, i + 1, _, .cons n t r, h => ints_at (i := i) r h
theorem goneG_len {l : List Tri} {g : Int} (hg : g ∈ l.map Tri.g) : (goneG l g).length ≤ l.length := by
  have := congrArg List.length (goneG_g hg)
  rw [List.length_map] at this
  have h2 := List.length_erase_le (a := g) (l := l.map Tri.g)
  rw [List.length_map] at h2
  omega
theorem gone_next {h₀ h' : Heap} {L l I D3 : Addr} {lo oI o3 : Obj} {m₀ : Str → Option Value} {base nx led' : List (Addr × Obj)} {gs : List Int} {res : List Tri} {i tk : Nat} {s₁ : Shared} {Q : Flow → Shared → Prop} {rv gv : Option Value} {r v : Value} {ts' : List Tup} {gl : Int}
    (F : Fr h₀ L h' (fun y => if y = ("rows" : Str) then some r else if y = ("glyph" : Str) then some v else glM rv gv m₀ y)) (N : News h₀ L h' led') (hG : (∀ q ∈ (D3, o3) :: (I, oI) :: nx, q ∈ led') ∧ GoneR r led' (goneG (tris ts') gl))
    (hc : oI.cls = .type "list_iterator") (hoff : ∀ q ∈ nx, q.1 ≠ I) (hl : (l, lo) ∈ nx) (hbase : ∀ q ∈ base, q ∈ nx) (hle : ts'.length ≤ 100) (hres : goneAll (tris ts') (gl :: gs.drop (i + 1)) = res) (hmem : gl ∈ (tris ts').map Tri.g) (hnext : (gs.drop (i + 1)).Sublist ((goneG (tris ts') gl).map Tri.g)) :
    GPost h₀ L l lo I oI (GoneJ m₀ base gs res (i + 1)) s₁ Q .next { s₁ with heap := h', toks := tk } := by
  obtain ⟨hsub, r2, ts2, nn2, rfl, hl2, hin2, ht2⟩ := hG
  rw [glM_next] at F
  have hI : (I, oI) ∈ led' := hsub _ (by simp)
  have hne : ∀ a o, (a, o) ∈ led' → o.cls ≠ .type "list_iterator" → a ≠ I := fun a o h n e => by
    have h1 := (N _ h).1
    have h2 := (N _ hI).1
    dsimp only at h1 h2
    rw [e, h2] at h1
    exact n (Option.some.inj h1 ▸ hc)
  have hsub2 : ∀ q ∈ nx, q ∈ led'.filter (fun q => q.1 != I) := fun q hq => List.mem_filter.mpr ⟨hsub q (by simp [hq]), by simpa using hoff q hq⟩
  refine gpost_next (nx := led'.filter (fun q => q.1 != I)) F (news_sub N fun q hq => ?_) (fun q hq => by simpa using (List.mem_filter.mp hq).2) (hsub2 _ hl) ⟨r2, ts2, nn2, some v, rfl, fun q hq => hsub2 q (hbase q hq), List.mem_filter.mpr ⟨hl2, by simpa using hne _ _ hl2 (by simp)⟩, fun T hT => List.mem_filter.mpr ⟨hin2 T hT, by simpa using hne _ _ (hin2 T hT) (by simp [Tup.obj])⟩, ?_, ?_, ?_⟩
  · rcases List.mem_cons.mp hq with rfl | hq
    · exact hI
    · exact (List.mem_filter.mp hq).1
  · have h1 := goneG_len hmem
    rw [← ht2] at h1
    simp only [tris, List.length_map] at h1
    omega
  · rw [ht2]; exact hres
  · rw [ht2]; exact hnext
theorem trefs_g {ts : List Tup} {j : Nat} {v : Value} {z : Int} (h : (trefs ts)[j]? = some v) (hz : ((tris ts).map Tri.g)[j]? = some z) : ∃ T, T ∈ ts ∧ v = .ref T.t ∧ z = T.k.g := by
  simp only [trefs, List.getElem?_map, Option.map_eq_some_iff] at h hz
  obtain ⟨T, hT, e⟩ := h
  rw [hT] at hz
  obtain ⟨k, ⟨T', e1, e2⟩, e3⟩ := hz
  cases e1
  exact ⟨T, List.mem_of_getElem? hT, e.symm, by rw [← e3, ← e2]⟩
theorem hg_sub : ∀ {rows : List Inf}, ((rows.map Inf.hg).filterMap id).Sublist (rows.map Inf.g)
  | [] => List.Sublist.slnil
  | a :: r => by
    rw [List.map_cons, List.map_cons, List.filterMap_cons]
    unfold Inf.hg
    by_cases h : a.hid = true
    · rw [if_pos h]; exact List.Sublist.cons_cons _ hg_sub
    · rw [if_neg h]; exact List.Sublist.cons _ hg_sub
theorem trefs_fit {ts : List Tup} (h : ts.length ≤ 100) : (trefs ts).toArray.size ≤ sizeLine := by rw [sizeLine_eq]; simp [trefs]; omega
end Mine
end
section
open Mine
namespace Mine
def Cel.tri (e : Cel) : Tri := ⟨e.g, e.c, e.u⟩
theorem cel_tri {i : Inf} : i.cel.tri = i.tri := rfl
theorem hideR_nil {rows rows' : List Inf} (h : HideR (cels rows) 0 (cels rows')) (e : rows = []) : rows' = [] := by
  subst e
  generalize hx : cels rows' = x at h
  cases h with
  | done => exact cels_nil hx
  | skip h1 => cases h1
  | gone h1 => cases h1
def mkC (u : Bool) (c : Int) (x : Cel) : Cel := if u = true ∧ x.c = c then { x with u := true } else x
def setC (old c : Int) (x : Cel) : Cel := if x.c = old then { x with c := c, u := false } else x
def lowC (old lo : Int) (x : Cel) : Cel := if x.c = old then { x with c := lo, u := x.u && decide (old = lo) } else x
theorem mkC_tri {u : Bool} {c : Int} {x : Cel} : (mkC u c x).tri = mkM u c x.tri := by
  unfold mkC mkM
  by_cases h : u = true ∧ x.c = c
  · rw [if_pos h, if_pos (show u = true ∧ x.tri.c = c from h)]; rfl
  · rw [if_neg h, if_neg (show ¬ (u = true ∧ x.tri.c = c) from h)]
theorem setC_tri {o c : Int} {x : Cel} : (setC o c x).tri = setIf o c x.tri := by
  unfold setC setIf
  by_cases h : x.c = o
  · rw [if_pos h, if_pos (show x.tri.c = o from h)]; rfl
  · rw [if_neg h, if_neg (show ¬ (x.tri.c = o) from h)]
theorem lowC_tri {o c : Int} {x : Cel} : (lowC o c x).tri = lowIf o c x.tri := by
  unfold lowC lowIf
  by_cases h : x.c = o
  · rw [if_pos h, if_pos (show x.tri.c = o from h)]; rfl
  · rw [if_neg h, if_neg (show ¬ (x.tri.c = o) from h)]
def Cel.gh (x : Cel) : Int × Bool := (x.g, x.h)
theorem mkC_gh {u : Bool} {c : Int} {x : Cel} : (mkC u c x).gh = x.gh := by unfold mkC; split <;> rfl
theorem setC_gh {o c : Int} {x : Cel} : (setC o c x).gh = x.gh := by unfold setC; split <;> rfl
theorem lowC_gh {o c : Int} {x : Cel} : (lowC o c x).gh = x.gh := by unfold lowC; split <;> rfl
theorem mkC_c {u : Bool} {c : Int} {x : Cel} : (mkC u c x).c = x.c := by unfold mkC; split <;> rfl
/-- the step, on cells -/
def gonePC (P : List Cel) (e : Cel) (R : List Cel) : List Cel :=
  match P.getLast?, R with
  | none, [] => []
  | none, f :: post => if ¬ (f.c = e.c) then mkC e.u e.c (lowC f.c (min e.c f.c) f) :: post.map (lowC f.c (min e.c f.c)) else mkC e.u e.c f :: post
  | some a, [] => if ¬ (a.c = e.c) ∧ e.c < a.c then P.dropLast.map (setC a.c e.c) ++ mkC e.u e.c (setC a.c e.c a) :: [] else P.dropLast ++ mkC e.u e.c a :: []
  | some a, f :: post => if ¬ (a.c = e.c ∨ f.c = e.c) ∧ e.c < a.c then P.dropLast.map (setC a.c e.c) ++ mkC e.u e.c (setC a.c e.c a) :: mkC e.u e.c f :: post else P.dropLast ++ mkC e.u e.c a :: mkC e.u e.c f :: post
theorem gonePC_snoc {P : List Cel} {a e : Cel} {R : List Cel} : gonePC (P ++ [a]) e R = match R with
  | [] => if ¬ (a.c = e.c) ∧ e.c < a.c then P.map (setC a.c e.c) ++ mkC e.u e.c (setC a.c e.c a) :: [] else P ++ mkC e.u e.c a :: []
  | f :: post => if ¬ (a.c = e.c ∨ f.c = e.c) ∧ e.c < a.c then P.map (setC a.c e.c) ++ mkC e.u e.c (setC a.c e.c a) :: mkC e.u e.c f :: post else P ++ mkC e.u e.c a :: mkC e.u e.c f :: post := by
  unfold gonePC
  have h1 : (P ++ [a]).getLast? = some a := by simp
  have h2 : (P ++ [a]).dropLast = P := by simp
  rw [h1, h2]
  cases R <;> rfl
theorem map_setC {P : List Cel} {o c : Int} : (P.map (setC o c)).map Cel.tri = (P.map Cel.tri).map (setIf o c) := by
  simp only [List.map_map]; exact List.map_congr_left fun x _ => setC_tri
theorem map_lowC {P : List Cel} {o c : Int} : (P.map (lowC o c)).map Cel.tri = (P.map Cel.tri).map (lowIf o c) := by
  simp only [List.map_map]; exact List.map_congr_left fun x _ => lowC_tri
theorem gonePC_tri {P R : List Cel} {e : Cel} : (gonePC P e R).map Cel.tri = goneP (P.map Cel.tri) e.tri (R.map Cel.tri) := by
  rcases List.eq_nil_or_concat P with rfl | ⟨pre, a, rfl⟩
  · cases R with
    | nil => rfl
    | cons f post =>
      show List.map Cel.tri (if ¬ (f.c = e.c) then _ else _) = if ¬ (f.c = e.c) then _ else _
      split
      · rw [List.map_cons, mkC_tri, lowC_tri, map_lowC]; rfl
      · rw [List.map_cons, mkC_tri]; rfl
  · rw [List.concat_eq_append, List.map_append, List.map_singleton, gonePC_snoc, goneP_snoc]
    cases R with
    | nil =>
      show List.map Cel.tri (if ¬ (a.c = e.c) ∧ e.c < a.c then _ else _) = if ¬ (a.c = e.c) ∧ e.c < a.c then _ else _
      split
      · rw [List.map_append, map_setC, List.map_cons, mkC_tri, setC_tri]; rfl
      · rw [List.map_append, List.map_cons, mkC_tri]; rfl
    | cons f post =>
      show List.map Cel.tri (if ¬ (a.c = e.c ∨ f.c = e.c) ∧ e.c < a.c then _ else _) = if ¬ (a.c = e.c ∨ f.c = e.c) ∧ e.c < a.c then _ else _
      split
      · rw [List.map_append, map_setC, List.map_cons, List.map_cons, mkC_tri, mkC_tri, setC_tri]; rfl
      · rw [List.map_append, List.map_cons, List.map_cons, mkC_tri, mkC_tri]; rfl
theorem map_setC_gh {P : List Cel} {o c : Int} : (P.map (setC o c)).map Cel.gh = P.map Cel.gh := by
  simp only [List.map_map]; exact List.map_congr_left fun x _ => setC_gh
theorem map_lowC_gh {P : List Cel} {o c : Int} : (P.map (lowC o c)).map Cel.gh = P.map Cel.gh := by
  simp only [List.map_map]; exact List.map_congr_left fun x _ => lowC_gh
theorem gonePC_gh {P R : List Cel} {e : Cel} : (gonePC P e R).map Cel.gh = P.map Cel.gh ++ R.map Cel.gh := by
  rcases List.eq_nil_or_concat P with rfl | ⟨pre, a, rfl⟩
  · cases R with
    | nil => rfl
    | cons f post =>
      show List.map Cel.gh (if ¬ (f.c = e.c) then _ else _) = _
      split
      · rw [List.map_cons, mkC_gh, lowC_gh, map_lowC_gh]; rfl
      · rw [List.map_cons, mkC_gh]; rfl
  · rw [List.concat_eq_append, List.map_append, List.map_singleton, gonePC_snoc]
    cases R with
    | nil =>
      show List.map Cel.gh (if ¬ (a.c = e.c) ∧ e.c < a.c then _ else _) = _
      split
      · rw [List.map_append, map_setC_gh, List.map_cons, mkC_gh, setC_gh]; simp
      · rw [List.map_append, List.map_cons, mkC_gh]; simp
    | cons f post =>
      show List.map Cel.gh (if ¬ (a.c = e.c ∨ f.c = e.c) ∧ e.c < a.c then _ else _) = _
      split
      · rw [List.map_append, map_setC_gh, List.map_cons, List.map_cons, mkC_gh, mkC_gh, setC_gh]; simp
      · rw [List.map_append, List.map_cons, List.map_cons, mkC_gh, mkC_gh]; simp
abbrev Mono (st : Int) (l : List Cel) : Prop := l.Pairwise fun a b => Ord st a.c b.c
theorem mark_at {u : Bool} {c : Int} {X Y : List Cel} {x : Cel} : mark u c (X ++ x :: Y) X.length = X ++ mkC u c x :: Y := by
  unfold mark mkC
  have h : (X ++ x :: Y)[X.length]? = some x := by simp
  rw [h]
  dsimp only
  split
  · simp
  · rfl
theorem hb_map {st c b : Int} : ∀ (n : Nat) (P S : List Cel), P.length = n → Mono st P → (∀ x ∈ P, Ord st x.c b) → hb c b n (P ++ S) = P.map (setC b c) ++ S := by
  intro n
  induction n with
  | zero =>
    intro P S hn _ _
    have : P = [] := List.length_eq_zero_iff.mp hn
    subst this; rfl
  | succ n ih =>
    intro P S hn hM hO
    rcases List.eq_nil_or_concat P with rfl | ⟨P', x, rfl⟩
    · simp at hn
    · simp only [List.concat_eq_append] at *
      have hn' : P'.length = n := by simpa using hn
      have hM' := List.pairwise_append.mp hM
      have hx : (P' ++ [x] ++ S)[n]? = some x := by rw [← hn']; simp
      unfold hb
      rw [hx]
      dsimp only
      by_cases hc : x.c = b
      · rw [if_pos hc]
        have e1 : (P' ++ [x] ++ S).set n { x with c := c, u := false } = P' ++ ({ x with c := c, u := false } :: S) := by rw [← hn']; simp
        rw [e1, ih P' _ hn' hM'.1 (fun y hy => hO y (by simp [hy]))]
        have e2 : setC b c x = { x with c := c, u := false } := by unfold setC; rw [if_pos hc]
        simp [e2]
      · rw [if_neg hc]
        have e2 : (P' ++ [x]).map (setC b c) = P' ++ [x] := by
          have : ∀ y ∈ P' ++ [x], setC b c y = y := fun y hy => by
            unfold setC
            rw [if_neg]
            rcases List.mem_append.mp hy with hy | hy
            · have h1 := hM'.2.2 y hy x (by simp)
              have h2 := hO x (by simp)
              unfold Ord at h1 h2
              split at h1
              · rw [if_pos (by assumption)] at h2; omega
              · rw [if_neg (by assumption)] at h2; omega
            · rw [List.mem_singleton.mp hy]; exact hc
          rw [List.map_congr_left this, List.map_id']
        rw [e2]
end Mine
namespace Mine
theorem erase_at {X Y : List Cel} {x : Cel} : (X ++ x :: Y).eraseIdx X.length = X ++ Y := by
  rw [List.eraseIdx_append_of_length_le (Nat.le_refl _)]; simp
theorem mapFirst_run {st : Int} {g : Cel → Cel} {e f : Cel} {rest : List Cel} {n : Nat} (hM : Mono st (f :: rest)) (hW : WidP (e :: f :: rest) (n + 2)) : mapFirst g n rest = rest.map fun x => if x.c = f.c then g x else x := by
  have run : ∀ q, q < n → ∃ x, rest[q]? = some x ∧ x.c = f.c := by
    intro q
    induction q with
    | zero =>
      intro hq
      obtain ⟨a, b, h1, h2, h3⟩ := hW.eqs 2 (by omega) (by omega)
      have e1 : rest[0]? = some a := by simpa using h1
      have e2 : f = b := by simpa using h2
      exact ⟨a, e1, by rw [h3, e2]⟩
    | succ q ih =>
      intro hq
      obtain ⟨x, hx, hxc⟩ := ih (by omega)
      obtain ⟨a, b, h1, h2, h3⟩ := hW.eqs (q + 3) (by omega) (by omega)
      have e1 : rest[q + 1]? = some a := by simpa using h1
      have e2 : rest[q]? = some b := by simpa using h2
      rw [hx] at e2
      exact ⟨a, e1, by rw [h3, ← Option.some.inj e2, hxc]⟩
  apply List.ext_getElem?
  intro k
  rw [mapFirst_get, List.getElem?_map]
  by_cases hk : k < n
  · obtain ⟨x, hx, hxc⟩ := run k hk
    rw [if_pos hk, hx]
    simp [hxc]
  · rw [if_neg hk]
    cases hy : rest[k]? with
    | none => rfl
    | some y =>
      have hlt := (List.getElem?_eq_some_iff.mp hy).1
      have hn : n < rest.length := by omega
      have ha : rest[n]? = some rest[n] := List.getElem?_eq_getElem hn
      have hab : ∃ b, (e :: f :: rest)[n + 1]? = some b ∧ b.c = f.c := by
        cases n with
        | zero => exact ⟨f, rfl, rfl⟩
        | succ n =>
          obtain ⟨x, hx, hxc⟩ := run n (by omega)
          exact ⟨x, by simpa using hx, hxc⟩
      obtain ⟨b, hb1, hb2⟩ := hab
      have hne := hW.stop rest[n] b (by simpa using ha) (by simpa using hb1)
      rw [hb2] at hne
      have hM' := List.pairwise_cons.mp hM
      have o1 := hM'.1 rest[n] (List.getElem_mem hn)
      have o2 : Ord st rest[n].c y.c := by
        have hyk : rest[k] = y := (List.getElem?_eq_some_iff.mp hy).2
        by_cases h : n = k
        · subst h; rw [hyk]; exact Ord.refl
        · have := List.pairwise_iff_getElem.mp hM'.2 n k hn hlt (by omega)
          rw [hyk] at this; exact this
      have hyc : y.c ≠ f.c := by
        unfold Ord at o1 o2
        split at o1
        · rw [if_pos (by assumption)] at o2; omega
        · rw [if_neg (by assumption)] at o2; omega
      simp [hyc]
theorem setTo_low {lo fc : Int} {x : Cel} (h : x.c = fc) : setTo lo x = lowC fc lo x := by
  unfold setTo lowC
  rw [if_pos h, h]
  by_cases e : fc = lo
  · simp [e]
  · simp [e]
theorem hbAt_map {st c b : Int} {Q S : List Cel} {a : Cel} {n : Nat} (hn : n = Q.length + 1) (hb : a.c = b) (hM : Mono st (Q ++ [a])) : hbAt c b n (Q ++ a :: S) = if c < b then Q.map (setC b c) ++ setC b c a :: S else Q ++ a :: S := by
  unfold hbAt
  split
  · have := hb_map (st := st) (c := c) (b := b) n (Q ++ [a]) S (by simp [hn]) hM (fun x hx => by
      rcases List.mem_append.mp hx with hx | hx
      · rw [← hb]; exact (List.pairwise_append.mp hM).2.2 x hx a (by simp)
      · rw [List.mem_singleton.mp hx, hb]; exact Ord.refl)
    simpa using this
  · rfl
theorem drop_step {st : Int} {P R : List Cel} {e : Cel} {l2 : List Cel} (hM : Mono st (P ++ e :: R)) (h : DropR (P ++ e :: R) P.length l2) : l2.eraseIdx P.length = gonePC P e R := by
  rcases h with ⟨j, a, e', f, l1, hk, ha, he, hf, hl1, rfl⟩ | ⟨j, a, e', l1, hk, ha, he, hlen, hl1, rfl⟩ | ⟨e', f, rest, l1, hk, hl, hl1, rfl⟩ | ⟨e', hk, hl, hl2⟩
  · rcases List.eq_nil_or_concat P with rfl | ⟨Q, a', rfl⟩
    · cases hk
    · simp only [List.concat_eq_append] at *
      have hj : j = Q.length := by simp at hk; omega
      subst hj
      have ea : a' = a := by simpa using ha
      have ee : e = e' := by simpa using he
      subst ea; subst ee
      cases R with
      | nil => simp at hf
      | cons f' post =>
        have ef : f' = f := by simpa using hf
        subst ef
        have hMQ : Mono st (Q ++ [a']) := (List.pairwise_append.mp hM).1
        have el : Q ++ [a'] ++ e :: f' :: post = Q ++ a' :: e :: f' :: post := by simp
        rw [el] at hl1
        have key : ∃ Q1 a1, l1 = Q1 ++ a1 :: e :: f' :: post ∧ Q1.length = Q.length ∧ Q1 ++ mkC e.u e.c a1 :: mkC e.u e.c f' :: post = gonePC (Q ++ [a']) e (f' :: post) := by
          rw [gonePC_snoc]
          by_cases hc : a'.c = e.c ∨ f'.c = e.c
          · rw [if_pos hc] at hl1
            refine ⟨Q, a', hl1, rfl, ?_⟩
            show _ = if ¬ (a'.c = e.c ∨ f'.c = e.c) ∧ e.c < a'.c then _ else _
            rw [if_neg (fun h => h.1 hc)]
          · rw [if_neg hc, hbAt_map rfl rfl hMQ] at hl1
            by_cases hlt : e.c < a'.c
            · rw [if_pos hlt] at hl1
              refine ⟨_, _, hl1, by simp, ?_⟩
              show _ = if ¬ (a'.c = e.c ∨ f'.c = e.c) ∧ e.c < a'.c then _ else _
              rw [if_pos ⟨hc, hlt⟩]
            · rw [if_neg hlt] at hl1
              refine ⟨Q, a', hl1, rfl, ?_⟩
              show _ = if ¬ (a'.c = e.c ∨ f'.c = e.c) ∧ e.c < a'.c then _ else _
              rw [if_neg (fun h => hlt h.2)]
        obtain ⟨Q1, a1, rfl, hQ, hfin⟩ := key
        rw [← hfin]
        show (mark e.u e.c (mark e.u e.c (Q1 ++ a1 :: e :: f' :: post) Q.length) (Q.length + 2)).eraseIdx _ = _
        rw [← hQ, mark_at]
        have e1 : Q1 ++ mkC e.u e.c a1 :: e :: f' :: post = (Q1 ++ [mkC e.u e.c a1, e]) ++ f' :: post := by simp
        have e2 : Q1.length + 2 = (Q1 ++ [mkC e.u e.c a1, e]).length := by simp
        rw [e1, e2, mark_at]
        have e3 : (Q1 ++ [mkC e.u e.c a1, e]) ++ mkC e.u e.c f' :: post = (Q1 ++ [mkC e.u e.c a1]) ++ e :: mkC e.u e.c f' :: post := by simp
        have e4 : (Q ++ [a']).length = (Q1 ++ [mkC e.u e.c a1]).length := by simp [hQ]
        rw [e3, e4, erase_at]; simp
  · rcases List.eq_nil_or_concat P with rfl | ⟨Q, a', rfl⟩
    · cases hk
    · simp only [List.concat_eq_append] at *
      have hj : j = Q.length := by simp at hk; omega
      subst hj
      have ea : a' = a := by simpa using ha
      have ee : e = e' := by simpa using he
      subst ea; subst ee
      cases R with
      | cons f' post => simp at hlen
      | nil =>
        have hMQ : Mono st (Q ++ [a']) := (List.pairwise_append.mp hM).1
        have el : Q ++ [a'] ++ [e] = Q ++ a' :: [e] := by simp
        rw [el] at hl1
        have key : ∃ Q1 a1, l1 = Q1 ++ a1 :: [e] ∧ Q1.length = Q.length ∧ Q1 ++ mkC e.u e.c a1 :: [] = gonePC (Q ++ [a']) e [] := by
          rw [gonePC_snoc]
          by_cases hc : a'.c = e.c
          · rw [if_pos hc] at hl1
            refine ⟨Q, a', hl1, rfl, ?_⟩
            show _ = if ¬ (a'.c = e.c) ∧ e.c < a'.c then _ else _
            rw [if_neg (fun h => h.1 hc)]
          · rw [if_neg hc, hbAt_map rfl rfl hMQ] at hl1
            by_cases hlt : e.c < a'.c
            · rw [if_pos hlt] at hl1
              refine ⟨_, _, hl1, by simp, ?_⟩
              show _ = if ¬ (a'.c = e.c) ∧ e.c < a'.c then _ else _
              rw [if_pos ⟨hc, hlt⟩]
            · rw [if_neg hlt] at hl1
              refine ⟨Q, a', hl1, rfl, ?_⟩
              show _ = if ¬ (a'.c = e.c) ∧ e.c < a'.c then _ else _
              rw [if_neg (fun h => hlt h.2)]
        obtain ⟨Q1, a1, rfl, hQ, hfin⟩ := key
        rw [← hfin]
        show (mark e.u e.c (Q1 ++ a1 :: [e]) Q.length).eraseIdx _ = _
        rw [← hQ, mark_at]
        have e3 : Q1 ++ mkC e.u e.c a1 :: [e] = (Q1 ++ [mkC e.u e.c a1]) ++ e :: [] := by simp
        have e4 : (Q ++ [a']).length = (Q1 ++ [mkC e.u e.c a1]).length := by simp [hQ]
        rw [e3, e4, erase_at]; simp
  · have hP : P = [] := List.length_eq_zero_iff.mp hk
    subst hP
    cases R with
    | nil => cases hl
    | cons f' post =>
      simp only [List.nil_append] at *
      simp only [List.cons.injEq] at hl
      obtain ⟨h1, h2, h3⟩ := hl
      subst h1; subst h2; subst h3
      show (mark e.u e.c l1 1).eraseIdx 0 = if ¬ (f'.c = e.c) then _ else _
      by_cases hc : f'.c = e.c
      · rw [if_pos hc] at hl1
        rw [if_neg (fun h => h hc), hl1]
        have := mark_at (u := e.u) (c := e.c) (X := [e]) (x := f') (Y := post)
        rw [show mark e.u e.c (e :: f' :: post) 1 = _ from this]; rfl
      · rw [if_neg hc] at hl1
        rw [if_pos hc]
        obtain ⟨B, hW, rfl⟩ := hl1
        obtain ⟨n, rfl⟩ : ∃ n, B = n + 2 := ⟨B - 2, by have := hW.two; omega⟩
        have hMf : Mono st (f' :: post) := (List.pairwise_cons.mp hM).2
        have e1 : mapFirst (setTo (min e.c f'.c)) (n + 2) (e :: f' :: post) = [setTo (min e.c f'.c) e] ++ setTo (min e.c f'.c) f' :: mapFirst (setTo (min e.c f'.c)) n post := rfl
        rw [e1]
        have := mark_at (u := e.u) (c := e.c) (X := [setTo (min e.c f'.c) e]) (x := setTo (min e.c f'.c) f') (Y := mapFirst (setTo (min e.c f'.c)) n post)
        rw [show mark e.u e.c ([setTo (min e.c f'.c) e] ++ setTo (min e.c f'.c) f' :: mapFirst (setTo (min e.c f'.c)) n post) 1 = _ from this]
        show mkC e.u e.c (setTo (min e.c f'.c) f') :: mapFirst (setTo (min e.c f'.c)) n post = _
        rw [mapFirst_run hMf hW, setTo_low rfl]
        congr 1
        refine List.map_congr_left fun x _ => ?_
        by_cases h : x.c = f'.c
        · rw [if_pos h, setTo_low h]
        · rw [if_neg h]; unfold lowC; rw [if_neg h]
  · have hP : P = [] := List.length_eq_zero_iff.mp hk
    subst hP
    cases R with
    | cons f' post => cases hl
    | nil => rw [hl2]; rfl
end Mine
namespace Mine
theorem mono_c {st : Int} {l l' : List Cel} (h : l.map Cel.c = l'.map Cel.c) (k : Mono st l) : Mono st l' := by
  have h1 : (l.map Cel.c).Pairwise (Ord st) := List.pairwise_map.mpr k
  rw [h] at h1
  exact List.pairwise_map.mp h1
theorem mono_mid {st : Int} {P R : List Cel} {e : Cel} (h : Mono st (P ++ e :: R)) : Mono st (P ++ R) :=
  h.sublist (List.Sublist.append_left (List.sublist_cons_self e R) P)
theorem mono_step {st : Int} {P R : List Cel} {e : Cel} (hM : Mono st (P ++ e :: R)) : Mono st (gonePC P e R) := by
  rcases List.eq_nil_or_concat P with rfl | ⟨Q, a, rfl⟩
  · cases R with
    | nil => exact List.Pairwise.nil
    | cons f post =>
      have h1 := List.pairwise_cons.mp hM
      have h2 := List.pairwise_cons.mp h1.2
      show Mono st (if ¬ (f.c = e.c) then _ else _)
      split
      · refine mono_c (l := (f :: post).map (lowC f.c (min e.c f.c))) (by simp [mkC_c]) ?_
        refine List.pairwise_map.mpr (List.Pairwise.imp_of_mem (fun {x y} hx hy hxy => ?_) h1.2)
        have hef := h1.1 f (by simp)
        have hfx : Ord st f.c x.c := by
          rcases List.mem_cons.mp hx with rfl | hx
          · exact Ord.refl
          · exact h2.1 x hx
        have hfy : Ord st f.c y.c := by
          rcases List.mem_cons.mp hy with rfl | hy
          · exact Ord.refl
          · exact h2.1 y hy
        have ex : (lowC f.c (min e.c f.c) x).c = if x.c = f.c then min e.c f.c else x.c := by unfold lowC; split <;> rfl
        have ey : (lowC f.c (min e.c f.c) y).c = if y.c = f.c then min e.c f.c else y.c := by unfold lowC; split <;> rfl
        rw [ex, ey]
        unfold Ord at *
        by_cases hs : 0 ≤ st
        · simp only [if_pos hs] at *
          split <;> split <;> omega
        · simp only [if_neg hs] at *
          split <;> split <;> omega
      · exact mono_c (l := f :: post) (by simp [mkC_c]) h1.2
  · simp only [List.concat_eq_append] at *
    have hPR := mono_mid hM
    have hA := List.pairwise_append.mp hM
    have hae : Ord st a.c e.c := hA.2.2 a (by simp) e (by simp)
    have hB := List.pairwise_append.mp hA.1
    have hC := List.pairwise_cons.mp hA.2.1
    have left : e.c < a.c → Mono st ((Q ++ [a]).map (setC a.c e.c) ++ R) := fun hlt => by
      refine List.pairwise_append.mpr ⟨List.pairwise_map.mpr (List.Pairwise.imp_of_mem (fun {x y} hx hy hxy => ?_) hA.1), hC.2, fun x' hx' y hy => ?_⟩
      · have hxa : Ord st x.c a.c := by
          rcases List.mem_append.mp hx with hx | hx
          · exact hB.2.2 x hx a (by simp)
          · rw [List.mem_singleton.mp hx]; exact Ord.refl
        have hya : Ord st y.c a.c := by
          rcases List.mem_append.mp hy with hy | hy
          · exact hB.2.2 y hy a (by simp)
          · rw [List.mem_singleton.mp hy]; exact Ord.refl
        have ex : (setC a.c e.c x).c = if x.c = a.c then e.c else x.c := by unfold setC; split <;> rfl
        have ey : (setC a.c e.c y).c = if y.c = a.c then e.c else y.c := by unfold setC; split <;> rfl
        rw [ex, ey]
        unfold Ord at *
        by_cases hs : 0 ≤ st
        · simp only [if_pos hs] at *
          split <;> split <;> omega
        · simp only [if_neg hs] at *
          split <;> split <;> omega
      · obtain ⟨x, hx, rfl⟩ := List.mem_map.mp hx'
        have hxe : Ord st x.c e.c := hA.2.2 x hx e (by simp)
        have hxy : Ord st x.c y.c := hA.2.2 x hx y (by simp [hy])
        have hey : Ord st e.c y.c := hC.1 y hy
        have ex : (setC a.c e.c x).c = if x.c = a.c then e.c else x.c := by unfold setC; split <;> rfl
        rw [ex]
        split
        · exact hey
        · exact hxy
    rw [gonePC_snoc]
    cases R with
    | nil =>
      show Mono st (if ¬ (a.c = e.c) ∧ e.c < a.c then _ else _)
      split
      · rename_i h
        exact mono_c (by simp [mkC_c]) (left h.2)
      · exact mono_c (by simp [mkC_c]) hPR
    | cons f post =>
      show Mono st (if ¬ (a.c = e.c ∨ f.c = e.c) ∧ e.c < a.c then _ else _)
      split
      · rename_i h
        exact mono_c (by simp [mkC_c]) (left h.2)
      · exact mono_c (by simp [mkC_c]) hPR
def hgC (x : Cel) : Option Int := if x.h then some x.g else none
theorem hgs_gh : ∀ {l l' : List Cel}, l.map Cel.gh = l'.map Cel.gh → l.filterMap hgC = l'.filterMap hgC
  | [], [], _ => rfl
  | [], _ :: _, h => by cases h
  | _ :: _, [], h => by cases h
  | a :: l, b :: l', h => by
    simp only [List.map_cons, List.cons.injEq] at h
    have hab : hgC a = hgC b := by
      have h1 : a.g = b.g := congrArg Prod.fst h.1
      have h2 : a.h = b.h := congrArg Prod.snd h.1
      unfold hgC; rw [h1, h2]
    simp only [List.filterMap_cons, hab, hgs_gh h.2]
theorem hgs_none {l : List Cel} (h : ∀ x ∈ l, x.h = false) : l.filterMap hgC = [] := by
  rw [List.filterMap_eq_nil_iff]
  intro x hx
  unfold hgC; rw [h x hx]; rfl
theorem hide_main {st : Int} : ∀ {l r : List Cel} {k : Nat}, HideR l k r → Mono st l → (l.map Cel.g).Nodup → (∀ x ∈ l.take k, x.h = false) → r.map Cel.tri = goneAll (l.map Cel.tri) (l.filterMap hgC) := by
  intro l r k h
  induction h with
  | done hle =>
    intro _ _ hno
    rw [List.take_of_length_le hle] at hno
    rw [hgs_none hno]; rfl
  | @skip l r k e he hh _ ih =>
    intro hM hN hno
    refine ih hM hN fun x hx => ?_
    rw [List.take_add_one, he] at hx
    rcases List.mem_append.mp hx with hx | hx
    · exact hno x hx
    · simp at hx; rw [hx]; exact hh
  | @gone l l2 r k e he hh hD _ ih =>
    intro hM hN hno
    have hlt := (List.getElem?_eq_some_iff.mp he).1
    have hek := (List.getElem?_eq_some_iff.mp he).2
    have hs : l = l.take k ++ e :: l.drop (k + 1) := by
      rw [← hek, List.getElem_cons_drop]; exact (List.take_append_drop k l).symm
    have hk : (l.take k).length = k := by rw [List.length_take]; omega
    generalize hP : l.take k = P at *
    generalize l.drop (k + 1) = R at *
    subst hs
    subst hk
    have hstep := drop_step hM hD
    rw [hstep] at ih
    have hgh : (gonePC P e R).map Cel.gh = (P ++ R).map Cel.gh := by rw [gonePC_gh]; simp
    have hg : (gonePC P e R).map Cel.g = (P ++ R).map Cel.g := by
      have := congrArg (List.map Prod.fst) hgh
      simpa [List.map_map, Function.comp_def, Cel.gh] using this
    have hN2 : ((P ++ R).map Cel.g).Nodup := hN.sublist ((List.Sublist.append_left (List.sublist_cons_self e R) P).map Cel.g)
    have hlenP : P.length ≤ (gonePC P e R).length := by
      have := congrArg List.length hgh
      simp at this; omega
    have hno2 : ∀ x ∈ (gonePC P e R).take P.length, x.h = false := fun x hx => by
      have h1 : ((gonePC P e R).take P.length).map Cel.gh = P.map Cel.gh := by
        rw [List.map_take, hgh, List.map_append, ← List.length_map (f := Cel.gh) (as := P), List.take_left']
        rfl
      have h2 : x.gh ∈ P.map Cel.gh := by rw [← h1]; exact List.mem_map_of_mem hx
      obtain ⟨y, hy, e1⟩ := List.mem_map.mp h2
      have : y.h = x.h := congrArg Prod.snd e1
      rw [← this]; exact hno y hy
    rw [ih (mono_step hM) (by rw [hg]; exact hN2) hno2]
    have hidx : (((P ++ e :: R).map Cel.tri).map Tri.g).idxOf e.g = P.length := by
      have e1 : ((P ++ e :: R).map Cel.tri).map Tri.g = P.map Cel.g ++ e.g :: R.map Cel.g := by
        simp only [List.map_map, List.map_append, List.map_cons]; rfl
      rw [e1, List.idxOf_append, if_neg]
      · simp
      · intro hm
        rw [List.map_append, List.map_cons] at hN
        exact (List.nodup_append.mp hN).2.2 _ hm _ (by simp) rfl
    have hhg : (P ++ e :: R).filterMap hgC = e.g :: (P ++ R).filterMap hgC := by
      rw [List.filterMap_append, List.filterMap_append, hgs_none hno, List.filterMap_cons]
      unfold hgC; rw [hh]; rfl
    rw [hhg, hgs_gh hgh]
    have hG : goneG ((P ++ e :: R).map Cel.tri) e.g = (gonePC P e R).map Cel.tri := by
      unfold goneG
      rw [hidx, gonePC_tri]
      have e2 : ((P ++ e :: R).map Cel.tri)[P.length]? = some e.tri := by simp
      rw [e2]
      dsimp only
      congr 1
      · simp
      · simp [List.drop_append]
    show _ = goneAll (goneG ((P ++ e :: R).map Cel.tri) e.g) _
    rw [hG]
theorem hide_law {rows : List Inf} {st c : Int} {r : List Cel} (hsh : Shape st c rows) (hH : HideR (cels rows) 0 r) : r.map Cel.tri = goneAll (rows.map Inf.tri) ((rows.map Inf.hg).filterMap id) := by
  have h := hide_main (st := st) hH (List.pairwise_map.mpr (hsh.1.imp fun h => h.2)) (by
    unfold List.Nodup
    rw [List.map_map]
    exact List.pairwise_map.mpr (hsh.1.imp fun {a b} h e => by
      have e' : a.g = b.g := e
      have := h.1; omega)) (fun x hx => by simp at hx)
  rw [h]
  congr 1
  · simp only [cels, List.map_map]; rfl
  · simp only [cels, List.filterMap_map]; rfl
end Mine
end
section
open Mine
local macro_rules | `(tactic| k_all) => `(tactic| (refine' ne_of_above ?kl ?kd; (case kl => assumption); (case kd => first | omega | (refine Nat.le_of_lt ?_; assumption))))
local macro_rules | `(tactic| k_ne) => `(tactic| first | assumption | (refine Ne.symm ?_; assumption))
theorem Mine.calm12 : True := by
  w_top off
  k_with_none
  k_with "getAttr ref" => ((k_here; (with_reducible show wpAny _ _ (getAttr _ (Str.ofString "cluster") _) _ _ _); k_dflt (refine' get_cluster ?zqk1 ?zqk2 ?zqk3 ?zqk4 ?zqk5 ?_; (case zqk1 => k_asm); (case zqk2 => k_asm); (case zqk3 => k_asm); (case zqk4 => apply ReadsOk.intro <;> k_is); (case zqk5 => k_asm); k_whole; intro tqZ9)))
  k_with "getAttr ref" => ((k_here; (with_reducible show wpAny _ _ (getAttr _ (Str.ofString "is_unsafe") _) _ _ _); k_dflt (refine' get_uns ?zqk1 ?zqk2 ?zqk3 ?zqk4 ?zqk5 ?_; (case zqk1 => k_asm); (case zqk2 => k_asm); (case zqk3 => k_asm); (case zqk4 => apply ReadsOk.intro <;> k_is); (case zqk5 => k_asm); k_whole)))
  k_with "getAttr ref" => ((k_here; (with_reducible show wpAny _ _ (getAttr _ (Str.ofString "glyph") _) _ _ _); k_dflt (refine' get_glyph ?zqk1 ?zqk2 ?zqk3 ?zqk4 ?zqk5 ?_; (case zqk1 => k_asm); (case zqk2 => k_asm); (case zqk3 => k_asm); (case zqk4 => apply ReadsOk.intro <;> k_is); (case zqk5 => k_asm); k_whole; intro tqZ9)))
  k_with "getAttr ref" => ((k_here; (with_reducible show wpAny _ _ (getAttr _ (Str.ofString "kind") _) _ _ _); k_dflt (refine' get_kind ?zqk1 ?zqk2 ?zqk3 ?zqk4 ?zqk5 ?_; (case zqk1 => k_asm); (case zqk2 => k_asm); (case zqk3 => k_asm); (case zqk4 => apply ReadsOk.intro <;> k_is); (case zqk5 => k_asm); k_whole; intro tqZ9)))
  k_with "getAttr ref" => ((k_here; (with_reducible show wpAny _ _ (getAttr _ (Str.ofString "lig_count") _) _ _ _); k_dflt (refine' get_lig ?zqk1 ?zqk2 ?zqk3 ?zqk4 ?zqk5 ?_; (case zqk1 => k_asm); (case zqk2 => k_asm); (case zqk3 => k_asm); (case zqk4 => apply ReadsOk.intro <;> k_is); (case zqk5 => k_asm); k_whole; intro tqZ9)))
  k_with "getAttr ref" => ((k_here; (with_reducible show wpAny _ _ (getAttr _ (Str.ofString "row") _) _ _ _); k_dflt (refine' get_row ?zqk1 ?zqk2 ?zqk3 ?zqB ?zqk4 ?zqk5 ?zqk6 ?zqk7 ?_; (case zqk1 => k_asm); (case zqk2 => k_asm); (case zqk3 => k_asm); (case zqB => k_asm); (case zqk4 => k_is); (case zqk5 => k_is); (case zqk6 => k_is); (case zqk7 => k_is); k_whole)))
  k_with "setAttr ref" => ((k_here; (with_reducible show wpAny _ _ (setAttr _ (Str.ofString "cluster") _) _ _ _); k_dflt (refine' set_clu ?zqk1 ?zqk2 ?zqk3 ?zqk4 ?zqk5 ?_; (case zqk1 => k_asm); (case zqk2 => k_asm); (case zqk3 => k_asm); (case zqk4 => apply StoresOk.intro <;> k_is); (case zqk5 => k_asm); k_whole; intro hqZ9 esqZ9 nqZ9 FqZ9 NqZ9 IqZ9)))
  k_with "setAttr ref" => ((k_here; (with_reducible show wpAny _ _ (setAttr _ (Str.ofString "is_unsafe") _) _ _ _); k_dflt (refine' set_uns ?zqk1 ?zqk2 ?zqk3 ?zqk4 ?zqk5 ?_; (case zqk1 => k_asm); (case zqk2 => k_asm); (case zqk3 => k_asm); (case zqk4 => apply StoresOk.intro <;> k_is); (case zqk5 => k_asm); k_whole; intro hqZ9 esqZ9 nqZ9 FqZ9 NqZ9 IqZ9)))
  k_with "subscriptTail" => ((k_here; (with_reducible show wpAny _ _ (subscriptTail _ _ (Value.ref _) (Value.int _ _)) _ _ _); k_dflt (refine' item_row ?zqN ?zqR ?zqz ?zqf ?_; (case zqN => k_asm); (case zqR => k_asm); (case zqz => k_asm); (case zqf => assumption); k_whole)))
  k_with "exec While" => ((k_here; refine Halt.go ?_))
  k_with "last exec While" => ((k_here; refine Halt.go ?_))
  k_with "call builtin:len" => ((k_here; (with_reducible show wpAny _ _ (call (Value.builtin _) [Value.ref _]) _ _ _); k_dflt (refine' len_row ?zqN ?zqR ?zqf ?_; (case zqN => k_asm); (case zqR => k_asm); (case zqf => assumption); k_whole; intro tqZ9)))
  k_with "subscriptTail" => ((k_here; (with_reducible show wpAny _ _ (subscriptTail _ (PySem.Expr.Slice _ _ none _) (Value.ref _) (Value.ref _)) _ _ _); k_dflt (refine' slice_led ?zqF ?zqN ?zql ?zqp ?zqq ?zqe ?zqz ?_ ?zqs ?zqt; (case zqF => k_asm); (case zqN => k_asm); (case zql => first | assumption | k_mem); (case zqp => kmk_part); (case zqq => kmk_part); (case zqe => first | assumption | (rename (∀ _ : Nat, slicePick _ _ _ _ = _) => hpAZ9; exact hpAZ9 _)); (case zqz => assumption); (case zqs => with_unfolding_all rfl); (case zqt => kmk_pure); k_whole); intro DqZ9 hqZ9 FqZ9 NqZ9 l1Z9))
  k_with "subscriptTail Name Slice ref ref" => (walk_at "subscriptTail")
  k_with "CompEnd" => ((k_here; refine LCg.CompEnd.intro (by k_asm) (by k_asm) _ (fun _ hp => hp) (by first | assumption | (simp only [LCg.Off3, and_true]; assumption)) (by lcg_src) ?_))
  k_with "call ref" => ((k_here; (with_reducible show wpAny _ _ (call (Value.ref 173) _ _) _ _ _); refine Halt.go ?_))
  k_with "call ref" => ((k_here; (with_reducible show wpAny _ _ (call (Value.ref 173) _ _) _ _ _); k_dflt (refine' draw_use ?zqhU ?zqhc ?zqhi ?zqhne ?zqhf ?zqh0 ?zqh1 ?zqhS ?zqhm ?zqB ?zqF ?zqX ?zqN ?zqT ?zqk ?zqd ?zqu ?_; (case zqB => k_asm); (case zqF => k_asm); (case zqX => k_asm); (case zqN => k_asm); (case zqT => k_asm); (case zqk => first | exact rfl | assumption); (case zqhU => k_updF); (case zqhc => k_mem); (case zqhi => assumption); (case zqhne => first | assumption | k_ne); (case zqhf => assumption); (case zqh0 => first | assumption | omega); (case zqh1 => first | assumption | omega); (case zqhS => first | assumption | omega); (case zqhm => first | decide | omega); (case zqd => first | k_room | ktr_room); (case zqu => first | k_units | ktr_units); k_whole; intro vqZ9 tvqZ9 nnqZ9 tk1Z9 hqZ9 tk2Z9 FqZ9 NqZ9 hv0Z9 hv1Z9; (try dsimp only at NqZ9))))
  k_with "subscriptTail" => ((k_here; (with_reducible show wpAny _ _ (subscriptTail _ _ (Value.ref _) (Value.int _ _)) _ _ _); k_dflt (first
  | (refine' menu_int ?zqkN ?zqkl ?zqk0 ?zqk1 ?_; (case zqkN => k_asm); (case zqkl => k_mem); (case zqk0 => first | assumption | omega); (case zqk1 => first | assumption | omega); k_whole; intro nqZ9 tqqZ9 hnqqZ9)
  | (refine' menu_str ?zqkN ?zqkl ?zqk0 ?zqk1 ?_; (case zqkN => k_asm); (case zqkl => k_mem); (case zqk0 => first | assumption | omega); (case zqk1 => first | assumption | omega); k_whole; intro nqZ9 tqqZ9))))
  k_with "exec For" => ((k_here; refine Halt.go ?_))
  k_with "exec For Name Call cons nil" => ((k_here; refine Halt.go ?_))
  k_with "exec For Name Name cons nil" => ((k_here; refine Halt.go ?_))
  k_with "pyIter ref" => ((k_here; refine Halt.go ?_))
  k_with "call type:range" => ((k_here; k_dflt (refine' range1_rows ?zqF ?zqN ?_; (case zqF => k_asm); (case zqN => k_asm); k_whole; intro hqZ9 tkqZ9 t1Z9 u1Z9 v1Z9 RqZ9 FqZ9 NqZ9 KqZ9; clear KqZ9)))
  k_with "call builtin:list.append" => ((k_here; (with_reducible show wpAny _ _ (call (Value.builtin _) [Value.ref _, _]) _ _ _); k_dflt (refine' append_K ?zqk1 ?zqk2 ?zqk3 ?_ ?zqz; (case zqk1 => k_asm); (case zqk2 => k_asm); (case zqk3 => k_upd); (case zqz => exact rows_fit (by assumption)); k_whole); intro hqZ9 FqZ9 NqZ9))
  k_with "exec Assign cons ListComp" => ((k_here; (with_reducible show wpAny _ _ (exec (Stmt.Assign _ (PySem.Expr.ListComp (PySem.Expr.Tuple _ _ _) _ _ _) _) _) _ _ _); k_dflt (refine LCg.Assign_ListComp_U (F₀ := by k_asm) (by rfl) (by with_unfolding_all rfl) (by with_unfolding_all rfl) (by decide) (by rfl) (by decide) (by rfl) (by rfl) (by rfl) ?_)))
  k_with "exec Assign cons ListComp" => ((k_here; lct_look; k_dflt (refine LCt.Assign_ListComp_T (F₀ := by k_asm) (by rfl) (by with_unfolding_all rfl) (by with_unfolding_all rfl) (by decide) (by rfl) (by decide) (by rfl) (by rfl) (by rfl) ?_)))
  k_with "eval ListComp" => ((k_here; (rename Infs _ _ => hMark9Z9); k_dflt (refine LCg.ListComp_U (F₀ := by k_asm) (by with_unfolding_all rfl) (by decide) (by rfl) (by decide) (by rfl) ?_)))
  k_with "CompSrc" => ((k_here; (rename Infs _ _ => hMark9Z9); refine Halt.go ?_))
  k_with "CompSrcT" => ((k_here; (rename Infs _ _ => hMark9Z9); refine Halt.go ?_))
  k_with "call builtin:list.index" => ((k_here; (with_reducible show wpAny _ _ (call (Value.builtin _) [Value.ref _, Value.int _ _]) _ _ _); k_dflt (refine' index_led ?zqN ?zqm ?zqi ?zqk ?zqf ?_; (case zqN => k_asm); (case zqm => k_mem); (case zqi => assumption); (case zqk => assumption); (case zqf => first | assumption | omega))))
  k_with "call ref" => ((k_here; (with_reducible show wpAny _ _ (call (Value.ref 178) _ _) _ _ _); k_dflt (refine' does_use (goneG_does ?zqhl ?zqhin ?zqhf ?zqhg) ?zqB ?zqF ?zqX ?zqN ?zqT ?zqk ?zqd ?zqu ?_; (case zqB => k_asm); (case zqF => k_asm); (case zqX => k_asm); (case zqN => k_asm); (case zqT => k_asm); (case zqk => first | exact rfl | assumption); (case zqhl => k_mem); (case zqhin => exact TupsIn.mono (by assumption) (fun q hq => by simp [hq])); (case zqhf => assumption); (case zqhg => assumption); (case zqd => first | k_room | ktr_room); (case zqu => first | k_units | ktr_units); k_whole; intro rqZ9 ledqZ9 hqZ9 tkqZ9 FqZ9 NqZ9 hRqZ9)))
  k_with "call ref" => ((k_here; (with_reducible show wpAny _ _ (call (Value.ref 166) _ _) _ _ _); refine Halt.go ?_))
  k_with "compareOp Eq ref ref" => ((k_here; refine Halt.go ?_))
  k_with "call ref" => ((k_here; (with_reducible show wpAny _ _ (call (Value.ref 52) _ _) _ _ _); k_dflt (refine' does_use info_does ?zqB ?zqF ?zqX ?zqN ?zqT ?zqk ?zqd ?zqu ?_; (case zqB => k_asm); (case zqF => k_asm); (case zqX => k_asm); (case zqN => k_asm); (case zqT => k_asm); (case zqk => first | exact rfl | assumption); (case zqd => first | k_room | ktr_room); (case zqu => first | k_units | ktr_units); k_whole; intro rqZ9 ledqZ9 hqZ9 tkqZ9 FqZ9 NqZ9 hRqZ9; obtain ⟨xqZ9, dqZ9, esqZ9, nqZ9, e1Z9, e2Z9, l1Z9, l2Z9, okqZ9⟩ := hRqZ9; subst e1Z9; subst e2Z9; (try k_lt l1Z9); (try k_lt2 l2Z9))))
  k_with "setAttr ref" => ((k_here; (with_reducible show wpAny _ _ (setAttr _ (Str.ofString "is_unsafe") _) _ _ _); k_dflt (refine' set_unsU ?zqF ?zqX ?zqN ?zqr ?zqhx ?zqU ?zqok ?_; (case zqF => k_asm); (case zqX => k_asm); (case zqN => k_asm); (case zqr => apply StoresOk.intro <;> k_is); (case zqhx => k_mem); (case zqok => assumption); (case zqU => k_updF); k_whole; intro hqZ9 esqZ9 nqZ9 FqZ9 NqZ9 okqZ9; (try dsimp only at NqZ9))))
  k_with "setAttr ref" => ((k_here; (with_reducible show wpAny _ _ (setAttr _ (Str.ofString "kind") _) _ _ _); k_dflt (refine' set_kindU ?zqF ?zqX ?zqN ?zqr ?zqhx ?zqU ?zqok ?_; (case zqF => k_asm); (case zqX => k_asm); (case zqN => k_asm); (case zqr => apply StoresOk.intro <;> k_is); (case zqhx => k_mem); (case zqok => assumption); (case zqU => k_updF); k_whole; intro hqZ9 esqZ9 nqZ9 FqZ9 NqZ9 okqZ9; (try dsimp only at NqZ9))))
  k_with "setAttr ref" => ((k_here; (with_reducible show wpAny _ _ (setAttr _ (Str.ofString "lig_count") _) _ _ _); k_dflt (refine' set_ligU ?zqF ?zqX ?zqN ?zqr ?zqhx ?zqU ?zqok ?_; (case zqF => k_asm); (case zqX => k_asm); (case zqN => k_asm); (case zqr => apply StoresOk.intro <;> k_is); (case zqhx => k_mem); (case zqok => assumption); (case zqU => k_updF); k_whole; intro hqZ9 esqZ9 nqZ9 FqZ9 NqZ9 okqZ9; (try dsimp only at NqZ9))))
  k_with "execs cons" => ((k_here; k_fold; (rename Fr _ _ _ _ => hFmZ9); revert hFmZ9; (show let mmZ9 : Str → Option Value := _; Fr _ _ _ mmZ9 → _); intro mmZ9 hFmZ9))
  trivial
section
open Mine
namespace Mine
theorem fmod_pos (a : Int) {b : Int} (h : 0 < b) : 0 ≤ a.fmod b ∧ a.fmod b < b := ⟨Int.fmod_nonneg_of_pos _ h, Int.fmod_lt_of_pos _ h⟩
theorem ns_len {ys : List Value} {f : Int → Int} {l : List Int} (_h : IntsAre ys (List.map f (List.take 60 l))) : (List.map f (List.take 60 l)).length ≤ 1000 := by simp; omega
theorem kb {k : Int} (h : 0 ≤ k ∧ k + 4 ≤ 1000) : 0 ≤ k ∧ k ≤ 1000 ∧ 0 ≤ k + 1 ∧ k + 1 ≤ 1000 ∧ 0 ≤ k + 1 + 1 ∧ k + 1 + 1 ≤ 1000 ∧ 0 ≤ k + 1 + 1 + 1 ∧ k + 1 + 1 + 1 ≤ 1000 := by omega
end Mine
set_option maxRecDepth 100000 in
set_option maxHeartbeats 8000000 in
theorem PySem.Challenge.cw_pb0175_01_holds : PySem.Challenge.rw_pb0175_01.Holds := by
  refine Mine.hd ?_
  w_strict (k_go0; (all_goals try k_fold); k_steps)
  unfold Halt
  rename IntsAre _ (List.map _ _) => hI8
  have hns := Mine.ns_len hI8
  generalize List.map (fun k' => Int.fmod k' 1000003) (List.take 60 _) = ns at *
  have hS := Mine.fmod_pos ns.sum (b := 997) (by decide)
  generalize ns.sum.fmod 997 = S at *
  have hS' : 0 ≤ S ∧ S ≤ 1000 := by omega
  k_steps
  unfold Halt
  rename Fr _ _ _ _ => lF1
  with_unfolding_all refine' For_invVF lF1 ?kq1 ?kq2 ?_
  case kq1 => exact rfl
  case kq2 => exact rfl
  k_steps
  unfold Halt
  rename IsRange _ _ _ _ _ _ _ _ => rg
  rename (_ = (1 : Int) ∨ _) => hst
  rename (_ < _ ∧ _ < _ ∧ _ < _ ∧ _ < _) => l1
  have hpi := l1.2.1
  rename Fr _ _ _ _ => lF2
  rename News _ _ _ _ => lN2
  refine iter_range (LawJ _ _ _ _ _ _ _ _) rfl rg (by omega) (by omega) lF2 (law_news lN2) (lawJ_start hst rfl rfl) ?_ ?_
  · rintro i m₁ nx I oI tv h tk hin ⟨c, tc, lv, iv, k, tk1, nn, n2, rows, tl, rfl, rfl, hk, htl, hInf, hlen, hsh⟩ hoff Fw Nw
    have hI1 := hoff _ List.mem_cons_self
    have hI2 := hoff _ (List.mem_cons_of_mem _ List.mem_cons_self)
    have hI3 := hoff _ (List.mem_cons_of_mem _ (List.mem_cons_of_mem _ List.mem_cons_self))
    have hI4 : ∀ q ∈ tl, q.1 ≠ I := fun q hq => hoff q (by simp [hq])
    have hfitR : rows.length ≤ 1000 := by omega
    obtain ⟨kb0, kb1, kb2, kb3, kb4, kb5, kb6, kb7⟩ := kb (k := k) (by omega)
    dsimp only at hI1 hI2 hI3
    clear hoff rg lF2 lN2 lF1
    k_steps
    rename Fr _ _ _ _ => Fz
    rename News _ _ _ _ => Nz
    rename (_ ∧ _ ∧ _ ∧ _ ∧ AllLt _ _) => lz
    refine lawJ_next Fz Nz lz (by assumption) hI1 hI2 hI3 hI4 (by omega) htl hInf hlen hsh (by assumption) hst (by assumption) (by first | rfl | omega)
  · rintro m₁ nx h tk ⟨c, tc, lv, iv, k, tk1, nn, n2, rows, tl, rfl, rfl, hk, htl, hInf, hlen, hsh⟩ Fw Nw
    have hfitR : rows.length ≤ 1000 := by omega
    have hinf := hInf.inf
    have hrow := fun a => hInf.row (a := a) (n := n2) htl
    k_steps
    unfold Halt
    refine LCg.CompSrc.ledger (by rfl) (by k_asm) (by k_asm) (by k_mem) (rows_fit hfitR) ?_
    intro g
    refine comp_mk (rs := rows.map Inf.tri) (by k_mem) (by simp [refs]) ?_ ?_
    · intro j v r hv hr I oI C oC D m₂ ys h tk E' news' hsub hC hx Fw2 Nw2 off ne
      obtain ⟨a, ha, rfl, rfl⟩ := refs_tri hv hr
      have hA : InfAt news' a.x a := (hinf a ha).mono fun q hq => hsub q (by simp [hq])
      clear hsub hinf
      k_steps
      exact tstep_new (by assumption) (by assumption) off (by assumption) (by rfl)
    · intro ts0 nw1 ht0 hin0 hsub0
      k_steps
      have hinf1 : ∀ a ∈ rows, InfAt nw1 a.x a := fun a ha => (hinf a ha).mono fun q hq => hsub0 q (by simp [hq])
      simp only [List.forall_mem_cons] at hsub0
      obtain ⟨-, -, hil, htl0⟩ := hsub0
      have hrow1 := hrow nw1 htl0 hil
      clear hrow
      unfold Halt
      refine LCt.CompSrcT.ledger (by rfl) (by k_asm) (by k_asm) (by k_mem) (rows_fit hfitR) ?_
      intro g2
      refine comp_intsT (ns := rows.map Inf.hg) (by k_mem) (by simp [refs]) ?_ ?_
      · intro j v z hv hz I oI C oC D m₂ ys h tk E' hC hx Fw3 Nw3 off ne hS
        obtain ⟨a, ha, rfl, rfl⟩ := refs_hg hv hz
        have hA : InfAt nw1 a.x a := hinf1 a ha
        clear hinf1 hinf
        k_steps
        · have hk1 : (a.kind != "") = true := by assumption
          have hl1 : a.lig = 0 := by assumption
          exact hg_yes hk1 hl1
        · have hl1 : a.lig ≠ 0 := by assumption
          exact hg_no1 hl1
        · have hk1 : (a.kind != "") = false := by assumption
          exact hg_no2 hk1
      · intro ys hys
        have hsubl : ((rows.map Inf.hg).filterMap id).Sublist ((tris ts0).map Tri.g) := by
          rw [ht0, List.map_map]; exact hg_sub
        generalize hgs : (rows.map Inf.hg).filterMap id = gs at *
        have hlen0 : ts0.length ≤ 100 := by
          have := congrArg List.length ht0
          simp at this
          omega
        have hgl : gs.length ≤ 1000 := by
          have := hsubl.length_le
          simp at this
          omega
        k_steps
        unfold Halt
        rename Fr _ _ _ _ => lF4
        with_unfolding_all refine' For_invVF lF4 ?kr1 ?kr2 ?_
        case kr1 => exact rfl
        case kr2 => exact rfl
        k_steps
        unfold Halt
        rename Fr _ _ _ _ => F5
        rename News _ _ _ _ => N5
        refine iter_gen2 (GoneJ _ _ gs _) (by rfl) (by k_mem) F5 N5 (goneJ_start rfl (by k_mem) (TupsIn.mono hin0 (fun q hq => by simp [hq])) hlen0 hsubl) ?_ ?_
        · rintro i v m₁ nx I oI h tk hv ⟨D', ts', nn', glv, rfl, hbase, hD', hin', hle, hres, hsl⟩ hl' hoff hoI Fw4 Nw4
          obtain ⟨gl, tg, rfl, hdrop⟩ := ints_at hys hv
          rw [hdrop] at hres hsl
          obtain ⟨hmem, hnext⟩ := goneG_next hsl
          have hgfit : (List.map Tri.g (tris ts')).length ≤ 1000 := by simp; omega
          clear F5 N5
          k_steps
          unfold Halt
          refine LCg.CompSrc.ledger (by rfl) (by k_asm) (by k_asm) (by k_mem) (trefs_fit hle) ?_
          intro g3
          refine comp_ints (ns := (tris ts').map Tri.g) (by k_mem) (by simp [trefs]) ?_ ?_
          · intro j v z hv hz I2 oI2 C oC D m₂ ys2 h tk E' hC hx Fw5 Nw5 off ne hS
            obtain ⟨T, hT, rfl, rfl⟩ := trefs_g hv hz
            have hTm : (T.t, T.obj) ∈ nx := hin' T hT
            k_steps
          · intro ys3 hys3
            k_steps
            rename (_ ∧ GoneR _ _ _) => hG
            exact gone_next (by assumption) (by assumption) hG hoI hoff hl' hbase hle hres hmem hnext
        · rintro m₁ nx h tk ⟨D', ts', nn', glv, rfl, hbase, hD', hin', hle, hres, hsl⟩ Fw4 Nw4
          have hR : RowAt nx _ rows := hrow1.mono (fun q hq => hbase q (by simp [hq]))
          clear hrow1
          k_steps
          unfold Halt
          rename (∀ p, p ∈ nx → p.1 < _) => hlz
          rename News _ _ _ _ => Nz
          have hBf := bufAt_of Nz rfl
          refine' does_use (hide_does hBf hR.cons.cons hfitR ?hb9 ?hbd9) ?B9 ?F9 ?X9 ?N9 ?T9 ?k9 ?d9 ?u9 ?_
          case hb9 => exact dsOf_not (fun q hq => Nat.ne_of_lt (Nat.lt_trans (hlz q hq) (by assumption))) hR.inf
          case hbd9 => exact dsOf_not (fun q hq => Nat.ne_of_lt (hlz q hq)) hR.inf
          (case B9 => k_asm)
          (case F9 => k_asm)
          (case X9 => k_asm)
          (case N9 => k_asm)
          (case T9 => k_asm)
          (case k9 => first | exact rfl | assumption)
          (case d9 => first | k_room | ktr_room)
          (case u9 => first | k_units | ktr_units)
          k_whole
          rintro r' led' h' tk' F' N' ⟨rfl, rows', hH, R', B', K'⟩
          have hlaw := hide_law hsh hH
          rw [hgs, ← ht0] at hlaw
          have hfin : tris ts' = rows'.map Inf.tri := by
            have hyl := hys.length
            rw [hyl, List.drop_length] at hres
            rw [← hres] at hlaw
            have : goneAll (tris ts') [] = tris ts' := rfl
            rw [this] at hlaw
            rw [← hlaw]
            simp [cels, Function.comp_def, cel_tri]
          obtain ⟨⟨n6, hD6⟩, hin6⟩ := kept_list Nz (List.mem_cons_of_mem _ (List.mem_cons_of_mem _ hD')) hR.cons.cons (hin'.mono fun q hq => by simp [hq]) K' R' (hideR_nil hH)
          obtain ⟨n5, hl5⟩ := R'.list
          have hinf5 := R'.inf
          have hfit5 : rows'.length ≤ 1000 := by
            have := congrArg List.length hfin
            simp at this
            omega
          k_steps
          unfold Halt
          refine LCg.CompSrc.ledger (by rfl) (by k_asm) (by k_asm) (by k_mem) (rows_fit hfit5) ?_
          intro g5
          refine comp_mk (rs := rows'.map Inf.tri) (by k_mem) (by simp [refs]) ?_ ?_
          · intro j v r hv hr I oI C oC D m₂ ys h tk E' news' hsub hC hx Fw2 Nw2 off ne
            obtain ⟨a, ha, rfl, rfl⟩ := refs_tri hv hr
            have hA : InfAt news' a.x a := (hinf5 a ha).mono fun q hq => hsub q hq
            clear hsub hinf5
            k_steps
            exact tstep_new (by assumption) (by assumption) off (by assumption) (by rfl)
          · intro ts5 nw5 ht5 hin5 hsub5
            have hD7 := hsub5 _ hD6
            have hin7 := hin6.mono hsub5
            k_steps
            unfold Halt
            refine eq_tups (ts := ts5) (us := ts') (by k_asm) (by k_mem) (by k_mem) (hin5.mono fun q hq => by simp [hq]) (hin7.mono fun q hq => by simp [hq]) (by rw [ht5, hfin]) (by ktr_units) (by ktr_units) ?_
            k_steps
end
end
end
