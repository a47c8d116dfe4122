import PyProof.Rows.All
import Wide.All
import OpenK.AllK
import Wide.FinOn
import PySem.Challenge.RW_sj0177_01
open PySem PySem.W PyProof.Rows
set_option Elab.async false
set_option linter.all false
set_option maxRecDepth 100000
set_option maxHeartbeats 8000000
local macro_rules | `({ scope := $_, locals := $_, globals := $_, cells := $_, code := $_, frame := $_ }) => Lean.Macro.throwError "the whole top at once"
open_top hd for PySem.Challenge.rw_sj0177_01
open PySem.Calls
namespace Mine
theorem fill_all : (hd.heap_39 = hd.heap_39) ∧ (PySem.Challenge.rw_sj0177_01 = PySem.Challenge.rw_sj0177_01) := by k_fill; exact ⟨rfl, rfl⟩
local macro_rules | `(tactic| walk_at $s:str) => `(tactic| k_extra $s)
local macro_rules | `(tactic| k_mem) => `(tactic| k_extra "mem")
local macro_rules | `(tactic| k_room) => `(tactic| first | k_extra "room" | ktr_room)
local macro_rules | `(tactic| k_units) => `(tactic| first | k_extra "units" | ktr_units)
section
abbrev Led := List (Addr × Obj)
abbrev PR : Program := PySem.Challenge.rw_sj0177_01.row.prog
/-- a call's contract -/
def Ctr (prog : Program) (w : World) (K : Frag) (f : Addr) (d n : Nat) (vs : List Value) (news : Led) (Post : Value → Led → Prop) : Prop :=
  ∀ (p : Program) (loose : List Str) (mean : ExcName → Option Value) (mg mb : Str → Option Value)
    (dp un : Nat) (gd : Option (List Code)) (cn : Str) (cs : Scope) (a : Addr) (ccd : Value) (cl : List (Str × Addr)) (outer : List Env) (A₀ : Around) (base h₀ : Heap) (L : Addr) (m : Str → Option Value) (s : Shared) (Q E : Value → Shared → Prop),
    Below A₀ base outer h₀ → Fr h₀ L s.heap m → K.In h₀ → News h₀ L s.heap news → Top p loose mean mg mb h₀ → cs.kind = .function →
    dp + d < recursionLimit → un + n < cLine →
    (∀ r news' h' tk', Fr h₀ L h' m → News h₀ L h' news' → Post r news' → Q r { s with heap := h', toks := tk' }) →
    wpAny (model prog w) (ktrTop dp un gd cn cs L a ccd cl outer) (call (.ref f) vs) Q E s
abbrev tupO (vs : List Value) (n : Nat) : Obj := { cls := .type "tuple", data := .seq vs.toArray n }
/-- a row's text: age, key, sequence number, content -/
structure Lsa where
  age : Int
  a : Int
  b : Int
  seq : Int
  c : Int
  deriving DecidableEq
abbrev Key := Int × Int
def Lsa.key (l : Lsa) : Key := (l.a, l.b)
def Lsa.aged (l : Lsa) (s : Int) : Lsa := { l with age := min (l.age + s) 3600 }
abbrev keyD (k : Key) : Dat := .tuple [.int 3, .int k.1, .int k.2]
abbrev headD (l : Lsa) : Dat := .tuple [.int l.age, .int 2, .int 3, .int l.a, .int l.b, .int l.seq, .int 0]
abbrev contD (c : Int) : Dat := .tuple [.str (Str.ofString "summary"), .int 24, .int c]
abbrev lsaD (l : Lsa) : Dat := .tuple [headD l, contD l.c]
theorem headD_open {news : Led} {v : Value} {l : Lsa} (h : DatIn news v (headD l)) :
    ∃ a n t0 t1 t2 t3 t4 t5 t6, v = .ref a ∧ (a, tupO [.int l.age t0, .int 2 t1, .int 3 t2, .int l.a t3, .int l.b t4, .int l.seq t5, .int 0 t6] n) ∈ news := by
  cases h with
  | tuple hm r =>
    cases r with | cons h0 r => cases r with | cons h1 r => cases r with | cons h2 r => cases r with | cons h3 r => cases r with | cons h4 r => cases r with | cons h5 r => cases r with | cons h6 r =>
      cases r; cases h0; cases h1; cases h2; cases h3; cases h4; cases h5; cases h6
      exact ⟨_, _, _, _, _, _, _, _, _, rfl, hm⟩
theorem lsaD_open {news : Led} {v : Value} {l : Lsa} (h : DatIn news v (lsaD l)) :
    ∃ a n hv cv, v = .ref a ∧ (a, tupO [hv, cv] n) ∈ news ∧ DatIn news hv (headD l) ∧ DatIn news cv (contD l.c) := by
  cases h with
  | tuple hm r => cases r with | cons h0 r => cases r with | cons h1 r => cases r; exact ⟨_, _, _, _, rfl, hm, h0, h1⟩
theorem keyD_open {news : Led} {v : Value} {k : Key} (h : DatIn news v (keyD k)) :
    ∃ a n t0 t1 t2, v = .ref a ∧ (a, tupO [.int 3 t0, .int k.1 t1, .int k.2 t2] n) ∈ news := by
  cases h with
  | tuple hm r => cases r with | cons h0 r => cases r with | cons h1 r => cases r with | cons h2 r => cases r; cases h0; cases h1; cases h2; exact ⟨_, _, _, _, _, rfl, hm⟩
end
section
section
variable {prog : Program} {w : World} {A : Around} {E : Value → Shared → Prop} {s : Shared} {h₀ : Heap} {L : Addr} {m : Str → Option Value} {news : Led}
theorem tup_from1 {value slice : PySem.Expr} {t : Addr} {x : Value} {xs : List Value} {n : Nat} {u : Tok} {Q : Value → Shared → Prop}
    (F : Fr h₀ L s.heap m) (N : News h₀ L s.heap news) (hm : (t, tupO (x :: xs) n) ∈ news)
    (h : ∀ D h', Fr h₀ L h' m → News h₀ L h' ((D, tupO xs 0) :: news) → (∀ p ∈ news, p.1 < D) → Q (.ref D) { s with heap := h' })
    (hs : subscripted slice false (.ref t) (.ref s.heap.objs.size) = operate [.ref s.heap.objs.size, .ref t] (getItem (.ref t) (.ref s.heap.objs.size)))
    (hg : ∀ r, letTemporaryGo value (.ref t) r = pure ())
    (hsz : (x :: xs).length ≤ sizeLine) :
    wpAny (model prog w) A (subscriptTail value slice (.ref t) (.ref s.heap.objs.size)) Q E { s with heap := s.heap.push { cls := .type "slice", data := .fields #[.int 1 u, .none, .none] } } := by
  refine slice_tuple_from (a := 1) (items := (x :: xs).toArray) F N (News.isTup N hm) (Nat.le_refl _) (by rw [List.size_toArray]; exact Nat.succ_le_succ (Nat.zero_le _)) (fun h' F' N' => ?_) hs hg (by rw [List.size_toArray]; exact hsz)
  exact h _ h' F' (by simpa using N') (fun p hp => Nat.lt_succ_of_lt (Heap.lt_size (N p hp).1))
theorem tup_add {t b : Addr} {x y : Value} {xs ys : List Value} {n k : Nat} {Q : Value → Shared → Prop} (F : Fr h₀ L s.heap m) (N : News h₀ L s.heap news) (ht : (t, tupO (x :: xs) n) ∈ news) (hb : (b, tupO (y :: ys) k) ∈ news)
    (h : ∀ D h', Fr h₀ L h' m → News h₀ L h' ((D, tupO ((x :: xs) ++ (y :: ys)) 0) :: news) → (∀ p ∈ news, p.1 < D) → Q (.ref D) { s with heap := h' })
    (hsz : (x :: xs).length + (y :: ys).length ≤ sizeLine) : wpAny (model prog w) A (binaryOp .Add (.ref t) (.ref b)) Q E s :=
  add_tuples F N (News.isTup N ht) (News.isTup N hb) (fun e => by cases e) (fun _ e => by cases e) (fun _ _ h' F' N' => h _ h' F' N' (fun p hp => Heap.lt_size (N p hp).1)) hsz
end
theorem dat_int {news : Led} {i j : Int} {t : Tok} (h : i = j) : DatIn news (.int i t) (.int j) := h ▸ DatIn.int i t
theorem datAll_mono {news news' : Led} {vs : List Value} {ds : List Dat} (hs : ∀ p ∈ news, p ∈ news') (h : DatAll news vs ds) : DatAll news' vs ds := DatAll.mono hs h
/-- what a call that stores nothing gives back -/
abbrev PureD (news : Led) (D : Dat) (r : Value) (news' : Led) : Prop := news <:+ news' ∧ DatIn news' r D
theorem Ctr.use {prog : Program} {w : World} {K : Frag} {f : Addr} {d n : Nat} {vs : List Value} {news : Led} {Post : Value → Led → Prop}
    {p : Program} {loose : List Str} {mean : ExcName → Option Value} {mg mb : Str → Option Value}
    {dp un : Nat} {gd : Option (List Code)} {cn : Str} {cs : Scope} {a : Addr} {ccd : Value} {cl : List (Str × Addr)} {outer : List Env} {A₀ : Around} {base h₀ : Heap} {L : Addr} {m : Str → Option Value} {s : Shared} {Q E : Value → Shared → Prop}
    (C : Ctr prog w K f d n vs news Post) (B : Below A₀ base outer h₀) (F : Fr h₀ L s.heap m) (X : K.In h₀) (N : News h₀ L s.heap news) (T : Top p loose mean mg mb h₀) (hk : cs.kind = .function)
    (hd : dp + d < recursionLimit) (hu : un + n < cLine)
    (ret : ∀ r news' h' tk', Fr h₀ L h' m → News h₀ L h' news' → Post r news' → Q r { s with heap := h', toks := tk' }) :
    wpAny (model prog w) (ktrTop dp un gd cn cs L a ccd cl outer) (call (.ref f) vs) Q E s := C p loose mean mg mb dp un gd cn cs a ccd cl outer A₀ base h₀ L m s Q E B F X N T hk hd hu ret
section
variable {prog : Program} {w : World} {A : Around} {E : Value → Shared → Prop} {s : Shared} {h₀ : Heap} {L : Addr} {m : Str → Option Value} {news : Led}
open Classical in
open Classical in
theorem dat_cmp_ne {a b : Value} {da db : Dat} {Q : Value → Shared → Prop} (N : News h₀ L s.heap news) (ha : DatIn news a da) (hb : DatIn news b db) (ka : kqdOk 8 da = true) (kb : kqdOk 8 db = true) (hu : A.units + 64 < cLine)
    (h : Q (.bool (!decide (da = db))) s) : wpAny (model prog w) A (compareOp .NotEq a b) Q E s := by
  obtain ⟨as, ra⟩ := kqd_in N 8 ha ka
  obtain ⟨bs, rb⟩ := kqd_in N 8 hb kb
  have e : PyData.eqv (kqdP da) (kqdP db) = decide (da = db) := by
    have q := kqd_eqv 8 da db 8 ka kb
    by_cases hq : da = db
    · rw [decide_eq_true hq]; exact q.mpr hq
    · rw [decide_eq_false hq]; exact Bool.eq_false_iff.mpr fun x => hq (q.mp x)
  have la := kqd_lay 8 da ka
  have lb := kqd_lay 8 db kb
  refine SeqAt.compareNe_shaped ra rb ?_ ?_ hu (by rw [e]; exact h)
  · unfold SeqAt.shaped; rw [la.1, Bool.true_and]; exact decide_eq_true (Nat.le_trans la.2 (by decide))
  · unfold SeqAt.shaped; rw [lb.1, Bool.true_and]; exact decide_eq_true (Nat.le_trans lb.2 (by decide))
end
theorem strOk_summary : PyData.strOk (Str.ofString "summary") = true := by decide +kernel
theorem ok_cont (c : Int) (n : Nat) : kqdOk (n + 1) (contD c) = true := by simp [kqdOk, strOk_summary]
theorem ok_head (l : Lsa) (n : Nat) : kqdOk (n + 1) (headD l) = true := by simp [kqdOk]
theorem ok_key (k : Key) (n : Nat) : kqdOk (n + 1) (keyD k) = true := by simp [kqdOk]
theorem ok_lsa (l : Lsa) (n : Nat) : kqdOk (n + 2) (lsaD l) = true := by
  show ([headD l, contD l.c].all (kqdOk (n + 1))) = true
  rw [List.all_cons, ok_head, List.all_cons, ok_cont]; rfl
theorem contD_inj {c d : Int} : contD c = contD d ↔ c = d := by simp
theorem tup_ref {news : Led} {v : Value} {ds : List Dat} (h : DatIn news v (.tuple ds)) : ∃ a, v = .ref a := by cases h; exact ⟨_, rfl⟩
theorem dat_bool {news : Led} {i j : Bool} (h : i = j) : DatIn news (.bool i) (.bool j) := h ▸ DatIn.bool i
end
section
abbrev TK (w : World) : HeapKind PR w (List Int) := tupleKind (intKind PR w)
abbrev Ent := List Int × Addr × Value
abbrev kl (k : Key) : List Int := [3, k.1, k.2]
abbrev Rw := Lsa × Int
/-- a row's value -/
abbrev rvD (r : Rw) : Dat := .tuple [lsaD r.1, .int r.2]
inductive XsAre (news : Led) : List Ent → List Rw → Prop
  | nil : XsAre news [] []
  | cons {ka : Addr} {v : Value} {r : Rw} {xs : List Ent} {D : List Rw} : DatIn news (.ref ka) (keyD r.1.key) → DatIn news v (rvD r) → XsAre news xs D → XsAre news ((kl r.1.key, ka, v) :: xs) (r :: D)
abbrev rowsO (w : World) (xs : List Ent) (n : Nat) : Obj := dictOf (xs.map (entryOfKey (TK w))) n
def keysOf (D : List Rw) : List Key := D.map fun r => r.1.key
def allKeys : List Key := [(0, 1), (0, 2), (1, 1), (1, 2), (2, 1), (2, 2)]
/-- the dict of rows at d -/
def DbIs (w : World) (news : Led) (d : Addr) (D : List Rw) : Prop := ∃ xs n, (d, rowsO w xs n) ∈ news ∧ XsAre news xs D ∧ (keysOf D).Nodup ∧ (∀ k ∈ keysOf D, k ∈ allKeys) ∧ (d == sysModules) = false
/-- the object at x whose rows lie at d -/
def DbObj (news : Led) (x d : Addr) : Prop := ∃ dx hs t n, (x, instObj 152 dx) ∈ news ∧ (dx, dictOf [⟨hs, .str (Str.ofString "rows") t, .ref d⟩] n) ∈ news
def rowAt (D : List Rw) (k : Key) : Option Rw := D.find? fun r => r.1.key == k
def putRow (D : List Rw) (r : Rw) : List Rw := if (rowAt D r.1.key).isSome then D.map (fun q => if q.1.key = r.1.key then r else q) else D ++ [r]
def dropRow (D : List Rw) (k : Key) : List Rw := D.filter fun r => !(r.1.key == k)
theorem nodup_le {α : Type} [DecidableEq α] : ∀ {l m : List α}, l.Nodup → (∀ x ∈ l, x ∈ m) → l.length ≤ m.length
  | [], _, _, _ => Nat.zero_le _
  | a :: l, m, hn, hs => by
    have h1 := List.nodup_cons.mp hn
    have ha := hs a (.head _)
    have h2 : l.length ≤ (m.erase a).length := nodup_le h1.2 fun x hx => (List.mem_erase_of_ne (fun e => h1.1 (by rw [← e]; exact hx))).mpr (hs x (.tail _ hx))
    rw [List.length_erase_of_mem ha] at h2
    have := List.length_pos_of_mem ha
    rw [List.length_cons]; omega
theorem rows_le {D : List Rw} (hn : (keysOf D).Nodup) (hk : ∀ k ∈ keysOf D, k ∈ allKeys) : D.length ≤ 6 := by
  have := nodup_le hn hk
  simpa [keysOf, allKeys] using this
theorem keys_put {D : List Rw} {r : Rw} : keysOf (putRow D r) = if (rowAt D r.1.key).isSome then keysOf D else keysOf D ++ [r.1.key] := by
  unfold putRow
  by_cases h : (rowAt D r.1.key).isSome = true
  · rw [if_pos h, if_pos h]
    unfold keysOf
    rw [List.map_map]
    refine List.map_congr_left fun q _ => ?_
    show (if q.1.key = r.1.key then r else q).1.key = q.1.key
    split
    · rename_i e; exact e.symm
    · rfl
  · rw [if_neg h, if_neg h]; simp [keysOf]
theorem rowAt_none {D : List Rw} {k : Key} : rowAt D k = none ↔ k ∉ keysOf D := by
  unfold rowAt keysOf
  rw [List.find?_eq_none]
  constructor
  · intro h hm
    obtain ⟨r, hr, e⟩ := List.mem_map.mp hm
    exact h r hr (by simp [e])
  · intro h r hr e
    exact h (List.mem_map.mpr ⟨r, hr, by simpa using e⟩)
theorem nodup_put {D : List Rw} {r : Rw} (hn : (keysOf D).Nodup) : (keysOf (putRow D r)).Nodup := by
  rw [keys_put]
  cases h : rowAt D r.1.key with
  | some q => exact hn
  | none =>
    simp only [Option.isSome_none, Bool.false_eq_true, if_false]
    rw [List.nodup_append]
    refine ⟨hn, by simp, ?_⟩
    intro a ha b hb e
    rw [List.mem_singleton] at hb
    exact rowAt_none.mp h (by rw [← hb, ← e]; exact ha)
theorem all_put {D : List Rw} {r : Rw} (hk : ∀ k ∈ keysOf D, k ∈ allKeys) (hr : r.1.key ∈ allKeys) : ∀ k ∈ keysOf (putRow D r), k ∈ allKeys := by
  intro k h
  rw [keys_put] at h
  split at h
  · exact hk k h
  · rcases List.mem_append.mp h with h | h
    · exact hk k h
    · rw [List.mem_singleton.mp h]; exact hr
theorem keys_drop {D : List Rw} {k : Key} : (keysOf (dropRow D k)).Sublist (keysOf D) := (List.filter_sublist).map _
theorem XsAre.mono {news news' : Led} (hs : ∀ v D, DatIn news v D → DatIn news' v D) : ∀ {xs D}, XsAre news xs D → XsAre news' xs D
  | _, _, .nil => .nil
  | _, _, .cons a b c => .cons (hs _ _ a) (hs _ _ b) (c.mono hs)
theorem XsAre.keys {news : Led} {xs D} (h : XsAre news xs D) : xs.map (·.1) = (keysOf D).map kl := by
  induction h with
  | nil => rfl
  | cons _ _ _ ih => simp only [List.map_cons, keysOf, ih]
theorem XsAre.length {news : Led} {xs D} (h : XsAre news xs D) : xs.length = D.length := by
  induction h with
  | nil => rfl
  | cons _ _ _ ih => simp only [List.length_cons, ih]
theorem kl_inj {a b : Key} (h : kl a = kl b) : a = b := by
  obtain ⟨a1, a2⟩ := a; obtain ⟨b1, b2⟩ := b
  simpa [kl] using h
theorem XsAre.nodup {news : Led} {xs D} (h : XsAre news xs D) (hn : (keysOf D).Nodup) : (xs.map (·.1)).Nodup := by
  rw [h.keys]
  exact List.Pairwise.map kl (fun a b hab e => hab (kl_inj e)) hn
theorem isKey {w : World} {h₀ h : Heap} {L : Addr} {news : Led} (N : News h₀ L h news) {ka : Addr} {k : Key} (hD : DatIn news (.ref ka) (keyD k)) : (TK w).is h (kl k) ka := by
  obtain ⟨a, n, t0, t1, t2, e, hm⟩ := keyD_open hD
  cases e
  exact ⟨_, _, n, N.get hm, rfl, rfl, .cons (intKind_is _ _ _ _) (.cons (intKind_is _ _ _ _) (.cons (intKind_is _ _ _ _) .nil))⟩
theorem XsAre.isAll {w : World} {h₀ h : Heap} {L : Addr} {news : Led} (N : News h₀ L h news) {xs D} (hx : XsAre news xs D) : ∀ x ∈ xs, (TK w).is h x.1 x.2.1 := by
  induction hx with
  | nil => intro x hx; cases hx
  | cons a _ _ ih =>
    intro x hx
    cases hx with
    | head => exact isKey N a
    | tail _ hx => exact ih x hx
theorem dictOfH {w : World} {h₀ h : Heap} {L d : Addr} {news : Led} (N : News h₀ L h news) {xs n D} (hm : (d, rowsO w xs n) ∈ news) (hx : XsAre news xs D) (hn : (keysOf D).Nodup) : h.DictOfH (TK w) d xs :=
  ⟨_, _, n, N.get hm, ⟨rfl, rfl, rfl⟩, rfl, by simp, hx.isAll N, hx.nodup hn⟩
theorem XsAre.at_none {news : Led} {xs D} (hx : XsAre news xs D) {k : Key} (h : rowAt D k = none) : atKey xs (kl k) = none := by
  induction hx with
  | nil => rfl
  | @cons ka v r xs D _ _ _ ih =>
    simp only [rowAt, List.find?_cons] at h
    cases hk : r.1.key == k with
    | true => rw [hk] at h; cases h
    | false =>
      rw [hk] at h
      have hne : ¬ kl r.1.key = kl k := fun e => by rw [kl_inj e] at hk; simp at hk
      have := ih h
      simpa only [atKey, List.find?_cons, decide_eq_false hne] using this
theorem XsAre.at_some {news : Led} {xs D} (hx : XsAre news xs D) {k : Key} {r : Rw} (h : rowAt D k = some r) : ∃ ka v, atKey xs (kl k) = some (ka, v) ∧ DatIn news v (rvD r) := by
  induction hx with
  | nil => cases h
  | @cons ka v q xs D a b _ ih =>
    simp only [rowAt, List.find?_cons] at h
    cases hk : q.1.key == k with
    | true =>
      rw [hk] at h
      have hq : q = r := Option.some.inj h
      subst hq
      have e : kl q.1.key = kl k := by rw [show q.1.key = k by simpa using hk]
      exact ⟨ka, v, by simp only [atKey, List.find?_cons, decide_eq_true e, Option.map_some], b⟩
    | false =>
      rw [hk] at h
      have hne : ¬ kl q.1.key = kl k := fun e => by rw [kl_inj e] at hk; simp at hk
      obtain ⟨ka', v', e, hD⟩ := ih h
      exact ⟨ka', v', by simpa only [atKey, List.find?_cons, decide_eq_false hne] using e, hD⟩
/-- no list lies in it -/
def noList : Dat → Bool
  | .tuple ds => noLists ds
  | .list _ => false
  | _ => true
where noLists : List Dat → Bool
  | [] => true
  | d :: ds => noList d && noLists ds
/-- what a call that stores into the lists P and into the dicts of rows W leaves -/
structure Ext (P W : List Addr) (news news' : Led) : Prop where
  tup : ∀ p ∈ news, p.2.cls = .type "tuple" → p ∈ news'
  inst : ∀ p ∈ news, p.2.cls = .ref 152 → p ∈ news'
  lst : ∀ p ∈ news, p.2.cls = .type "list" → p.1 ∉ P → p ∈ news'
  tab : ∀ p ∈ news, p.2.cls = .none → p.1 ∉ W → p ∈ news'
  obj : ∀ x d, DbObj news x d → DbObj news' x d
  kept : ∀ p ∈ news, p.1 ∉ P → p.1 ∉ W → p ∈ news'
  other : ∀ (w : World) d D, d ∉ W → DbIs w news d D → DbIs w news' d D
mutual
theorem DatIn.upT {news news' : Led} (ht : ∀ p ∈ news, p.2.cls = .type "tuple" → p ∈ news') : ∀ {v : Value} {d : Dat}, noList d = true → DatIn news v d → DatIn news' v d
  | _, _, _, .none => .none
  | _, _, _, .bool b => .bool b
  | _, _, _, .int i t => .int i t
  | _, _, _, .str x t => .str x t
  | _, _, _, .bytes b t => .bytes b t
  | _, _, hn, .tuple h r => .tuple (ht _ h rfl) (DatAll.upT ht (by simpa [noList] using hn) r)
  | _, _, hn, .list h r => by simp [noList] at hn
theorem DatAll.upT {news news' : Led} (ht : ∀ p ∈ news, p.2.cls = .type "tuple" → p ∈ news') : ∀ {vs : List Value} {ds : List Dat}, noList.noLists ds = true → DatAll news vs ds → DatAll news' vs ds
  | _, _, _, .nil => .nil
  | _, _, hn, .cons h r => by
    have hn' := Bool.and_eq_true_iff.mp (show (noList _ && noList.noLists _) = true from hn)
    exact .cons (DatIn.upT ht hn'.1 h) (DatAll.upT ht hn'.2 r)
end
theorem Ext.dat {P W : List Addr} {news news' : Led} (e : Ext P W news news') {v : Value} {d : Dat} (h : DatIn news v d) (hn : noList d = true) : DatIn news' v d := DatIn.upT e.tup hn h
theorem XsAre.up {news news' : Led} (ht : ∀ p ∈ news, p.2.cls = .type "tuple" → p ∈ news') : ∀ {xs D}, XsAre news xs D → XsAre news' xs D
  | _, _, .nil => .nil
  | _, _, .cons a b c => .cons (DatIn.upT ht rfl a) (DatIn.upT ht rfl b) (c.up ht)
theorem Ext.of_sub {news news' : Led} (h : ∀ p ∈ news, p ∈ news') : Ext [] [] news news' where
  tup := fun p hp _ => h p hp
  inst := fun p hp _ => h p hp
  lst := fun p hp _ _ => h p hp
  tab := fun p hp _ _ => h p hp
  obj := fun x d ⟨dx, hs, t, n, a, b⟩ => ⟨dx, hs, t, n, h _ a, h _ b⟩
  kept := fun p hp _ _ => h p hp
  other := fun w d D _ ⟨xs, n, a, b, c⟩ => ⟨xs, n, h _ a, b.up (fun p hp _ => h p hp), c⟩
theorem Ext.suf {news news' : Led} (h : news <:+ news') : Ext [] [] news news' := Ext.of_sub fun _ hp => h.subset hp
theorem Ext.weak {P W P' W' : List Addr} {news news' : Led} (e : Ext P W news news') (hP : ∀ a ∈ P, a ∈ P') (hW : ∀ a ∈ W, a ∈ W') : Ext P' W' news news' where
  tup := e.tup
  inst := e.inst
  lst := fun p hp hc hn => e.lst p hp hc fun h => hn (hP _ h)
  tab := fun p hp hc hn => e.tab p hp hc fun h => hn (hW _ h)
  obj := e.obj
  kept := fun p hp h1 h2 => e.kept p hp (fun h => h1 (hP _ h)) fun h => h2 (hW _ h)
  other := fun w d D hd => e.other w d D fun h => hd (hW _ h)
theorem Ext.trans {P W : List Addr} {a b c : Led} (e : Ext P W a b) (f : Ext P W b c) : Ext P W a c where
  tup := fun p hp hc => f.tup p (e.tup p hp hc) hc
  inst := fun p hp hc => f.inst p (e.inst p hp hc) hc
  lst := fun p hp hc hn => f.lst p (e.lst p hp hc hn) hc hn
  tab := fun p hp hc hn => f.tab p (e.tab p hp hc hn) hc hn
  obj := fun x d h => f.obj x d (e.obj x d h)
  kept := fun p hp h1 h2 => f.kept p (e.kept p hp h1 h2) h1 h2
  other := fun w d D hd h => f.other w d D hd (e.other w d D hd h)
theorem DbIs.sub {w : World} {news news' : Led} {d : Addr} {D : List Rw} (h : ∀ p ∈ news, p ∈ news') (x : DbIs w news d D) : DbIs w news' d D := (Ext.of_sub h).other w d D (by simp) x
/-- a dict of rows is stored into -/
theorem Ext.rows {w : World} {h₀ h : Heap} {L d : Addr} {news news' : Led} {xs n} (N : News h₀ L h news) (hm : (d, rowsO w xs n) ∈ news) (k : ∀ p ∈ news, p.1 ≠ d → p ∈ news') : Ext [] [d] news news' := by
  have ne : ∀ p ∈ news, p.2.cls ≠ .type "dict" → p.1 ≠ d := by
    rintro ⟨a, o⟩ hp hc rfl
    have e := (N.get hp).symm.trans (N.get hm)
    cases e
    exact hc rfl
  have tup : ∀ p ∈ news, p.2.cls = .type "tuple" → p ∈ news' := fun p hp hc => k p hp (ne p hp (by rw [hc]; decide))
  refine ⟨tup, fun p hp hc => k p hp (ne p hp (by rw [hc]; exact fun h => nomatch h)), fun p hp hc _ => k p hp (ne p hp (by rw [hc]; decide)), fun p hp hc _ => k p hp (ne p hp (by rw [hc]; exact fun h => nomatch h)), ?_, fun p hp _ hd => k p hp (by simpa using hd), ?_⟩
  · rintro x d' ⟨dx, hs, t, m, a, b⟩
    refine ⟨dx, hs, t, m, k _ a (ne _ a (fun h => nomatch h)), k _ b ?_⟩
    rintro rfl
    have e := (N.get b).symm.trans (N.get hm)
    have e2 := congrArg (fun o : Option Obj => match o with | some ⟨_, _, .dict es _, _⟩ => es.toList | _ => []) e
    simp only [rowsO, dictOf] at e2
    cases xs with
    | nil => simp at e2
    | cons y ys => simp [entryOfKey] at e2
  · rintro w' d' D hd ⟨xs', n', a, b, c⟩
    exact ⟨xs', n', k _ a (by simpa using hd), b.up tup, c⟩
/-- a list is stored into -/
theorem Ext.list {h₀ h : Heap} {L l : Addr} {news news' : Led} {its : Array Value} {n : Nat} (N : News h₀ L h news) (hm : (l, listOf its n) ∈ news) (k : ∀ p ∈ news, p.1 ≠ l → p ∈ news') : Ext [l] [] news news' := by
  have ne : ∀ p ∈ news, p.2.cls ≠ .type "list" → p.1 ≠ l := by
    rintro ⟨a, o⟩ hp hc rfl
    have e := (N.get hp).symm.trans (N.get hm)
    cases e
    exact hc rfl
  have tup : ∀ p ∈ news, p.2.cls = .type "tuple" → p ∈ news' := fun p hp hc => k p hp (ne p hp (by rw [hc]; decide))
  have dic : ∀ p ∈ news, p.2.cls = .type "dict" → p ∈ news' := fun p hp hc => k p hp (ne p hp (by rw [hc]; decide))
  refine ⟨tup, fun p hp hc => k p hp (ne p hp (by rw [hc]; exact fun h => nomatch h)), fun p hp hc hn => k p hp (by simpa using hn), fun p hp hc _ => k p hp (ne p hp (by rw [hc]; exact fun h => nomatch h)), ?_, fun p hp hn _ => k p hp (by simpa using hn), ?_⟩
  · rintro x d' ⟨dx, hs, t, m, a, b⟩
    exact ⟨dx, hs, t, m, k _ a (ne _ a (fun h => nomatch h)), dic _ b rfl⟩
  · rintro w' d' D hd ⟨xs', n', a, b, c⟩
    exact ⟨xs', n', dic _ a rfl, b.up tup, c⟩
end
section
section
variable {w : World} {A : Around} {E : Value → Shared → Prop} {s : Shared} {h₀ : Heap} {L : Addr} {m : Str → Option Value} {news : Led} {d ka : Addr} {D : List Rw} {k : Key}
theorem room1 (hu : A.units + 64 < cLine) : (TK w).room A.in1 := by
  show A.units + 1 < cLine
  omega
theorem rows_contains {Q : Bool → Shared → Prop} (N : News h₀ L s.heap news) (hdb : DbIs w news d D) (hk : DatIn news (.ref ka) (keyD k)) (hu : A.units + 64 < cLine)
    (h : ∀ tk, Q (rowAt D k).isSome { s with toks := tk }) : wpAny (model PR w) A (contains (.ref d) (.ref ka)) Q E s := by
  obtain ⟨xs, n, hm, hx, hn, _, lo⟩ := hdb
  have H := dictOfH N hm hx hn
  have e : (atKey xs (kl k)).isSome = (rowAt D k).isSome := by
    cases hr : rowAt D k with
    | none => rw [hx.at_none hr]; rfl
    | some r => obtain ⟨a, v, e, _⟩ := hx.at_some hr; rw [e]; rfl
  unfold contains
  try with_reducible refine wpAny_holding ?_
  refine wpAny_bind (wpAny_specialOf H.typeIs slot_dict_contains.lookup ?_)
  show wpAny _ _ (if (some (Value.builtin "dict.__contains__") == some Value.none) = true then _ else _) _ E s
  rw [if_neg (by rw [beq_builtin_none]; exact Bool.false_ne_true)]
  refine wpAny_bind (wpAny_callSpecialUnlessNone?_slot (name := Str.ofString "__contains__") H.typeIs slot_dict_contains
    (wpAny_call_entry slot_dict_contains H.typeIs entry_dict_contains ?_ (args_dict_contains _ _)))
  show wpAny _ _ (dictGet d (.ref ka) >>= _) _ _ s
  refine wpAny_bind (wpAny_dictGet_heap (room1 hu) (isKey N hk) H ?_)
  cases hf : atKey xs (kl k) with
  | some p =>
    rw [hf] at e
    rw [← e] at h
    show wpAny _ _ (ret (.bool true)) _ _ _
    exact wpAny_pure ⟨_, rfl, wpAny_truthy_bool (h _)⟩
  | none =>
    rw [hf] at e
    rw [← e] at h
    show wpAny _ _ (Builtin.Dict.pendingKey? d (.ref ka) >>= _) _ _ _
    exact wpAny_bind (wpAny_pendingKey_other lo (wpAny_pure ⟨_, rfl, wpAny_truthy_bool (h _)⟩))
theorem rows_notIn {Q : Value → Shared → Prop} {b : Bool} (N : News h₀ L s.heap news) (hdb : DbIs w news d D) (hk : DatIn news (.ref ka) (keyD k)) (hu : A.units + 64 < cLine) (hb : (!(rowAt D k).isSome) = b)
    (h : ∀ tk, Q (.bool b) { s with toks := tk }) : wpAny (model PR w) A (compareOp .NotIn (.ref ka) (.ref d)) Q E s := by
  subst hb
  show wpAny _ _ (do return .bool (!(← contains (.ref d) (.ref ka)))) Q E s
  exact wpAny_bind (rows_contains N hdb hk hu fun tk => wpAny_pure (h tk))
theorem rows_item {value slice : PySem.Expr} {r : Rw} {Q : Value → Shared → Prop} (N : News h₀ L s.heap news) (hdb : DbIs w news d D) (hk : DatIn news (.ref ka) (keyD k)) (hu : A.units + 64 < cLine) (hr : rowAt D k = some r)
    (h : ∀ v tk, DatIn news v (rvD r) → Q v { s with toks := tk })
    (hs : subscripted slice false (.ref d) (.ref ka) = operate [.ref d, .ref ka] (getItem (.ref d) (.ref ka))) (hg : ∀ r, letTemporaryGo value (.ref d) r = pure ()) :
    wpAny (model PR w) A (subscriptTail value slice (.ref d) (.ref ka)) Q E s := by
  obtain ⟨xs, n, hm, hx, hn, _, lo⟩ := hdb
  have H := dictOfH N hm hx hn
  obtain ⟨a, v, e, hv⟩ := hx.at_some hr
  exact subscriptTail_builtin H.typeIs slot_dict_getitem.lookup (wpAny_getItem_heap (p := (a, v)) (room1 hu) (isKey N hk) H e (h v _ hv)) hs hg
end
end
section
theorem map_erase {α β : Type} (f : α → β) : ∀ (l : List α) (j : Nat), (l.map f).eraseIdx j = (l.eraseIdx j).map f
  | [], _ => rfl
  | _ :: _, 0 => rfl
  | a :: l, j + 1 => by simp only [List.map_cons, List.eraseIdx_cons_succ, map_erase f l j]
theorem XsAre.put {news : Led} {xs D} (hx : XsAre news xs D) {r : Rw} {ka : Addr} {v : Value} (hk : DatIn news (.ref ka) (keyD r.1.key)) (hv : DatIn news v (rvD r)) : XsAre news (storedH xs (kl r.1.key) ka v) (putRow D r) := by
  have hmap : ∀ {xs D}, XsAre news xs D → XsAre news (xs.map (putAt (kl r.1.key) v)) (D.map (fun q => if q.1.key = r.1.key then r else q)) := by
    intro xs D h
    induction h with
    | nil => exact .nil
    | @cons ka' v' q xs D a b c ih =>
      rw [List.map_cons, List.map_cons]
      by_cases e : q.1.key = r.1.key
      · rw [if_pos e]
        have : putAt (kl r.1.key) v (kl q.1.key, ka', v') = (kl r.1.key, ka', v) := by unfold putAt; rw [if_pos (by rw [e])]; rw [e]
        rw [this]
        exact .cons (by rw [← e]; exact a) hv ih
      · rw [if_neg e]
        have : putAt (kl r.1.key) v (kl q.1.key, ka', v') = (kl q.1.key, ka', v') := by unfold putAt; rw [if_neg (fun h => e (kl_inj h))]
        rw [this]
        exact .cons a b ih
  have happ : ∀ {xs D}, XsAre news xs D → XsAre news (xs ++ [(kl r.1.key, ka, v)]) (D ++ [r]) := by
    intro xs D h
    induction h with
    | nil => exact .cons hk hv .nil
    | cons a b c ih => exact .cons a b ih
  cases h : rowAt D r.1.key with
  | none =>
    rw [storedH_new (hx.at_none h)]
    unfold putRow
    rw [h]
    exact happ hx
  | some q =>
    obtain ⟨a, b, e, _⟩ := hx.at_some h
    rw [storedH_old e]
    unfold putRow
    rw [h]
    exact hmap hx
/-- the entry at j is struck -/
theorem XsAre.erase {news : Led} : ∀ {xs D}, XsAre news xs D → ∀ {j : Nat} {k : Key} {p : Addr × Value}, (xs.map (·.1)).Nodup → xs[j]? = some (kl k, p) → XsAre news (xs.eraseIdx j) (dropRow D k) ∧ ∃ r, rowAt D k = some r ∧ DatIn news p.2 (rvD r)
  | _, _, .nil, j, _, _, _, h => by simp at h
  | _, _, @XsAre.cons _ ka v q xs D a b c, 0, k, p, hn, h => by
    have e : (kl q.1.key, ka, v) = (kl k, p) := by simpa using h
    have ek : q.1.key = k := kl_inj (congrArg (·.1) e)
    have ep : (ka, v) = p := congrArg (·.2) e
    subst ep
    have hnk : k ∉ keysOf D := by
      intro hm
      rw [List.map_cons, List.nodup_cons] at hn
      refine hn.1 ?_
      rw [c.keys]
      exact List.mem_map.mpr ⟨k, hm, by rw [ek]⟩
    have hd : dropRow (q :: D) k = D := by
      unfold dropRow
      rw [List.filter_cons_of_neg (by simp [ek])]
      refine List.filter_eq_self.mpr fun r hr => ?_
      have : ¬ r.1.key = k := fun e => hnk (List.mem_map.mpr ⟨r, hr, e⟩)
      simp [this]
    rw [hd]
    exact ⟨c, q, by simp [rowAt, ek], b⟩
  | _, _, @XsAre.cons _ ka v q xs D a b c, j + 1, k, p, hn, h => by
    rw [List.map_cons, List.nodup_cons] at hn
    have h' : xs[j]? = some (kl k, p) := by simpa using h
    obtain ⟨c', r, hr, hb⟩ := c.erase hn.2 h'
    have hne : ¬ q.1.key = k := by
      intro e
      refine hn.1 ?_
      rw [e]
      exact List.mem_map.mpr ⟨_, List.mem_of_getElem? h', rfl⟩
    refine ⟨?_, r, ?_, hb⟩
    · unfold dropRow
      rw [List.filter_cons_of_pos (by simp [hne]), List.eraseIdx_cons_succ]
      exact .cons a b c'
    · unfold rowAt
      rw [List.find?_cons]
      have : (q.1.key == k) = false := by simp [hne]
      rw [this]
      exact hr
section
variable {w : World} {A : Around} {E : Value → Shared → Prop} {s : Shared} {h₀ : Heap} {L : Addr} {m : Str → Option Value} {news : Led} {d ka : Addr} {D : List Rw} {k : Key}
/-- the ledger with the dict of rows d turned -/
theorem rows_turn {h h' : Heap} {xs n xs' n'} {D' : List Rw} (F : Fr h₀ L h m) (N : News h₀ L h news) (hm : (d, rowsO w xs n) ∈ news) (hs : Heap.SameBut d h h') (ho : h'.get? d = some (rowsO w xs' n')) (hx : XsAre news xs' D') (hn : (keysOf D').Nodup) (hk : ∀ k ∈ keysOf D', k ∈ allKeys) (lo : (d == sysModules) = false) :
    Fr h₀ L h' m ∧ ∃ news', News h₀ L h' news' ∧ Ext [] [d] news news' ∧ DbIs w news' d D' := by
  have hmd := N _ hm
  refine ⟨F.change hs hmd.2.1 hmd.2.2, news.map (fun p => if p.1 = d then (d, rowsO w xs' n') else p), N.update hm hs ho, ?_⟩
  have kept : ∀ p ∈ news, p.1 ≠ d → p ∈ news.map (fun p => if p.1 = d then (d, rowsO w xs' n') else p) := fun p hp hne => List.mem_map.mpr ⟨p, hp, by rw [if_neg hne]⟩
  have e := Ext.rows N hm kept
  exact ⟨e, xs', n', List.mem_map.mpr ⟨_, hm, by simp⟩, hx.up e.tup, hn, hk, lo⟩
theorem rows_set {v : Value} {r : Rw} {Q : Unit → Shared → Prop} (F : Fr h₀ L s.heap m) (N : News h₀ L s.heap news) (hdb : DbIs w news d D) (hk : DatIn news (.ref ka) (keyD r.1.key)) (hv : DatIn news v (rvD r)) (hr : r.1.key ∈ allKeys) (hu : A.units + 64 < cLine)
    (h : ∀ h' news' tk, Fr h₀ L h' m → News h₀ L h' news' → Ext [] [d] news news' → DbIs w news' d (putRow D r) → Q () { s with heap := h', toks := tk }) :
    wpAny (model PR w) A (setItem (.ref d) (.ref ka) v) Q E s := by
  obtain ⟨xs, n, hm, hx, hn, ha, lo⟩ := hdb
  have H := dictOfH N hm hx hn
  refine wpAny_setItem_heap (room1 hu) (isKey N hk) H (fun h' H' hs => ?_) (by have := rows_le hn ha; rw [hx.length, sizeLine_eq]; omega)
  obtain ⟨⟨c, dd, data, sl⟩, es, ep, ho, ⟨e1, e2, e3⟩, hd, he, _, _⟩ := H'
  simp only at e1 e2 e3 hd
  subst e1 e2 e3 hd
  have ho' : h'.get? d = some (rowsO w (storedH xs (kl r.1.key) ka v) ep) := by
    rw [ho]
    obtain ⟨l⟩ := es
    have he' : l = (storedH xs (kl r.1.key) ka v).map (entryOfKey (TK w)) := by simpa using he
    rw [he']
  obtain ⟨F', news', N', e', D'⟩ := rows_turn F N hm hs ho' (hx.put hk hv) (nodup_put hn) (all_put ha hr) lo
  exact h h' news' _ F' N' e' D'
theorem rows_pop_none {v : Value} {Q : Value → Shared → Prop} (N : News h₀ L s.heap news) (hdb : DbIs w news d D) (hk : DatIn news (.ref ka) (keyD k)) (hr : rowAt D k = none) (hu : A.units + 64 < cLine)
    (h : ∀ tk, Q v { s with toks := tk }) : wpAny (model PR w) A (call (.builtin "dict.pop") [.ref d, .ref ka, v]) Q E s := by
  obtain ⟨xs, n, hm, hx, hn, ha, lo⟩ := hdb
  have H := dictOfH N hm hx hn
  have M : MeetsIn PR w (Builtin.«dict.pop» ⟨[.ref d, .ref ka, v], []⟩) (fun A R s' => s' = s ∧ A.units + 63 < cLine ∧ ∀ tk, R (.ok (.ret v)) { s with toks := tk }) := by
    refine .of_wp ?_
    rintro A' R s' ⟨rfl, hu', h'⟩
    unfold Builtin.«dict.pop»
    refine wpAny_bind ?_
    unfold Builtin.Dict.keyAndDefault
    refine wpAny_bind (wpAny_notOrdered_dict H.typeIs ?_)
    show wpAny _ _ (pure (d, Value.ref ka, some v)) _ _ s'
    refine wpAny_pure ?_
    simp only [keyPart, Option.isSome_none, Bool.false_eq_true, if_false]
    refine wpAny_bind (wpAny_dictEntries (N.get hm) rfl (wpAny_bind (wpAny_pure ?_)))
    have he : ((xs.map (entryOfKey (TK w))).toArray).isEmpty = xs.isEmpty := by cases xs <;> rfl
    rw [he]
    cases hxe : xs.isEmpty with
    | true =>
      simp only [if_true]
      refine wpAny_bind (wpAny_rule (wpAny_bind (wpAny_pure ?_)))
      simp only [Option.isNone_none, if_true]
      refine wpAny_bind (wpAny_missedRemoval_other lo ?_)
      exact wpAny_bind (wpAny_rule (wpAny_pure ⟨v, rfl, h' _⟩))
    | false =>
      simp only [Bool.false_eq_true, if_false]
      refine wpAny_bind ?_
      unfold Builtin.Dict.takeOut
      try with_reducible refine wpAny_holding ?_
      obtain ⟨o, es, ep, ho, hc, hd, he', his, hn'⟩ := id H
      refine wpAny_bind ((TK w).pyHash (A := A'.in1) (show A'.units + 1 < cLine by omega) (isKey N hk) (wpAny_bind (wpAny_dictFind_heap (s := { s' with toks := _ }) (knd := TK w) (A := A'.in1) (show A'.units + 1 < cLine by omega) (isKey N hk) ho hd he' his hn' ?_ ?_)))
      · intro hno
        refine wpAny_pure ?_
        simp only [Option.isNone_none, if_true]
        refine wpAny_bind (wpAny_missedRemoval_other lo ?_)
        exact wpAny_bind (wpAny_rule (wpAny_pure ⟨v, rfl, h' _⟩))
      · intro j p hj
        have := atKey_of_get hn' hj
        rw [hx.at_none hr] at this
        cases this
  exact call_meetsIn PySem.F.slot_dict_pop H.typeIs PySem.F.entry_dict_pop (PySem.F.args_dict_pop_3 _ _ _) M ⟨rfl, by omega, h⟩
theorem rows_pop_some {v : Value} {r : Rw} {Q : Value → Shared → Prop} (F : Fr h₀ L s.heap m) (N : News h₀ L s.heap news) (hdb : DbIs w news d D) (hk : DatIn news (.ref ka) (keyD k)) (hr : rowAt D k = some r) (hu : A.units + 64 < cLine)
    (h : ∀ x h' news' tk, Fr h₀ L h' m → News h₀ L h' news' → Ext [] [d] news news' → DbIs w news' d (dropRow D k) → DatIn news' x (rvD r) → Q x { s with heap := h', toks := tk }) : wpAny (model PR w) A (call (.builtin "dict.pop") [.ref d, .ref ka, v]) Q E s := by
  obtain ⟨xs, n, hm, hx, hn, ha, lo⟩ := hdb
  have H := dictOfH N hm hx hn
  have hne : xs ≠ [] := by
    rintro rfl
    cases hx
    cases hr
  have M : MeetsIn PR w (Builtin.«dict.pop» ⟨[.ref d, .ref ka, v], []⟩) (fun A R s' => s' = s ∧ A.units + 63 < cLine ∧ ∀ x h' news' tk, Fr h₀ L h' m → News h₀ L h' news' → Ext [] [d] news news' → DbIs w news' d (dropRow D k) → DatIn news' x (rvD r) → R (.ok (.ret x)) { s with heap := h', toks := tk }) := by
    refine .of_wp ?_
    rintro A' R s' ⟨rfl, hu', h'⟩
    unfold Builtin.«dict.pop»
    refine wpAny_bind ?_
    unfold Builtin.Dict.keyAndDefault
    refine wpAny_bind (wpAny_notOrdered_dict H.typeIs ?_)
    show wpAny _ _ (pure (d, Value.ref ka, some v)) _ _ s'
    refine wpAny_pure ?_
    simp only [keyPart, Option.isSome_none, Bool.false_eq_true, if_false]
    refine wpAny_bind (wpAny_dictEntries (N.get hm) rfl (wpAny_bind (wpAny_pure ?_)))
    have he : ((xs.map (entryOfKey (TK w))).toArray).isEmpty = false := by cases xs with
      | nil => exact absurd rfl hne
      | cons _ _ => rfl
    rw [he]
    simp only [Bool.false_eq_true, if_false]
    refine wpAny_bind ?_
    unfold Builtin.Dict.takeOut
    try with_reducible refine wpAny_holding ?_
    obtain ⟨_, _, _, _, _, _, _, his, hn'⟩ := id H
    refine wpAny_bind ((TK w).pyHash (A := A'.in1) (show A'.units + 1 < cLine by omega) (isKey N hk) (wpAny_bind (wpAny_dictFind_heap (s := { s' with toks := _ }) (knd := TK w) (A := A'.in1) (show A'.units + 1 < cLine by omega) (isKey N hk) (N.get hm) rfl (by simp) his hn' ?_ ?_)))
    · intro hno
      exfalso
      have := atKey_none_of_get hno
      obtain ⟨a, b, e, _⟩ := hx.at_some hr
      rw [e] at this
      cases this
    · intro j p hj
      have hj' : ((xs.map (entryOfKey (TK w))).toArray)[j]? = some (entryOfKey (TK w) (kl k, p)) := by simp [hj]
      refine wpAny_bind (wpAny_dictEntries (s := { s' with toks := _ }) (N.get hm) rfl ?_)
      rw [hj']
      have hsz : ((xs.map (entryOfKey (TK w))).toArray).size ≤ sizeLine := by
        have := rows_le hn ha
        rw [List.size_toArray, List.length_map, hx.length, sizeLine_eq]; omega
      refine wpAny_bind (wpAny_updateDictKeys (hz := hsz) (hf := by (have := List.length_eraseIdx_le (xs.map (entryOfKey (TK w))) j); simp only [List.eraseIdxIfInBounds_toArray, List.size_toArray]; omega) (s := { s' with toks := _ }) (N.get hm) rfl (wpAny_pure ?_))
      simp only [Option.isNone_some, Bool.false_eq_true, if_false]
      refine wpAny_bind (wpAny_letGo (wpAny_pure ⟨_, rfl, ?_⟩))
      obtain ⟨hx', q, hq, hv⟩ := hx.erase (k := k) (hx.nodup hn) hj
      rw [hr] at hq
      cases hq
      have ho' : (s'.heap.update d (Obj.mapDictKeys (·.eraseIdxIfInBounds j))).get? d = some (rowsO w (xs.eraseIdx j) (n + 1)) := by
        rw [Heap.get?_update_self _ (N.get hm) rfl]
        show some ({ cls := .type "dict", data := .dict ((xs.map (entryOfKey (TK w))).toArray.eraseIdxIfInBounds j) (n + 1) } : Obj) = _
        rw [List.eraseIdxIfInBounds_toArray, map_erase]
      obtain ⟨F', news', N', e', D'⟩ := rows_turn F N hm (Heap.SameBut.update ..) ho' hx' ((keys_drop).nodup hn) (fun y hy => ha y (keys_drop.subset hy)) lo
      exact h' _ _ news' _ F' N' e' D' (e'.dat hv rfl)
  exact call_meetsIn PySem.F.slot_dict_pop H.typeIs PySem.F.entry_dict_pop (PySem.F.args_dict_pop_3 _ _ _) M ⟨rfl, by omega, h⟩
end
end
section
section sorting
variable (f : Nat → Int) (n : Nat)
/-- asking as ranks answer -/
def askR (i j : Nat) (C : Bool → Shared → Prop) (s : Shared) : Prop := i < n ∧ j < n ∧ C (decide (f i < f j)) s
variable {f n}
def KR (f : Nat → Int) (p : Array Nat) (i : Nat) : Int := f (p.getD i 0)
def SortR (f : Nat → Int) (p : Array Nat) (k : Nat) : Prop := ∀ i j, i < j → j < k → KR f p i < KR f p j
def DecR (f : Nat → Int) (p : Array Nat) (k : Nat) : Prop := ∀ i j, i < j → j < k → KR f p j < KR f p i
structure PermR (n : Nat) (p : Array Nat) : Prop where
  perm : p.toList.Perm (List.range n)
theorem PermR.size {p : Array Nat} (h : PermR n p) : p.size = n := by have := h.perm.length_eq; simpa using this
theorem PermR.lt {p : Array Nat} (h : PermR n p) {i : Nat} (hi : i < n) : p.getD i 0 < n := by
  have hs : i < p.size := by rw [h.size]; exact hi
  have hm : p.getD i 0 ∈ p.toList := by simp [Array.getD, hs]
  simpa using h.perm.mem_iff.mp hm
theorem PermR.inj {p : Array Nat} (h : PermR n p) {i j : Nat} (hi : i < n) (hj : j < n) (e : p.getD i 0 = p.getD j 0) : i = j := by
  have hn : p.toList.Nodup := h.perm.nodup_iff.mpr List.nodup_range
  have hi' : i < p.toList.length := by simpa [h.size] using hi
  have hj' : j < p.toList.length := by simpa [h.size] using hj
  have ei : p.getD i 0 = p.toList[i] := by simp [Array.getD, h.size, hi]
  have ej : p.getD j 0 = p.toList[j] := by simp [Array.getD, h.size, hj]
  rw [ei, ej] at e
  refine (List.getElem?_inj hi' hn).mp ?_
  rw [List.getElem?_eq_getElem hi', List.getElem?_eq_getElem hj', e]
theorem PermR.ne {p : Array Nat} (h : PermR n p) (hf : ∀ i j, i < n → j < n → f i = f j → i = j) {i j : Nat} (hi : i < n) (hj : j < n) (hij : i ≠ j) : KR f p i ≠ KR f p j :=
  fun e => hij (h.inj hi hj (hf _ _ (h.lt hi) (h.lt hj) e))
theorem KR_congr {p q : Array Nat} {i j : Nat} (h : p[i]? = q[j]?) : KR f p i = KR f q j := by
  unfold KR
  rw [Array.getD_eq_getD_getElem?, Array.getD_eq_getD_getElem?, h]
theorem PermR.mirror {p : Array Nat} (h : PermR n p) (i j d : Nat) : PermR n (mirror p i j d) := ⟨(Array.perm_iff_toList_perm.mp (mirror_perm p i j d)).trans h.perm⟩
theorem PermR.bubble {p : Array Nat} (h : PermR n p) (i d : Nat) : PermR n (bubble p i d) := ⟨(Array.perm_iff_toList_perm.mp (bubble_perm p i d)).trans h.perm⟩
theorem SortR.snoc {p : Array Nat} {k : Nat} (h : SortR f p k) (hk : 1 ≤ k) (hlt : KR f p (k - 1) < KR f p k) : SortR f p (k + 1) := by
  intro i j hij hj
  by_cases hjk : j < k
  · exact h i j hij hjk
  · have : j = k := by omega
    subst this
    by_cases hi : i = j - 1
    · rw [hi]; exact hlt
    · have := h i (j - 1) (by omega) (by omega)
      omega
theorem DecR.snoc {p : Array Nat} {k : Nat} (h : DecR f p k) (hk : 1 ≤ k) (hlt : KR f p k < KR f p (k - 1)) : DecR f p (k + 1) := by
  intro i j hij hj
  by_cases hjk : j < k
  · exact h i j hij hjk
  · have : j = k := by omega
    subst this
    by_cases hi : i = j - 1
    · rw [hi]; exact hlt
    · have := h i (j - 1) (by omega) (by omega)
      omega
variable {s : Shared}
theorem askR_asc (hf : ∀ i j, i < n → j < n → f i = f j → i = j) {p : Array Nat} (hp : PermR n p) {Q : Nat → Shared → Prop} : ∀ (g k : Nat), 1 ≤ k → k + g = n → SortR f p k → (∀ r, k ≤ r → r ≤ n → SortR f p r → (r < n → KR f p r < KR f p (r - 1)) → Q r s) → (kas_asc p g k).kasWp (askR f n) Q s
  | 0, k, h1, hk, hs, hq => hq k (Nat.le_refl _) (by omega) hs (fun h => by omega)
  | g + 1, k, h1, hk, hs, hq => by
    refine ⟨hp.lt (by omega), hp.lt (by omega), ?_⟩
    by_cases hlt : KR f p k < KR f p (k - 1)
    · have : decide (f (p.getD k 0) < f (p.getD (k - 1) 0)) = true := decide_eq_true hlt
      rw [this]
      exact hq k (Nat.le_refl _) (by omega) hs fun _ => hlt
    · have : decide (f (p.getD k 0) < f (p.getD (k - 1) 0)) = false := decide_eq_false hlt
      rw [this]
      have hne := hp.ne hf (i := k) (j := k - 1) (by omega) (by omega) (by omega)
      exact askR_asc hf hp g (k + 1) (by omega) (by omega) (hs.snoc h1 (by omega)) fun r hr hn hs' hl => hq r (by omega) hn hs' hl
theorem askR_desc (hf : ∀ i j, i < n → j < n → f i = f j → i = j) {p : Array Nat} (hp : PermR n p) {Q : Array Nat × Nat × Nat → Shared → Prop} : ∀ (g k : Nat), 1 ≤ k → k + g = n → DecR f p k → (∀ r, k ≤ r → r ≤ n → DecR f p r → Q (p, r, 0) s) → (kas_desc g p k 0).kasWp (askR f n) Q s
  | 0, k, h1, hk, hs, hq => hq k (Nat.le_refl _) (by omega) hs
  | g + 1, k, h1, hk, hs, hq => by
    refine ⟨hp.lt (by omega), hp.lt (by omega), ?_⟩
    have hne := hp.ne hf (i := k) (j := k - 1) (by omega) (by omega) (by omega)
    by_cases hlt : KR f p k < KR f p (k - 1)
    · have : decide (f (p.getD k 0) < f (p.getD (k - 1) 0)) = true := decide_eq_true hlt
      rw [this]
      exact askR_desc hf hp g (k + 1) (by omega) (by omega) (hs.snoc h1 hlt) fun r hr hn hs' => hq r (by omega) hn hs'
    · have : decide (f (p.getD k 0) < f (p.getD (k - 1) 0)) = false := decide_eq_false hlt
      rw [this]
      refine ⟨hp.lt (by omega), hp.lt (by omega), ?_⟩
      have : decide (f (p.getD (k - 1) 0) < f (p.getD k 0)) = true := decide_eq_true (by have : KR f p (k - 1) < KR f p k := by omega
                                                                                         exact this)
      rw [this]
      exact hq k (Nat.le_refl _) (by omega) hs
theorem KR_rev {p : Array Nat} {k i : Nat} (hk : k ≤ p.size) (hi : i < k) : KR f (kas_rev p 0 k) i = KR f p (k - 1 - i) := by
  have := getElem?_mirror_all (xs := p) (i := 0) (j := k) hk i
  rw [if_pos ⟨Nat.zero_le _, hi⟩] at this
  refine KR_congr (this.trans ?_)
  congr 1; omega
theorem DecR.rev {p : Array Nat} {k : Nat} (hk : k ≤ p.size) (h : DecR f p k) : SortR f (kas_rev p 0 k) k := by
  intro i j hij hj
  rw [KR_rev hk (by omega), KR_rev hk hj]
  exact h _ _ (by omega) (by omega)
theorem askR_tail3 (hf : ∀ i j, i < n → j < n → f i = f j → i = j) {p : Array Nat} (hp : PermR n p) {Q : Nat × Array Nat → Shared → Prop} {k : Nat} (h1 : 1 ≤ k) (hk : k ≤ n) (hd : DecR f p k)
    (hq : ∀ r q, 1 ≤ r → r ≤ n → PermR n q → SortR f q r → Q (r, q) s) : (kas_tail3 k n p).kasWp (askR f n) Q s := by
  unfold kas_tail3
  rw [KasT.kasWp_bind]
  have hp' : PermR n (kas_rev p 0 k) := hp.mirror _ _ _
  exact askR_asc hf hp' (n - k) k h1 (by omega) (hd.rev (by rw [hp.size]; exact hk)) fun r hr hn hs _ => hq r _ (by omega) hn hp' hs
theorem askR_descPart (hf : ∀ i j, i < n → j < n → f i = f j → i = j) {p : Array Nat} (hp : PermR n p) {Q : Nat × Array Nat → Shared → Prop} {k : Nat} (h1 : 1 ≤ k) (hk : k + 1 ≤ n) (hd : DecR f p (k + 1))
    (hq : ∀ r q, 1 ≤ r → r ≤ n → PermR n q → SortR f q r → Q (r, q) s) : (kas_descPart k n p).kasWp (askR f n) Q s := by
  unfold kas_descPart
  rw [KasT.kasWp_bind]
  refine askR_desc hf hp (n - (k + 1)) (k + 1) (by omega) (by omega) hd fun r hr hn hs => ?_
  show (if (0 : Nat) > 0 then _ else kas_tail3 r n p).kasWp (askR f n) Q s
  rw [if_neg (Nat.lt_irrefl 0)]
  exact askR_tail3 hf hp (by omega) hn hs hq
theorem askR_count (hf : ∀ i j, i < n → j < n → f i = f j → i = j) {p : Array Nat} (hp : PermR n p) {Q : Nat × Array Nat → Shared → Prop} (h1 : 1 ≤ n)
    (hq : ∀ r q, 1 ≤ r → r ≤ n → PermR n q → SortR f q r → Q (r, q) s) : (kas_count n p).kasWp (askR f n) Q s := by
  unfold kas_count
  rw [KasT.kasWp_bind]
  refine askR_asc hf hp (n - 1) 1 (Nat.le_refl _) (by omega) (fun i j hij hj => by omega) fun r hr hn hs hl => ?_
  by_cases hrn : r = n
  · rw [if_pos (by simp [hrn])]
    exact hq r p hr hn hp hs
  · rw [if_neg (by simp [hrn])]
    by_cases hr1 : r > 1
    · rw [if_pos hr1]
      refine ⟨hp.lt (by omega), hp.lt (by omega), ?_⟩
      have : decide (f (p.getD 0 0) < f (p.getD (r - 1) 0)) = true := decide_eq_true (hs 0 (r - 1) (by omega) (by omega))
      rw [this]
      exact hq r p hr hn hp hs
    · rw [if_neg hr1]
      have : r = 1 := by omega
      subst this
      refine askR_descPart hf hp (Nat.le_refl _) (by omega) ?_ hq
      intro i j hij hj
      have e1 : i = 0 := by omega
      have e2 : j = 1 := by omega
      subst e1 e2
      exact hl (by omega)
theorem askR_place (hf : ∀ i j, i < n → j < n → f i = f j → i = j) {p : Array Nat} (hp : PermR n p) {k : Nat} (hk : k < n) (hs : SortR f p k) {Q : Nat → Shared → Prop} : ∀ (g l r : Nat), r ≤ l + g → l ≤ r → r ≤ k →
    (∀ i, i < l → KR f p i < KR f p k) → (∀ i, r ≤ i → i < k → KR f p k < KR f p i) → (∀ x, x ≤ k → (∀ i, i < x → KR f p i < KR f p k) → (∀ i, x ≤ i → i < k → KR f p k < KR f p i) → Q x s) → (kas_place p k g l r).kasWp (askR f n) Q s
  | 0, l, r, hg, hlr, hr, h1, h2, hq => hq l (by omega) h1 (fun i hi hik => h2 i (by omega) hik)
  | g + 1, l, r, hg, hlr, hr, h1, h2, hq => by
    show (if l ≥ r then KasT.ret l else _).kasWp (askR f n) Q s
    by_cases hge : l ≥ r
    · rw [if_pos hge]
      exact hq l (by omega) h1 (fun i hi hik => h2 i (by omega) hik)
    · rw [if_neg hge]
      refine ⟨hp.lt hk, hp.lt (by omega), ?_⟩
      have hne := hp.ne hf (i := k) (j := (l + r) / 2) hk (by omega) (by omega)
      by_cases hlt : KR f p k < KR f p ((l + r) / 2)
      · have : decide (f (p.getD k 0) < f (p.getD ((l + r) / 2) 0)) = true := decide_eq_true hlt
        rw [this]
        refine askR_place hf hp hk hs g l ((l + r) / 2) (by omega) (by omega) (by omega) h1 (fun i hi hik => ?_) hq
        by_cases e : i = (l + r) / 2
        · rw [e]; exact hlt
        · have := hs ((l + r) / 2) i (by omega) hik
          omega
      · have : decide (f (p.getD k 0) < f (p.getD ((l + r) / 2) 0)) = false := decide_eq_false hlt
        rw [this]
        refine askR_place hf hp hk hs g ((l + r) / 2 + 1) r (by omega) (by omega) (by omega) (fun i hi => ?_) h2 hq
        by_cases e : i = (l + r) / 2
        · rw [e]; omega
        · have := hs i ((l + r) / 2) (by omega) (by omega)
          omega
theorem KR_bubble {p : Array Nat} {src d : Nat} (hs : src < p.size) (hd : d ≤ src) (k : Nat) :
    KR f (bubble p src d) k = if k = src - d then KR f p src else if src - d < k ∧ k ≤ src then KR f p (k - 1) else KR f p k := by
  have e := getElem?_bubble hs d hd k
  by_cases h1 : k = src - d
  · rw [if_pos h1] at e ⊢; exact KR_congr e
  · rw [if_neg h1] at e ⊢
    by_cases h2 : src - d < k ∧ k ≤ src
    · rw [if_pos h2] at e ⊢; exact KR_congr e
    · rw [if_neg h2] at e ⊢; exact KR_congr e
theorem askR_bin (hf : ∀ i j, i < n → j < n → f i = f j → i = j) {Q : Array Nat → Shared → Prop} : ∀ (g k : Nat) (p : Array Nat), PermR n p → 1 ≤ k → k + g = n → SortR f p k → (∀ q, PermR n q → SortR f q n → Q q s) → (kas_bin g p k).kasWp (askR f n) Q s
  | 0, k, p, hp, h1, hk, hs, hq => hq p hp (by rw [show n = k by omega]; exact hs)
  | g + 1, k, p, hp, h1, hk, hs, hq => by
    show ((kas_place p k k 0 k).bind fun l => kas_bin g (bubble p k (k - l)) (k + 1)).kasWp (askR f n) Q s
    rw [KasT.kasWp_bind]
    refine askR_place hf hp (by omega) hs k 0 k (by omega) (by omega) (Nat.le_refl _) (fun i hi => by omega) (fun i hi hik => by omega) fun x hx ha hb => ?_
    refine askR_bin hf g (k + 1) _ (hp.bubble _ _) (by omega) (by omega) ?_ hq
    have hsz : k < p.size := by rw [hp.size]; omega
    intro i j hij hj
    rw [KR_bubble hsz (by omega), KR_bubble hsz (by omega)]
    have e : k - (k - x) = x := by omega
    rw [e]
    by_cases hi : i = x
    · rw [if_pos hi, if_neg (by omega), if_pos ⟨by omega, by omega⟩]
      exact hb _ (by omega) (by omega)
    · rw [if_neg hi]
      by_cases hi2 : x < i ∧ i ≤ k
      · rw [if_pos hi2, if_neg (by omega), if_pos ⟨by omega, by omega⟩]
        exact hs _ _ (by omega) (by omega)
      · rw [if_neg hi2]
        by_cases hjx : j = x
        · rw [if_pos hjx]
          exact ha i (by omega)
        · rw [if_neg hjx]
          by_cases hj2 : x < j ∧ j ≤ k
          · rw [if_pos hj2]
            by_cases hix : i < j - 1
            · exact hs _ _ hix (by omega)
            · omega
          · rw [if_neg hj2]
            exact hs _ _ hij (by omega)
theorem askR_sort (hf : ∀ i j, i < n → j < n → f i = f j → i = j) (h1 : 1 ≤ n) {Q : Array Nat → Shared → Prop} (hq : ∀ q, PermR n q → SortR f q n → Q q s) : (kas_sort n).kasWp (askR f n) Q s := by
  unfold kas_sort
  rw [KasT.kasWp_bind]
  have hp0 : PermR n (List.toArray (List.range n)) := ⟨List.Perm.refl _⟩
  refine askR_count hf hp0 h1 fun r q hr hn hp hs => ?_
  by_cases hlt : r < n
  · show (if r < n then kas_bin (n - max r 1) q (max r 1) else KasT.ret q).kasWp (askR f n) Q s
    rw [if_pos hlt, Nat.max_eq_left hr]
    exact askR_bin hf (n - r) r q hp hr (by omega) hs hq
  · show (if r < n then kas_bin (n - max r 1) q (max r 1) else KasT.ret q).kasWp (askR f n) Q s
    rw [if_neg hlt]
    exact hq q hp (by rw [show n = r by omega]; exact hs)
end sorting
end
section
section raw
variable {prog : Program} {w : World} {A : Around} {E : Value → Shared → Prop} {s : Shared} {I d : Addr} {es : List DictEntry} {i ep : Nat}
abbrev RawD (h : Heap) (d : Addr) (es : List DictEntry) (ep : Nat) : Prop := h.get? d = some (dictOf es ep)
theorem raw_type (hm : RawD s.heap d es ep) : s.TypeIs (.ref d) "dict" := ⟨_, hm, rfl⟩
theorem raw_iter {Q : Value → Shared → Prop} (lo : (d == sysModules) = false) (hm : RawD s.heap d es ep)
    (hQ : Q (.ref s.heap.objs.size) { s with heap := s.heap.push { cls := .type "dict_keyiterator", data := .fields #[.ref d, .int 0 0, .int es.length 0, .int ep 0] } }) :
    wpAny (model prog w) A (pyIter (.ref d)) Q E s := by
  have hT := raw_type hm
  refine wpAny_pyIter_slot hT PySem.F.slot_dict_iter (wpAny_call_entry PySem.F.slot_dict_iter hT PySem.F.entry_dict_iter ?_ (PySem.F.args_dict_iter_1 _))
  unfold Builtin.«dict.__iter__»
  refine wpAny_bind ?_
  unfold Builtin.Dict.dictSlotNone
  refine wpAny_bind (wpAny_notOrdered_dict hT ?_)
  show wpAny _ _ (pure (Value.ref d)) _ _ s
  refine wpAny_pure ?_
  show wpAny _ _ (Builtin.Dict.showsAll d >>= _) _ _ s
  unfold Builtin.Dict.showsAll
  rw [if_neg (by rw [lo]; exact Bool.false_ne_true)]
  refine wpAny_bind (wpAny_pure ?_)
  refine wpAny_bind (wpAny_dictEntries hm rfl ?_)
  refine wpAny_bind (wpAny_dictEpoch hm rfl ?_)
  refine wpAny_bind (wpAny_newObj_type (wpAny_pure ⟨_, rfl, "dict_keyiterator", _, ⟨_, Heap.get?_push_size _ rfl, rfl⟩, PySem.F.slot_dict_keyiterator_next.lookup, ?_⟩))
  simpa [rawInt] using hQ
/-- the iterator's step: the entry at i, or the end -/
theorem raw_next {Q : Option Value → Shared → Prop} (hh : A.handled = none) (hit : s.heap.IsKeyIter I d i es.length ep) (hm : RawD s.heap d es ep)
    (item : ∀ e h', es[i]? = some e → h'.IsKeyIter I d (i + 1) es.length ep → Heap.SameBut I s.heap h' → Q (some e.key) { s with heap := h' })
    (done : es[i]? = none → ∀ h', Heap.ExtBut I s.heap h' → Q none { s with heap := h' }) :
    wpAny (model prog w) A (pyNext (.ref I)) Q E s := by
  obtain ⟨o, ho, hc, hd⟩ := id hit
  unfold pyNext
  refine wpAny_bind (wpAny_attempt (wpAny_callSpecial?_slot (name := Str.ofString "__next__") hit.typeIs PySem.F.slot_dict_keyiterator_next
    (wpAny_call_entry PySem.F.slot_dict_keyiterator_next hit.typeIs PySem.F.entry_dict_keyiterator_next ?_ (PySem.F.args_dict_keyiterator_next_1 _))))
  refine wpAny_bind (wpAny_pure ?_)
  refine wpAny_bind ?_
  refine wpAny_bind ?_
  refine wpAny_bind (wpAny_typeNameOfWhole_keyiter hit.typeIs (wpAny_pure ?_))
  refine wpAny_bind (wpAny_fieldsOf ho hd ?_)
  have hown : Builtin.Dict_items.ownsTuple "dict_keyiterator" = false := by decide
  simp only [hown, Bool.false_eq_true, if_false]
  show wpAny _ _ (if (Value.ref d == Value.none) = true then _ else _) _ _ s
  rw [if_neg (show ¬ ((Value.ref d == Value.none) = true) from Bool.false_ne_true)]
  refine wpAny_bind (wpAny_pure ?_)
  refine wpAny_bind (wpAny_dictEntries hm rfl ?_)
  rw [if_neg (by simp)]
  refine wpAny_bind (wpAny_pure ?_)
  refine wpAny_bind (wpAny_dictEpoch hm rfl ?_)
  rw [if_neg (by simp)]
  refine wpAny_pure ?_
  simp only [show ¬ ((i : Int) < 0) from by omega, if_false, Int.toNat_natCast, List.getElem?_toArray]
  cases he : es[i]? with
  | some e =>
    dsimp only
    refine wpAny_bind ?_
    refine wpAny_bind (wpAny_typeNameOfWhole_keyiter hit.typeIs (wpAny_pure ?_))
    refine wpAny_bind (wpAny_isOneOf_keyiter hit.typeIs ?_)
    show wpAny _ _ (setField (.ref I) 1 (rawInt ((i : Int) + 1)) >>= _) _ _ s
    refine wpAny_bind (wpAny_setField ho hd (by simp) ?_)
    have hit' : (s.heap.update I (Obj.mapFields (·.setIfInBounds 1 (rawInt ((i : Int) + 1))))).IsKeyIter I d (i + 1) es.length ep :=
      ⟨_, Heap.get?_update_self _ ho (Obj.isFreed_of_fields (Obj.data_mapFields hd _)), (Obj.cls_mapFields ..).trans hc, by rw [Obj.data_mapFields hd]; simp [rawInt]⟩
    refine wpAny_bind (wpAny_holding ?_)
    refine wpAny_bind (wpAny_isOneOf_keyiter (s := { s with heap := s.heap.update I (Obj.mapFields (·.setIfInBounds 1 (rawInt ((i : Int) + 1)))) }) hit'.typeIs ?_)
    show wpAny _ _ (pure e.key) _ _ _
    exact wpAny_pure (wpAny_pure ⟨_, rfl, wpAny_pure (item e _ he hit' (Heap.SameBut.update ..))⟩)
  | none =>
    dsimp only
    refine wpAny_bind ?_
    refine wpAny_bind (wpAny_typeNameOfWhole_keyiter hit.typeIs (wpAny_pure ?_))
    show wpAny _ _ (setField (.ref I) 0 .none >>= _) _ _ s
    refine wpAny_bind (wpAny_setField ho hd (by simp) ?_)
    show wpAny _ _ (newExc (.type "StopIteration") [] >>= _) _ _ _
    refine wpAny_bind ?_
    simp only [newExc, newTuple]
    refine wpAny_bind (wpAny_newObj_type ?_ (by size_fits))
    refine wpAny_bind (m := firstArgMember _ _) (wpAny_of_eq (a := Value.none) (by first | rfl | (simp only [firstArgMember]; rfl)) ?_)
    refine wpAny_newObj_type ?_ (by size_fits)
    simp only [raiseNew]
    refine wpAny_bind (wpAny_handled ?_)
    rw [show A.in1.handled = none from hh]
    refine wpAny_bind (wpAny_pure (wpAny_throw ?_))
    refine wpAny_bind (wpAny_isInstance (T := "StopIteration") (b := true) ⟨_, Heap.get?_push_size _ rfl, rfl⟩ isSubtype_stop ?_)
    exact wpAny_pure (done he _ (((Heap.SameBut.update ..).extBut.push _).push _))
theorem raw_walks (hh : A.handled = none) (hne : d ≠ I) : Walks prog w A I [I, d] [I] es.length (fun i v => ∃ e, es[i]? = some e ∧ v = e.key) (fun i h => h.IsKeyIter I d i es.length ep ∧ RawD h d es ep) where
  sub := fun b hb => by simp at hb; simp [hb]
  frame := fun _ _ _ st hk => ⟨st.1.at fun o e => hk I (by simp) o e, hk d (by simp) _ st.2⟩
  item := fun i s Q E hi st hQ => raw_next hh st.1 st.2 (fun e h' he hit' hs => hQ e.key h' s.toks ⟨e, he, rfl⟩ ⟨hit', hs.extBut d _ hne st.2⟩ fun b o hb e' => hs.extBut b o (fun h => hb (by simp [h])) e')
    (fun he => by rw [List.getElem?_eq_getElem hi] at he; cases he)
  done := fun s Q E st hQ => raw_next hh st.1 st.2 (fun e h' he => by simp at he) (fun _ h' he' => hQ h' s.toks fun b o hb e => he' b o (fun h => hb (by simp [h])) e)
  self := fun _ _ _ _ st hQ => wpAny_pyIter_keyiter st.1 hQ
end raw
end
section
section rowsSorted
theorem raw_src {prog : Program} {w : World} {d : Addr} {es : List DictEntry} {ep : Nat} (lo : (d == sysModules) = false) : KdlSrc prog w "dict" d d es.length (fun i v => ∃ e, es[i]? = some e ∧ v = e.key) (fun h => RawD h d es ep) where
  type := fun _ hm => raw_type hm
  there := fun _ hm => ⟨Heap.lt_size hm, Heap.lt_size hm⟩
  keep := fun _ _ hm hk => hk d (.inl rfl) _ hm
  notList := by decide
  notTuple := by decide
  hint := fun _ _ _ _ hm hq => kdl_hint_dict (raw_type hm) hq
  iter := fun _ _ hh hm => ⟨_, _, (fun _ _ hq => raw_iter lo hm hq), raw_walks hh (Nat.ne_of_lt (Heap.lt_size hm)), ⟨⟨_, Heap.get?_push_size _ rfl, rfl, rfl⟩, Heap.get?_push_of_some _ hm⟩⟩
def rank (k : Key) : Int := 2 * k.1 + k.2
def sortKeys (D : List Rw) : List Key := allKeys.filter fun k => (rowAt D k).isSome
theorem XsAre.vals {news : Led} {xs D} (h : XsAre news xs D) : DatAll news (xs.map fun x => .ref x.2.1) ((keysOf D).map keyD) := by
  induction h with
  | nil => exact .nil
  | cons a _ _ ih => exact .cons a ih
theorem rank_inj : ∀ a ∈ allKeys, ∀ b ∈ allKeys, rank a = rank b → a = b := by decide
theorem rank_lt : ∀ a ∈ allKeys, ∀ b ∈ allKeys, (decide (rank a < rank b)) = (if a.1 = b.1 then decide (a.2 < b.2) else decide (a.1 < b.1)) := by decide
theorem mem_getD {α : Type} (x : α) : ∀ (l : List α) (i : Nat), i < l.length → l.getD i x ∈ l
  | [], i, h => by simp at h
  | a :: l, 0, _ => by simp
  | a :: l, i + 1, h => by simpa using .inr (mem_getD x l i (by simpa using h))
theorem getD_inj {α : Type} (x : α) {l : List α} (hn : l.Nodup) {i j : Nat} (hi : i < l.length) (hj : j < l.length) (e : l.getD i x = l.getD j x) : i = j := by
  refine (List.getElem?_inj hi hn).mp ?_
  rw [List.getD_eq_getElem?_getD, List.getD_eq_getElem?_getD, List.getElem?_eq_getElem hi, List.getElem?_eq_getElem hj] at e
  rw [List.getElem?_eq_getElem hi, List.getElem?_eq_getElem hj, show l[i] = l[j] from e]
/-- the sorted permutation's keys -/
theorem perm_keys {ks : List Key} {q : Array Nat} (hn : ks.Nodup) (ha : ∀ k ∈ ks, k ∈ allKeys) (hp : PermR ks.length q) (hs : SortR (fun i => rank (ks.getD i (0, 0))) q ks.length) :
    q.toList.map (fun i => ks.getD i (0, 0)) = allKeys.filter fun k => ks.contains k := by
  have hperm : (q.toList.map (fun i => ks.getD i (0, 0))).Perm ks := by
    have h1 := hp.perm.map (fun i => ks.getD i (0, 0))
    have h2 : (List.range ks.length).map (fun i => ks.getD i (0, 0)) = ks := by
      apply List.ext_getElem?
      intro i
      by_cases hi : i < ks.length
      · simp [hi]
      · simp [hi]
    rw [h2] at h1
    exact h1
  have hsort : (q.toList.map (fun i => ks.getD i (0, 0))).Pairwise fun a b => rank a < rank b := by
    rw [List.pairwise_iff_getElem]
    intro i j hi hj hij
    have hqs : q.size = ks.length := hp.size
    have hi' : i < ks.length := by simpa [hqs] using hi
    have hj' : j < ks.length := by simpa [hqs] using hj
    have := hs i j hij hj'
    simp only [KR] at this
    have ei : q.getD i 0 = q[i]'(by rw [hqs]; exact hi') := by simp [Array.getD, hqs, hi']
    have ej : q.getD j 0 = q[j]'(by rw [hqs]; exact hj') := by simp [Array.getD, hqs, hj']
    rw [ei, ej] at this
    simpa using this
  have hfs : (allKeys.filter fun k => ks.contains k).Pairwise fun a b => rank a < rank b := List.Pairwise.sublist (List.filter_sublist) (by decide)
  have hfn : (allKeys.filter fun k => ks.contains k).Nodup := List.Pairwise.sublist (List.filter_sublist) (by decide)
  have hp2 : (q.toList.map (fun i => ks.getD i (0, 0))).Perm (allKeys.filter fun k => ks.contains k) := by
    refine hperm.trans ((List.perm_ext_iff_of_nodup hn hfn).mpr fun k => ?_)
    simp only [List.mem_filter, List.contains_iff_mem]
    exact ⟨fun h => ⟨ha k h, h⟩, fun h => h.2⟩
  exact hp2.eq_of_pairwise (fun a b _ _ h1 h2 => absurd h1 (by omega)) hsort hfs
theorem sortKeys_eq (D : List Rw) : sortKeys D = allKeys.filter fun k => (keysOf D).contains k := by
  unfold sortKeys
  refine List.filter_congr fun k _ => ?_
  cases h : rowAt D k with
  | none =>
    have := rowAt_none.mp h
    simp [this]
  | some r =>
    have : ¬ k ∉ keysOf D := fun hm => by rw [rowAt_none.mpr hm] at h; cases h
    simp [Classical.not_not.mp this]
variable {f : Nat → Int} {n : Nat} {s : Shared}
theorem askR_to {α : Type} {cmp : Nat → Nat → (Bool → Shared → Prop) → Shared → Prop} (hc : ∀ i j (C : Bool → Shared → Prop), i < n → j < n → C (decide (f i < f j)) s → cmp i j C s) {Q : α → Shared → Prop} :
    ∀ (t : KasT α), t.kasWp (askR f n) Q s → t.kasWp cmp Q s
  | .ret _, h => h
  | .ask i j k, h => hc i j _ h.1 h.2.1 (askR_to hc (k (decide (f i < f j))) h.2.2)
end rowsSorted
end
section
section rowsSorted2
variable {w : World} {A : Around} {E : Value → Shared → Prop} {s : Shared} {h₀ : Heap} {L : Addr} {m : Str → Option Value} {news : Led} {d : Addr} {D : List Rw}
theorem key_lt {x y : Addr} {j k : Key} {Q : Bool → Shared → Prop} (N : News h₀ L s.heap news) (hx : DatIn news (.ref x) (keyD j)) (hy : DatIn news (.ref y) (keyD k)) (h : Q (if j.1 = k.1 then decide (j.2 < k.2) else decide (j.1 < k.1)) s) :
    wpAny (model PR w) A (keyLt' (tuples' true) (.ref x) (.ref y)) Q E s := by
  obtain ⟨a, n, t0, t1, t2, e, hm⟩ := keyD_open hx
  cases e
  obtain ⟨a', n', t0', t1', t2', e, hm'⟩ := keyD_open hy
  cases e
  refine kat_lt (N.get hm) rfl (N.get hm') rfl ?_
  show KatLex PR w A true (decide (3 < 3)) Q [(.int 3 t0, .int 3 t0'), (.int j.1 t1, .int k.1 t1'), (.int j.2 t2, .int k.2 t2')] 0 s
  refine kat_cons (wpAny_eqBool_int ?_)
  refine kat_yes (kat_cons (wpAny_eqBool_int ?_))
  by_cases h1 : j.1 = k.1
  · rw [beq_iff_eq.mpr h1]
    rw [if_pos h1] at h
    refine kat_yes (kat_cons (wpAny_eqBool_int ?_))
    by_cases h2 : j.2 = k.2
    · rw [beq_iff_eq.mpr h2]
      rw [decide_eq_false (by omega)] at h
      exact kat_yes (kat_nil h)
    · rw [beq_eq_false_iff_ne.mpr h2]
      exact kat_no (kat_one _ _ (lt_int h))
  · rw [beq_eq_false_iff_ne.mpr h1]
    rw [if_neg h1] at h
    exact kat_no (kat_one _ _ (lt_int h))
theorem katTups {vs : List Value} {ks : List Key} (N : News h₀ L s.heap news) (h : DatAll news vs (ks.map keyD)) : ∃ fs, KatTups s.heap vs fs ∧ fs.length = ks.length ∧ ∀ v ∈ fs, ∃ t, v = Value.int 3 t := by
  induction ks generalizing vs with
  | nil => cases h; exact ⟨[], KatTups.nil, rfl, fun v hv => by cases hv⟩
  | cons k ks ih =>
    cases h with
    | cons h1 h2 =>
      obtain ⟨fs, a, b, c⟩ := ih h2
      obtain ⟨x, n, t0, t1, t2, e, hm⟩ := keyD_open h1
      subst e
      refine ⟨.int 3 t0 :: fs, KatTups.cons (N.get hm) rfl rfl (by rfl) a, by simp [b], fun v hv => ?_⟩
      rcases List.mem_cons.mp hv with rfl | hv
      · exact ⟨t0, rfl⟩
      · exact c v hv
theorem datAll_pick {vs : List Value} {ks : List Key} (h : DatAll news vs (ks.map keyD)) {i : Nat} (hi : i < ks.length) : DatIn news (vs.getD i .none) (keyD (ks.getD i (0, 0))) := by
  obtain ⟨v, hv, hD⟩ := h.get (k := i) (by simpa using hi)
  have e1 : vs.getD i .none = v := by rw [List.getD_eq_getElem?_getD, hv]; rfl
  rw [e1]
  have e2 : (ks.map keyD)[i]'(by simpa using hi) = keyD (ks.getD i (0, 0)) := by
    rw [List.getElem_map, List.getD_eq_getElem?_getD, List.getElem?_eq_getElem hi]; rfl
  rw [e2] at hD
  exact hD
theorem datAll_picks {vs : List Value} {ks : List Key} (h : DatAll news vs (ks.map keyD)) : ∀ {l : List Nat}, (∀ i ∈ l, i < ks.length) → DatAll news (l.map fun i => vs.getD i .none) ((l.map fun i => ks.getD i (0, 0)).map keyD)
  | [], _ => .nil
  | i :: l, hl => .cons (datAll_pick h (hl i (.head _))) (datAll_picks h fun j hj => hl j (.tail _ hj))
theorem zip_snd : ∀ vs : List Value, (vs.zip vs).map (·.2) = vs
  | [] => rfl
  | v :: vs => by simp [zip_snd vs]
theorem one_key : ∀ k ∈ allKeys, (allKeys.filter fun j => [k].contains j) = [k] := by decide
theorem keys_sort {B : Addr} {c : Nat} {vs : List Value} {ks : List Key} {Q : Value → Shared → Prop} (F : Fr h₀ L s.heap m) (N : News h₀ L s.heap ((B, listOf vs.toArray c) :: news)) (hB : ∀ q ∈ news, q.1 < B) (hv : DatAll news vs (ks.map keyD)) (hn : ks.Nodup) (ha : ∀ k ∈ ks, k ∈ allKeys)
    (h : ∀ h' c vs', Fr h₀ L h' m → News h₀ L h' ((B, listOf (List.toArray vs') c) :: news) → DatAll news vs' ((allKeys.filter fun k => ks.contains k).map keyD) → Q .none { s with heap := h' }) :
    wpAny (model PR w) A (call (.builtin "list.sort") [.ref B]) Q E s := by
  have hle : ks.length ≤ 6 := by have := nodup_le hn ha; simpa [allKeys] using this
  have hlen : vs.length = ks.length := by have := hv.length; simpa using this
  by_cases h2 : 2 ≤ vs.length
  · refine kat_lsort F N (g := fun o => (B, o) :: news) (UpdF.head fun p hp => Nat.ne_of_lt (hB p hp)) (by simp) h2 (by omega) fun e1 h' F' N' => ?_
    have N₂ : News h₀ L h' news := fun p hp => N' p (.tail _ hp)
    obtain ⟨fs, t1, t2, t3⟩ := katTups (s := { s with heap := h' }) N₂ hv
    refine kat_kind (T := .type "int") t1 (by omega) (fun v hv => ?_) (by decide) ?_
    · obtain ⟨t, rfl⟩ := t3 v hv
      exact Looks.of_pure rfl
    · show (kas_sort vs.length).kasWp (kas_ask PR w A.in1 (tuples' true) vs) _ { s with heap := h' }
      rw [hlen]
      have hf : ∀ i j, i < ks.length → j < ks.length → rank (ks.getD i (0, 0)) = rank (ks.getD j (0, 0)) → i = j := fun i j hi hj e =>
        getD_inj (0, 0) hn hi hj (rank_inj _ (ha _ (mem_getD _ _ _ hi)) _ (ha _ (mem_getD _ _ _ hj)) e)
      refine askR_to (f := fun i => rank (ks.getD i (0, 0))) (n := ks.length) (fun i j C hi hj hC => ?_) _ (askR_sort hf (by omega) fun q hp hs => ?_)
      · have hi' := datAll_pick hv hi
        have hj' := datAll_pick hv hj
        obtain ⟨ai, ei⟩ := tup_ref hi'
        obtain ⟨aj, ej⟩ := tup_ref hj'
        unfold kas_ask
        rw [ei, ej]
        rw [ei] at hi'
        rw [ej] at hj'
        refine key_lt N₂ hi' hj' ?_
        rw [← rank_lt _ (ha _ (mem_getD _ _ _ hi)) _ (ha _ (mem_getD _ _ _ hj))]
        exact hC
      · refine KasFin.intro F' N' (UpdF.head fun p hp => Nat.ne_of_lt (hB p hp)) fun h'' c F'' N'' => ?_
        have hk := perm_keys hn ha hp hs
        refine h h'' c _ F'' N'' ?_
        rw [← hk]
        exact datAll_picks hv fun i hi => by simpa using hp.perm.mem_iff.mp hi
  · have hs2 : ks.length < 2 := by omega
    have hk : (allKeys.filter fun k => ks.contains k) = ks := by
      match ks, hs2, hn, ha with
      | [], _, _, _ => rfl
      | [k], _, _, ha => exact one_key k (ha k (.head _))
    rw [hk] at h
    refine wpAny_call_entry slot_list_sort ⟨_, (N _ (.head _)).1, rfl⟩ entry_list_sort ?_ (args_list_sort _)
    have ho : s.heap.get? B = some (seqObj "list" vs.toArray c) := (N _ (.head _)).1
    have hb : B < s.heap.objs.size := Heap.lt_size ho
    rw [list_sort_plain]
    refine wpAny_bind (listItems_at ho rfl ?_)
    refine wpAny_bind (listUpdate_at ho rfl ?_ (by rw [List.size_toArray, sizeLine_eq]; omega) (Nat.zero_le _))
    obtain ⟨e1, ho1⟩ : ∃ e1, (s.heap.update B (Obj.mapSeq fun _ => (#[] : Array Value))).get? B = some (seqObj "list" #[] e1) := ⟨_, get?_update_seq ho fun _ => #[]⟩
    refine wpAny_bind (seqEpoch_at ho1 rfl ?_)
    refine wpAny_bind (wpAny_newTuple ?_ (by show vs.length ≤ _; rw [sizeLine_eq]; omega))
    refine wpAny_bind (wpAny_newList ?_ (Nat.zero_le _))
    refine wpAny_holding ?_
    have ho6 : (((s.heap.update B (Obj.mapSeq fun _ => (#[] : Array Value))).push (seqObj "tuple" vs.toArray 0)).push (seqObj "list" #[] 0)).get? B = some (seqObj "list" #[] e1) :=
      Heap.get?_push_of_some _ (Heap.get?_push_of_some _ ho1)
    show wpAny (model PR w) A.in1 _ _ _ { s with heap := ((s.heap.update B (Obj.mapSeq fun _ => (#[] : Array Value))).push (seqObj "tuple" vs.toArray 0)).push (seqObj "list" #[] 0) }
    dsimp only
    have hsz : vs.toArray.size < 2 := by rw [List.size_toArray]; omega
    rw [if_pos hsz, if_pos hsz]
    refine wpAny_bind (wpAny_pure ?_)
    rw [StateT.run_pure]
    refine wpAny_bind (wpAny_pure ?_)
    dsimp only
    refine wpAny_bind (seqEpoch_at ho6 rfl ?_)
    have hout : (arrOf (SortSt.mk' general' (vs.toArray.zip vs.toArray) #[] 7 none)).map (·.2) = List.toArray vs := by
      show (vs.toArray.zip vs.toArray).map (·.2) = List.toArray vs
      rw [List.zip_toArray, List.map_toArray, zip_snd]
    rw [hout]
    refine wpAny_bind (listUpdate_at ho6 rfl ?_ (Nat.zero_le _) (by rw [List.size_toArray, sizeLine_eq]; omega))
    simp only [bne_self_eq_false, Bool.false_eq_true, if_false]
    refine wpAny_pure ⟨_, rfl, ?_⟩
    obtain ⟨c2, hc2⟩ : ∃ c2, ((((s.heap.update B (Obj.mapSeq fun _ => (#[] : Array Value))).push (seqObj "tuple" vs.toArray 0)).push (seqObj "list" #[] 0)).update B (Obj.mapSeq fun _ => List.toArray vs)).get? B = some (seqObj "list" (List.toArray vs) c2) := ⟨_, get?_update_seq ho6 fun _ => List.toArray vs⟩
    have keep : ∀ b o, b ≠ B → s.heap.get? b = some o → ((((s.heap.update B (Obj.mapSeq fun _ => (#[] : Array Value))).push (seqObj "tuple" vs.toArray 0)).push (seqObj "list" #[] 0)).update B (Obj.mapSeq fun _ => List.toArray vs)).get? b = some o := fun b o hb' e =>
      (Heap.get?_update_other _ _ (Ne.symm hb')).trans (Heap.get?_push_of_some _ (Heap.get?_push_of_some _ ((Heap.get?_update_other _ _ (Ne.symm hb')).trans e)))
    have hBn := (N _ (.head _)).2
    obtain ⟨oL, z1, z2, hL, z3⟩ := F.ns
    refine h _ c2 vs ⟨⟨oL, z1, z2, keep L oL (Ne.symm hBn.1) hL, z3⟩, fun b o e => keep b o (fun hb' => ?_) (F.keep b o e), F.above⟩ (fun p hp => ?_) hv
    · rw [hb'] at e
      rw [hBn.2] at e
      cases e
    · rcases List.mem_cons.mp hp with rfl | hp'
      · exact ⟨hc2, hBn⟩
      · have z := N p (.tail _ hp')
        exact ⟨keep _ _ (Nat.ne_of_lt (hB p hp')) z.1, z.2⟩
theorem rows_sorted {Q : Value → Shared → Prop} (hh : A.handled = none) (F : Fr h₀ L s.heap m) (N : News h₀ L s.heap news) (hdb : DbIs w news d D)
    (h : ∀ B h' c tk vs, Fr h₀ L h' m → News h₀ L h' ((B, listOf (List.toArray vs) c) :: news) → (∀ q ∈ news, q.1 < B) → DatAll news vs ((sortKeys D).map keyD) → Q (.ref B) { s with heap := h', toks := tk }) :
    wpAny (model PR w) A (call (.builtin "sorted") [.ref d]) Q E s := by
  obtain ⟨xs, n, hm, hx, hn, ha, lo⟩ := hdb
  have hle := rows_le hn ha
  refine kdu_sorted (raw_src (es := xs.map (entryOfKey (TK w))) (ep := n) lo) hh F N (N.get hm) (by rw [List.length_map, hx.length, sizeLine_eq]; omega) fun B h' tk vs F' N' hB hl hv => ?_
  have hvs : vs = xs.map fun x => Value.ref x.2.1 := by
    apply List.ext_getElem?
    intro i
    by_cases hi : i < vs.length
    · obtain ⟨e, he, ev⟩ := hv i vs[i] (List.getElem?_eq_getElem hi)
      rw [List.getElem?_eq_getElem hi, ev]
      rw [List.getElem?_map] at he ⊢
      cases hxi : xs[i]? with
      | none => rw [hxi] at he; cases he
      | some x => rw [hxi] at he; cases he; rfl
    · rw [List.getElem?_eq_none (by omega), List.getElem?_eq_none (by rw [List.length_map] at hl ⊢; omega)]
  have hdat := hx.vals
  rw [← hvs] at hdat
  refine keys_sort F' N' hB hdat hn ha fun h'' c vs' F'' N'' hd => ?_
  rw [← sortKeys_eq] at hd
  exact h B h'' c tk vs' F'' N'' hB hd
end rowsSorted2
section
variable {w : World} {A : Around} {E : Value → Shared → Prop} {s : Shared} {h₀ : Heap} {L : Addr} {m : Str → Option Value} {news : Led} {d ka : Addr} {D : List Rw} {k : Key} {r : Rw}
theorem rows_notIn_some {Q : Value → Shared → Prop} (N : News h₀ L s.heap news) (hdb : DbIs w news d D) (hk : DatIn news (.ref ka) (keyD k)) (hu : A.units + 64 < cLine) (hr : rowAt D k = some r)
    (h : ∀ tk, Q (.bool false) { s with toks := tk }) : wpAny (model PR w) A (compareOp .NotIn (.ref ka) (.ref d)) Q E s := rows_notIn N hdb hk hu (by rw [hr]; rfl) h
theorem rows_notIn_none {Q : Value → Shared → Prop} (N : News h₀ L s.heap news) (hdb : DbIs w news d D) (hk : DatIn news (.ref ka) (keyD k)) (hu : A.units + 64 < cLine) (hr : rowAt D k = none)
    (h : ∀ tk, Q (.bool true) { s with toks := tk }) : wpAny (model PR w) A (compareOp .NotIn (.ref ka) (.ref d)) Q E s := rows_notIn N hdb hk hu (by rw [hr]; rfl) h
end
theorem rvD_open {news : Led} {v : Value} {r : Rw} (h : DatIn news v (rvD r)) :
    ∃ a n lv t, v = .ref a ∧ (a, tupO [lv, .int r.2 t] n) ∈ news ∧ DatIn news lv (lsaD r.1) := by
  cases h with
  | tuple hm r => cases r with | cons h0 r => cases r with | cons h1 r => cases r; cases h1; exact ⟨_, _, _, _, rfl, hm, h0⟩
end
section
example : True := by
  k_with_none
  k_with "my enter" => first | (k_dflt (first | (refine' code_def ?k1q0 ?k2q0 ?k3q0 ?k4q0 ?k5q0 ?kAq0 ?kFq0 ?kKq0 ?k6q0 ?k7q0 ?k8q0 ?k9q0 ?kBq0 ?_ ?c2q0 ?c3q0 ?c4q0 ?c5q0; (case kAq0 => exact rfl); (case kFq0 => exact rfl); (case kKq0 => assumption); (case k1q0 => k_asm); (case k2q0 => k_asm); (case k3q0 => k_asm); (case k4q0 => k_asm); (case k5q0 => k_asm); (case k6q0 => k_is); (case k7q0 => k_is); (case k8q0 => ktr_room); (case k9q0 => first | exact BindsTo.of_eq rfl | exact binds_K (by k_in) rfl (by k_is) rfl rfl rfl); (case c5q0 => decide); (case kBq0 => exact locs rfl); (case c2q0 => exact rfl); (case c3q0 => exact rfl); (case c4q0 => exact rfl); k_whole; intro g' L' h' FG' F' N' B' X' T'; (try dsimp only); (try k_lift B'); (try k_fold)) | (refine' code_defC ?k1q0 ?k2q0 ?k3q0 ?k4q0 ?k5q0 ?kAq0 ?kFq0 ?kKq0 ?k6q0 ?k7q0 ?k8q0 ?k9q0 ?kBq0 ?kDq0 ?_ ?c2q0 ?c3q0 ?c4q0; (case kAq0 => exact rfl); (case kFq0 => exact rfl); (case kKq0 => assumption); (case k1q0 => k_asm); (case k2q0 => k_asm); (case k3q0 => k_asm); (case k4q0 => k_asm); (case k5q0 => k_asm); (case k6q0 => k_is); (case k7q0 => k_is); (case k8q0 => ktr_room); (case k9q0 => first | exact BindsTo.of_eq rfl | exact binds_K (by k_in) rfl (by k_is) rfl rfl rfl); (case kBq0 => exact rfl); (case kDq0 => decide +kernel); (case c2q0 => exact rfl); (case c3q0 => exact rfl); (case c4q0 => exact rfl); k_whole; intro g' L' h' tk' cells' FG' F' N' Y' B' X' T' l1; (try k_lt l1); k_cells Y'; (try simp only [List.cons_append, List.nil_append] at N'); (try dsimp only); (try k_lift B'); (try k_fold)))) | fail "no"
  k_with "mem" => first | (first | with_reducible assumption | exact List.Mem.head _ | ((with_reducible refine List.mem_cons_of_mem _ ?_); k_extra "mem") | ((with_reducible refine List.mem_append_right _ ?_); k_extra "mem") | k_extra "memx") | fail "no"
  k_with "sub" => first | (first | with_reducible exact fun _ h => h | ((with_reducible refine fun p h => List.mem_cons_of_mem _ ?_); revert p h; k_extra "sub") | ((with_reducible refine fun p h => List.mem_append_right _ ?_); revert p h; k_extra "sub") | with_reducible assumption) | fail "no"
  k_with "suf" => first | (first | with_reducible exact List.suffix_refl _ | ((with_reducible refine List.IsSuffix.trans ?_ (List.suffix_cons _ _)); k_extra "suf") | ((with_reducible refine List.IsSuffix.trans ?_ (List.suffix_append _ _)); k_extra "suf")) | fail "no"
  k_with "inteq" => first | (first | rfl | omega | (split <;> omega) | ((simp only [Lsa.aged]); (first | rfl | omega | (split <;> omega)))) | fail "no"
  k_with "dat" => first | (first | exact DatIn.none | exact DatIn.bool _ | with_reducible assumption | (refine dat_int ?_; k_extra "inteq") | exact DatIn.str _ _ | (refine' DatIn.mono ?hsq5 ?hdq5; (case hdq5 => with_reducible assumption); (case hsq5 => k_extra "sub")) | (refine' DatIn.tuple ?hmq5 ?hdq5; (case hmq5 => k_extra "mem"); (case hdq5 => k_extra "datall")) | (refine' DatIn.list ?hmq5 ?hdq5; (case hmq5 => k_extra "mem"); (case hdq5 => k_extra "datall")) | (refine' DatIn.mono ?hsq5 ?hdq5; (case hdq5 => assumption); (case hsq5 => k_extra "sub"))) | fail "no"
  k_with "datall" => first | (first | exact DatAll.nil | (refine' DatAll.cons ?_ ?_; (next => k_extra "dat"); (next => k_extra "datall")) | (refine' datAll_mono ?hsq6 ?hdq6; (case hdq6 => with_reducible assumption); (case hsq6 => k_extra "sub")) | k_extra "datallx") | fail "no"
  k_with "room" => first | (((try simp only [depth_under_make, depth_under_kw, depth_in1, depth_deeper, depth_caller]); (try dsimp only); first | omega | ktr_room)) | fail "no"
  k_with "units" => first | (((try simp only [units_in1, units_deeper, Around.mark_units, units_caller]); (try dsimp only); first | omega | ktr_units)) | fail "no"
  k_with "subscriptTail Name Slice ref ref" => first | ((k_here; k_dflt (refine' tup_from1 ?Fq9 ?Nq9 ?lq9 ?_ ?sq9 ?tq9 ?zq9; (case Fq9 => k_asm); (case Nq9 => k_asm); (case lq9 => k_extra "mem"); (case sq9 => with_unfolding_all rfl); (case tq9 => (intro _; with_unfolding_all rfl)); (case zq9 => exact Nat.le_of_ble_eq_true rfl)); intro D' h' F' N' l1; (try k_sweep))) | fail "no"
  k_with "binaryOp Add ref ref" => first | ((k_here; k_dflt (refine' tup_add ?Fq10 ?Nq10 ?lq10 ?rq10 ?_ ?zq10; (case Fq10 => k_asm); (case Nq10 => k_asm); (case lq10 => k_extra "mem"); (case rq10 => k_extra "mem"); (case zq10 => exact Nat.le_of_ble_eq_true rfl)); intro D' h' F' N' l1; (try dsimp only [List.cons_append, List.nil_append] at N'); (try k_sweep))) | fail "no"
  k_with "ctr ends" => first | (( (case Bq11 => k_asm); (case Fq11 => k_asm); (case Xq11 => k_asm); (case Nq11 => k_asm); (case Tq11 => k_asm); (case hkq11 => first | exact rfl | assumption); (case hdq11 => ktr_room); (case huq11 => ktr_units))) | fail "no"
  trivial
theorem aged_head_c (w : World) (news : Led) (v : Value) (l : Lsa) (sec : Int) (ts : Tok) (hD : DatIn news v (headD l)) :
   Ctr PR w (hd.heap_39 w.params) 37 1 30 [v, .int sec ts] news (PureD news (headD (l.aged sec))) := by
  unfold Ctr
  obtain ⟨a, n, t0, t1, t2, t3, t4, t5, t6, rfl, hm⟩ := headD_open hD
  intros
  rename_i hret
  refine wpAny_call ?_
  walk_at "my enter"
  k_steps
  refine hret _ _ _ _ (by k_asm) (by k_asm) ⟨by walk_at "suf", by walk_at "dat"⟩
theorem key_of_c (w : World) (news : Led) (v : Value) (l : Lsa) (hD : DatIn news v (headD l)) :
   Ctr PR w (hd.heap_39 w.params) 44 1 30 [v] news (PureD news (keyD l.key)) := by
  unfold Ctr
  obtain ⟨a, n, t0, t1, t2, t3, t4, t5, t6, rfl, hm⟩ := headD_open hD
  intros
  rename_i hret
  refine wpAny_call ?_
  walk_at "my enter"
  k_steps
  refine hret _ _ _ _ (by k_asm) (by k_asm) ⟨by walk_at "suf", by walk_at "dat"⟩
local macro_rules | `(tactic| walk_at "call ref") => `(tactic| (k_here; k_dflt (refine' Ctr.use (aged_head_c _ _ _ _ _ _ ?hD) ?B ?F ?X ?N ?T ?hk ?hd ?hu ?ret; (case hD => walk_at "dat"); (case B => k_asm); (case F => k_asm); (case X => k_asm); (case N => k_asm); (case T => k_asm); (case hk => first | exact rfl | assumption); (case hd => walk_at "room"); (case hu => walk_at "units"); k_whole; intro r' news' h' tk' F' N' P'; obtain ⟨⟨tl', e'⟩, d'⟩ := P'; subst e'); (try dsimp only); (try k_fold)))
theorem aged_c (w : World) (news : Led) (v : Value) (l : Lsa) (sec : Int) (ts : Tok) (hD : DatIn news v (lsaD l)) :
   Ctr PR w (hd.heap_39 w.params) 51 2 60 [v, .int sec ts] news (PureD news (lsaD (l.aged sec))) := by
  unfold Ctr
  obtain ⟨a, n, hv, cv, rfl, hm, hH, hC⟩ := lsaD_open hD
  intros
  rename_i hret
  refine wpAny_call ?_
  walk_at "my enter"
  k_steps
  refine hret _ _ _ _ (by k_asm) (by k_asm) ⟨by walk_at "suf", by walk_at "dat"⟩
end
section
example : True := by
  k_with_none
  k_with "my enter" => first | (k_dflt (first | (refine' code_def ?k1q0 ?k2q0 ?k3q0 ?k4q0 ?k5q0 ?kAq0 ?kFq0 ?kKq0 ?k6q0 ?k7q0 ?k8q0 ?k9q0 ?kBq0 ?_ ?c2q0 ?c3q0 ?c4q0 ?c5q0; (case kAq0 => exact rfl); (case kFq0 => exact rfl); (case kKq0 => assumption); (case k1q0 => k_asm); (case k2q0 => k_asm); (case k3q0 => k_asm); (case k4q0 => k_asm); (case k5q0 => k_asm); (case k6q0 => k_is); (case k7q0 => k_is); (case k8q0 => ktr_room); (case k9q0 => first | exact BindsTo.of_eq rfl | exact binds_K (by k_in) rfl (by k_is) rfl rfl rfl); (case c5q0 => decide); (case kBq0 => exact locs rfl); (case c2q0 => exact rfl); (case c3q0 => exact rfl); (case c4q0 => exact rfl); k_whole; intro g' L' h' FG' F' N' B' X' T'; (try dsimp only); (try k_lift B'); (try k_fold)) | (refine' code_defC ?k1q0 ?k2q0 ?k3q0 ?k4q0 ?k5q0 ?kAq0 ?kFq0 ?kKq0 ?k6q0 ?k7q0 ?k8q0 ?k9q0 ?kBq0 ?kDq0 ?_ ?c2q0 ?c3q0 ?c4q0; (case kAq0 => exact rfl); (case kFq0 => exact rfl); (case kKq0 => assumption); (case k1q0 => k_asm); (case k2q0 => k_asm); (case k3q0 => k_asm); (case k4q0 => k_asm); (case k5q0 => k_asm); (case k6q0 => k_is); (case k7q0 => k_is); (case k8q0 => ktr_room); (case k9q0 => first | exact BindsTo.of_eq rfl | exact binds_K (by k_in) rfl (by k_is) rfl rfl rfl); (case kBq0 => exact rfl); (case kDq0 => decide +kernel); (case c2q0 => exact rfl); (case c3q0 => exact rfl); (case c4q0 => exact rfl); k_whole; intro g' L' h' tk' cells' FG' F' N' Y' B' X' T' l1; (try k_lt l1); k_cells Y'; (try simp only [List.cons_append, List.nil_append] at N'); (try dsimp only); (try k_lift B'); (try k_fold)))) | fail "no"
  k_with "mem" => first | (first | with_reducible assumption | exact List.Mem.head _ | ((with_reducible refine List.mem_cons_of_mem _ ?_); k_extra "mem") | ((with_reducible refine List.mem_append_right _ ?_); k_extra "mem") | k_extra "memx") | fail "no"
  k_with "sub" => first | (first | with_reducible exact fun _ h => h | ((with_reducible refine fun p h => List.mem_cons_of_mem _ ?_); revert p h; k_extra "sub") | ((with_reducible refine fun p h => List.mem_append_right _ ?_); revert p h; k_extra "sub") | with_reducible assumption) | fail "no"
  k_with "suf" => first | (first | with_reducible exact List.suffix_refl _ | ((with_reducible refine List.IsSuffix.trans ?_ (List.suffix_cons _ _)); k_extra "suf") | ((with_reducible refine List.IsSuffix.trans ?_ (List.suffix_append _ _)); k_extra "suf")) | fail "no"
  k_with "inteq" => first | (first | rfl | omega | (split <;> omega) | ((simp only [Lsa.aged]); (first | rfl | omega | (split <;> omega)))) | fail "no"
  k_with "dat" => first | (first | exact DatIn.none | exact DatIn.bool _ | with_reducible assumption | (refine dat_int ?_; k_extra "inteq") | exact DatIn.str _ _ | (refine' DatIn.mono ?hsq5 ?hdq5; (case hdq5 => with_reducible assumption); (case hsq5 => k_extra "sub")) | (refine' DatIn.tuple ?hmq5 ?hdq5; (case hmq5 => k_extra "mem"); (case hdq5 => k_extra "datall")) | (refine' DatIn.list ?hmq5 ?hdq5; (case hmq5 => k_extra "mem"); (case hdq5 => k_extra "datall")) | (refine' DatIn.mono ?hsq5 ?hdq5; (case hdq5 => assumption); (case hsq5 => k_extra "sub"))) | fail "no"
  k_with "datall" => first | (first | exact DatAll.nil | (refine' DatAll.cons ?_ ?_; (next => k_extra "dat"); (next => k_extra "datall")) | (refine' datAll_mono ?hsq6 ?hdq6; (case hdq6 => with_reducible assumption); (case hsq6 => k_extra "sub")) | k_extra "datallx") | fail "no"
  k_with "room" => first | (((try simp only [depth_under_make, depth_under_kw, depth_in1, depth_deeper, depth_caller]); (try dsimp only); first | omega | ktr_room)) | fail "no"
  k_with "units" => first | (((try simp only [units_in1, units_deeper, Around.mark_units, units_caller]); (try dsimp only); first | omega | ktr_units)) | fail "no"
  k_with "subscriptTail Name Slice ref ref" => first | ((k_here; k_dflt (refine' tup_from1 ?Fq9 ?Nq9 ?lq9 ?_ ?sq9 ?tq9 ?zq9; (case Fq9 => k_asm); (case Nq9 => k_asm); (case lq9 => k_extra "mem"); (case sq9 => with_unfolding_all rfl); (case tq9 => (intro _; with_unfolding_all rfl)); (case zq9 => exact Nat.le_of_ble_eq_true rfl)); intro D' h' F' N' l1; (try k_sweep))) | fail "no"
  k_with "binaryOp Add ref ref" => first | ((k_here; k_dflt (refine' tup_add ?Fq10 ?Nq10 ?lq10 ?rq10 ?_ ?zq10; (case Fq10 => k_asm); (case Nq10 => k_asm); (case lq10 => k_extra "mem"); (case rq10 => k_extra "mem"); (case zq10 => exact Nat.le_of_ble_eq_true rfl)); intro D' h' F' N' l1; (try dsimp only [List.cons_append, List.nil_append] at N'); (try k_sweep))) | fail "no"
  k_with "kok" => first | (first | exact ok_cont _ _ | exact ok_head _ _ | exact ok_key _ _ | exact ok_lsa _ _) | fail "no"
  k_with "compareOp NotEq ref" => first | ((k_here; k_dflt (refine' dat_cmp_ne ?Nq12 ?aq12 ?bq12 ?kaq12 ?kbq12 ?huq12 ?_; (case Nq12 => k_asm); (case aq12 => k_extra "dat"); (case bq12 => k_extra "dat"); (case kaq12 => k_extra "kok"); (case kbq12 => k_extra "kok"); (case huq12 => ktr_units)))) | fail "no"
  k_with "ctr ends" => first | (( (case Bq13 => k_asm); (case Fq13 => k_asm); (case Xq13 => k_asm); (case Nq13 => k_asm); (case Tq13 => k_asm); (case hkq13 => first | exact rfl | assumption); (case hdq13 => ktr_room); (case huq13 => ktr_units))) | fail "no"
  k_with "call ref" => first | ((k_here; k_dflt (refine' Ctr.use (aged_head_c _ _ _ _ _ _ ?hDq14) ?Bq14 ?Fq14 ?Xq14 ?Nq14 ?Tq14 ?hkq14 ?hdq14 ?huq14 ?_; (case Bq14 => k_asm); (case Fq14 => k_asm); (case Xq14 => k_asm); (case Nq14 => k_asm); (case Tq14 => k_asm); (case hDq14 => k_extra "dat"); (case hkq14 => first | exact rfl | assumption); (case hdq14 => k_extra "room"); (case huq14 => k_extra "units"); k_whole; intro r' news' h' tk' F' N' P'; obtain ⟨⟨tl', e'⟩, d'⟩ := P'; subst e'); (try dsimp only); (try k_fold))) | fail "no"
  k_with "call ref" => first | ((k_here; k_dflt (refine' Ctr.use (key_of_c _ _ _ _ ?hDq15) ?Bq15 ?Fq15 ?Xq15 ?Nq15 ?Tq15 ?hkq15 ?hdq15 ?huq15 ?_; (case Bq15 => k_asm); (case Fq15 => k_asm); (case Xq15 => k_asm); (case Nq15 => k_asm); (case Tq15 => k_asm); (case hDq15 => k_extra "dat"); (case hkq15 => first | exact rfl | assumption); (case hdq15 => k_extra "room"); (case huq15 => k_extra "units"); k_whole; intro r' news' h' tk' F' N' P'; obtain ⟨⟨tl', e'⟩, d'⟩ := P'; subst e'); (try dsimp only); (try k_fold))) | fail "no"
  k_with "call ref" => first | ((k_here; k_dflt (refine' Ctr.use (aged_c _ _ _ _ _ _ ?hDq16) ?Bq16 ?Fq16 ?Xq16 ?Nq16 ?Tq16 ?hkq16 ?hdq16 ?huq16 ?_; (case Bq16 => k_asm); (case Fq16 => k_asm); (case Xq16 => k_asm); (case Nq16 => k_asm); (case Tq16 => k_asm); (case hDq16 => k_extra "dat"); (case hkq16 => first | exact rfl | assumption); (case hdq16 => k_extra "room"); (case huq16 => k_extra "units"); k_whole; intro r' news' h' tk' F' N' P'; obtain ⟨⟨tl', e'⟩, d'⟩ := P'; subst e'); (try dsimp only); (try k_fold))) | fail "no"
  trivial
/-- what newer_of says -/
def newerI (x y : Lsa) : Int :=
  if x.seq ≠ y.seq then (if y.seq < x.seq then 1 else -1)
  else if (decide (3600 ≤ x.age) != decide (3600 ≤ y.age)) = true then (if 3600 ≤ x.age then 1 else -1)
  else if 900 < (if x.age - y.age < 0 then -(x.age - y.age) else x.age - y.age) then (if x.age < y.age then 1 else -1)
  else 0
section
variable {x y : Lsa}
theorem nw1 (h : x.seq ≠ y.seq) (k : y.seq < x.seq) : 1 = newerI x y := by simp only [newerI, if_pos h, if_pos k]
theorem nw2 (h : x.seq ≠ y.seq) (k : ¬ y.seq < x.seq) : -1 = newerI x y := by simp only [newerI, if_pos h, if_neg k]
theorem nw3 (h : x.seq = y.seq) (j : (decide (3600 ≤ x.age) != decide (3600 ≤ y.age)) = true) (k : 3600 ≤ x.age) : 1 = newerI x y := by simp only [newerI, if_neg (not_not_intro h), if_pos j, if_pos k]
theorem nw4 (h : x.seq = y.seq) (j : (decide (3600 ≤ x.age) != decide (3600 ≤ y.age)) = true) (k : ¬ 3600 ≤ x.age) : -1 = newerI x y := by simp only [newerI, if_neg (not_not_intro h), if_pos j, if_neg k]
theorem nw5 (h : x.seq = y.seq) (j : (decide (3600 ≤ x.age) != decide (3600 ≤ y.age)) = false) (i : 900 < (if x.age - y.age < 0 then -(x.age - y.age) else x.age - y.age)) (k : x.age < y.age) : 1 = newerI x y := by
  simp only [newerI, if_neg (not_not_intro h), j, if_pos i, if_pos k, Bool.false_eq_true, if_false]
theorem nw6 (h : x.seq = y.seq) (j : (decide (3600 ≤ x.age) != decide (3600 ≤ y.age)) = false) (i : 900 < (if x.age - y.age < 0 then -(x.age - y.age) else x.age - y.age)) (k : ¬ x.age < y.age) : -1 = newerI x y := by
  simp only [newerI, if_neg (not_not_intro h), j, if_pos i, if_neg k, Bool.false_eq_true, if_false]
theorem nw7 (h : x.seq = y.seq) (j : (decide (3600 ≤ x.age) != decide (3600 ≤ y.age)) = false) (i : ¬ 900 < (if x.age - y.age < 0 then -(x.age - y.age) else x.age - y.age)) : 0 = newerI x y := by
  simp only [newerI, if_neg (not_not_intro h), j, if_neg i, Bool.false_eq_true, if_false]
end
theorem newer_of_c (w : World) (news : Led) (v v' : Value) (l l' : Lsa) (hD : DatIn news v (headD l)) (hD' : DatIn news v' (headD l')) :
   Ctr PR w (hd.heap_39 w.params) 29 1 30 [v, v'] news (PureD news (.int (newerI l l'))) := by
  unfold Ctr
  obtain ⟨a, n, t0, t1, t2, t3, t4, t5, t6, rfl, hm⟩ := headD_open hD
  obtain ⟨a', n', t0', t1', t2', t3', t4', t5', t6', rfl, hm'⟩ := headD_open hD'
  intros
  rename_i hret
  refine wpAny_call ?_
  walk_at "my enter"
  k_steps
  all_goals (refine hret _ _ _ _ (by k_asm) (by k_asm) ⟨by walk_at "suf", dat_int ?_⟩)
  all_goals first | exact nw1 (by assumption) (by omega) | exact nw2 (by assumption) (by omega) | exact nw3 (by assumption) (by assumption) (by assumption) | exact nw4 (by assumption) (by assumption) (by omega) | exact nw5 (by assumption) (by assumption) (by assumption) (by assumption) | exact nw6 (by assumption) (by assumption) (by assumption) (by omega) | exact nw7 (by assumption) (by assumption) (by omega)
def optD : Option Lsa → Dat
  | none => .none
  | some l => lsaD l
def changedB : Option Lsa → Lsa → Bool
  | none, _ => true
  | some o, l => if ((o.age == 3600) != (l.age == 3600)) = true then true else !(o.c == l.c)
theorem ch1 {o l : Lsa} (h : ((o.age == 3600) != (l.age == 3600)) = true) : true = changedB (some o) l := by simp only [changedB, if_pos h]
open Classical in
theorem ch2 {o l : Lsa} (h : ((o.age == 3600) != (l.age == 3600)) = false) : (!decide (contD o.c = contD l.c)) = changedB (some o) l := by
  simp only [changedB, h, Bool.false_eq_true, if_false, contD_inj]
  by_cases k : o.c = l.c <;> simp [k]
theorem is_changed_none_c (w : World) (news : Led) (v : Value) (l' : Lsa) :
   Ctr PR w (hd.heap_39 w.params) 58 1 90 [.none, v] news (PureD news (.bool (changedB none l'))) := by
  unfold Ctr
  intros
  rename_i hret
  refine wpAny_call ?_
  walk_at "my enter"
  k_steps
  all_goals (refine hret _ _ _ _ (by k_asm) (by k_asm) ⟨by walk_at "suf", by walk_at "dat"⟩)
theorem is_changed_some_c (w : World) (news : Led) (v v' : Value) (l l' : Lsa) (hD : DatIn news v (lsaD l)) (hD' : DatIn news v' (lsaD l')) :
   Ctr PR w (hd.heap_39 w.params) 58 1 90 [v, v'] news (PureD news (.bool (changedB (some l) l'))) := by
  unfold Ctr
  obtain ⟨a, n, hv, cv, rfl, hm, hH, hC⟩ := lsaD_open hD
  obtain ⟨a1, n1, t0, t1, t2, t3, t4, t5, t6, rfl, hm1⟩ := headD_open hH
  obtain ⟨a', n', hv', cv', rfl, hm', hH', hC'⟩ := lsaD_open hD'
  obtain ⟨ca, rfl⟩ := tup_ref hC
  obtain ⟨ca', rfl⟩ := tup_ref hC'
  obtain ⟨a1', n1', t0', t1', t2', t3', t4', t5', t6', rfl, hm1'⟩ := headD_open hH'
  intros
  rename_i hret
  refine wpAny_call ?_
  walk_at "my enter"
  k_steps
  all_goals (refine hret _ _ _ _ (by k_asm) (by k_asm) ⟨by walk_at "suf", dat_bool ?_⟩)
  all_goals first | exact ch1 (by assumption) | exact ch2 (by assumption)
theorem is_changed_c (w : World) (news : Led) (v v' : Value) (o : Option Lsa) (l' : Lsa) (hD : DatIn news v (optD o)) (hD' : DatIn news v' (lsaD l')) :
   Ctr PR w (hd.heap_39 w.params) 58 1 90 [v, v'] news (PureD news (.bool (changedB o l'))) := by
  cases o with
  | none => cases hD; exact is_changed_none_c w news v' l'
  | some l => exact is_changed_some_c w news v v' l l' hD hD'
end
section
example : True := by
  k_with_none
  k_with "my enter" => first | (k_dflt (first | (refine' code_def ?k1q0 ?k2q0 ?k3q0 ?k4q0 ?k5q0 ?kAq0 ?kFq0 ?kKq0 ?k6q0 ?k7q0 ?k8q0 ?k9q0 ?kBq0 ?_ ?c2q0 ?c3q0 ?c4q0 ?c5q0; (case kAq0 => exact rfl); (case kFq0 => exact rfl); (case kKq0 => assumption); (case k1q0 => k_asm); (case k2q0 => k_asm); (case k3q0 => k_asm); (case k4q0 => k_asm); (case k5q0 => k_asm); (case k6q0 => k_is); (case k7q0 => k_is); (case k8q0 => ktr_room); (case k9q0 => first | exact BindsTo.of_eq rfl | exact binds_K (by k_in) rfl (by k_is) rfl rfl rfl); (case c5q0 => decide); (case kBq0 => exact locs rfl); (case c2q0 => exact rfl); (case c3q0 => exact rfl); (case c4q0 => exact rfl); k_whole; intro g' L' h' FG' F' N' B' X' T'; (try dsimp only); (try k_lift B'); (try k_fold)) | (refine' code_defC ?k1q0 ?k2q0 ?k3q0 ?k4q0 ?k5q0 ?kAq0 ?kFq0 ?kKq0 ?k6q0 ?k7q0 ?k8q0 ?k9q0 ?kBq0 ?kDq0 ?_ ?c2q0 ?c3q0 ?c4q0; (case kAq0 => exact rfl); (case kFq0 => exact rfl); (case kKq0 => assumption); (case k1q0 => k_asm); (case k2q0 => k_asm); (case k3q0 => k_asm); (case k4q0 => k_asm); (case k5q0 => k_asm); (case k6q0 => k_is); (case k7q0 => k_is); (case k8q0 => ktr_room); (case k9q0 => first | exact BindsTo.of_eq rfl | exact binds_K (by k_in) rfl (by k_is) rfl rfl rfl); (case kBq0 => exact rfl); (case kDq0 => decide +kernel); (case c2q0 => exact rfl); (case c3q0 => exact rfl); (case c4q0 => exact rfl); k_whole; intro g' L' h' tk' cells' FG' F' N' Y' B' X' T' l1; (try k_lt l1); k_cells Y'; (try simp only [List.cons_append, List.nil_append] at N'); (try dsimp only); (try k_lift B'); (try k_fold)))) | fail "no"
  k_with "mem" => first | (first | with_reducible assumption | exact List.Mem.head _ | ((with_reducible refine List.mem_cons_of_mem _ ?_); k_extra "mem") | ((with_reducible refine List.mem_append_right _ ?_); k_extra "mem") | k_extra "memx") | fail "no"
  k_with "sub" => first | (first | with_reducible exact fun _ h => h | ((with_reducible refine fun p h => List.mem_cons_of_mem _ ?_); revert p h; k_extra "sub") | ((with_reducible refine fun p h => List.mem_append_right _ ?_); revert p h; k_extra "sub") | with_reducible assumption) | fail "no"
  k_with "suf" => first | (first | with_reducible exact List.suffix_refl _ | ((with_reducible refine List.IsSuffix.trans ?_ (List.suffix_cons _ _)); k_extra "suf") | ((with_reducible refine List.IsSuffix.trans ?_ (List.suffix_append _ _)); k_extra "suf")) | fail "no"
  k_with "inteq" => first | (first | rfl | omega | (split <;> omega) | ((simp only [Lsa.aged]); (first | rfl | omega | (split <;> omega)))) | fail "no"
  k_with "dat" => first | (first | exact DatIn.none | exact DatIn.bool _ | with_reducible assumption | (refine dat_int ?_; k_extra "inteq") | exact DatIn.str _ _ | (refine' DatIn.mono ?hsq5 ?hdq5; (case hdq5 => with_reducible assumption); (case hsq5 => k_extra "sub")) | (refine' DatIn.tuple ?hmq5 ?hdq5; (case hmq5 => k_extra "mem"); (case hdq5 => k_extra "datall")) | (refine' DatIn.list ?hmq5 ?hdq5; (case hmq5 => k_extra "mem"); (case hdq5 => k_extra "datall")) | (refine' DatIn.mono ?hsq5 ?hdq5; (case hdq5 => assumption); (case hsq5 => k_extra "sub"))) | fail "no"
  k_with "datall" => first | (first | exact DatAll.nil | (refine' DatAll.cons ?_ ?_; (next => k_extra "dat"); (next => k_extra "datall")) | (refine' datAll_mono ?hsq6 ?hdq6; (case hdq6 => with_reducible assumption); (case hsq6 => k_extra "sub")) | k_extra "datallx") | fail "no"
  k_with "room" => first | (((try simp only [depth_under_make, depth_under_kw, depth_in1, depth_deeper, depth_caller]); (try dsimp only); first | omega | ktr_room)) | fail "no"
  k_with "units" => first | (((try simp only [units_in1, units_deeper, Around.mark_units, units_caller]); (try dsimp only); first | omega | ktr_units)) | fail "no"
  k_with "subscriptTail Name Slice ref ref" => first | ((k_here; k_dflt (refine' tup_from1 ?Fq9 ?Nq9 ?lq9 ?_ ?sq9 ?tq9 ?zq9; (case Fq9 => k_asm); (case Nq9 => k_asm); (case lq9 => k_extra "mem"); (case sq9 => with_unfolding_all rfl); (case tq9 => (intro _; with_unfolding_all rfl)); (case zq9 => exact Nat.le_of_ble_eq_true rfl)); intro D' h' F' N' l1; (try k_sweep))) | fail "no"
  k_with "binaryOp Add ref ref" => first | ((k_here; k_dflt (refine' tup_add ?Fq10 ?Nq10 ?lq10 ?rq10 ?_ ?zq10; (case Fq10 => k_asm); (case Nq10 => k_asm); (case lq10 => k_extra "mem"); (case rq10 => k_extra "mem"); (case zq10 => exact Nat.le_of_ble_eq_true rfl)); intro D' h' F' N' l1; (try dsimp only [List.cons_append, List.nil_append] at N'); (try k_sweep))) | fail "no"
  k_with "kok" => first | (first | exact ok_cont _ _ | exact ok_head _ _ | exact ok_key _ _ | exact ok_lsa _ _) | fail "no"
  k_with "compareOp NotEq ref" => first | ((k_here; k_dflt (refine' dat_cmp_ne ?Nq12 ?aq12 ?bq12 ?kaq12 ?kbq12 ?huq12 ?_; (case Nq12 => k_asm); (case aq12 => k_extra "dat"); (case bq12 => k_extra "dat"); (case kaq12 => k_extra "kok"); (case kbq12 => k_extra "kok"); (case huq12 => ktr_units)))) | fail "no"
  k_with "ctr ends" => first | (( (case Bq13 => k_asm); (case Fq13 => k_asm); (case Xq13 => k_asm); (case Nq13 => k_asm); (case Tq13 => k_asm); (case hkq13 => first | exact rfl | assumption); (case hdq13 => ktr_room); (case huq13 => ktr_units))) | fail "no"
  k_with "call ref" => first | ((k_here; k_dflt (refine' Ctr.use (aged_head_c _ _ _ _ _ _ ?hDq14) ?Bq14 ?Fq14 ?Xq14 ?Nq14 ?Tq14 ?hkq14 ?hdq14 ?huq14 ?_; (case Bq14 => k_asm); (case Fq14 => k_asm); (case Xq14 => k_asm); (case Nq14 => k_asm); (case Tq14 => k_asm); (case hDq14 => k_extra "dat"); (case hkq14 => first | exact rfl | assumption); (case hdq14 => k_extra "room"); (case huq14 => k_extra "units"); k_whole; intro r' news' h' tk' F' N' P'; obtain ⟨⟨tl', e'⟩, d'⟩ := P'; subst e'); (try dsimp only); (try k_fold))) | fail "no"
  k_with "call ref" => first | ((k_here; k_dflt (refine' Ctr.use (key_of_c _ _ _ _ ?hDq15) ?Bq15 ?Fq15 ?Xq15 ?Nq15 ?Tq15 ?hkq15 ?hdq15 ?huq15 ?_; (case Bq15 => k_asm); (case Fq15 => k_asm); (case Xq15 => k_asm); (case Nq15 => k_asm); (case Tq15 => k_asm); (case hDq15 => k_extra "dat"); (case hkq15 => first | exact rfl | assumption); (case hdq15 => k_extra "room"); (case huq15 => k_extra "units"); k_whole; intro r' news' h' tk' F' N' P'; obtain ⟨⟨tl', e'⟩, d'⟩ := P'; subst e'); (try dsimp only); (try k_fold))) | fail "no"
  k_with "call ref" => first | ((k_here; k_dflt (refine' Ctr.use (aged_c _ _ _ _ _ _ ?hDq16) ?Bq16 ?Fq16 ?Xq16 ?Nq16 ?Tq16 ?hkq16 ?hdq16 ?huq16 ?_; (case Bq16 => k_asm); (case Fq16 => k_asm); (case Xq16 => k_asm); (case Nq16 => k_asm); (case Tq16 => k_asm); (case hDq16 => k_extra "dat"); (case hkq16 => first | exact rfl | assumption); (case hdq16 => k_extra "room"); (case huq16 => k_extra "units"); k_whole; intro r' news' h' tk' F' N' P'; obtain ⟨⟨tl', e'⟩, d'⟩ := P'; subst e'); (try dsimp only); (try k_fold))) | fail "no"
  k_with "db" => first | (first | with_reducible assumption | (refine' DbIs.sub ?hsq17 ?hdq17; (case hdq17 => with_reducible assumption); (case hsq17 => k_extra "sub"))) | fail "no"
  k_with "compareOp NotIn" => first | ((k_here; (with_reducible show wpAny _ _ (compareOp CmpOp.NotIn (Value.ref _) (Value.ref _)) _ _ _); k_dflt (first | (refine' rows_notIn_some ?Nq18 ?dq18 ?kq18 ?uq18 ?bq18 ?_; (case Nq18 => k_asm); (case dq18 => k_extra "db"); (case kq18 => k_extra "dat"); (case uq18 => ktr_units); (case bq18 => with_reducible assumption)) | (refine' rows_notIn_none ?Nq18 ?dq18 ?kq18 ?uq18 ?bq18 ?_; (case Nq18 => k_asm); (case dq18 => k_extra "db"); (case kq18 => k_extra "dat"); (case uq18 => ktr_units); (case bq18 => with_reducible assumption))); intro tk')) | fail "no"
  k_with "subscriptTail" => first | ((k_here; (with_reducible show wpAny _ _ (subscriptTail _ _ (Value.ref _) (Value.ref _)) _ _ _); k_dflt (refine' rows_item ?Nq19 ?dq19 ?kq19 ?uq19 ?rq19 ?_ ?sq19 ?gq19; (case Nq19 => k_asm); (case dq19 => k_extra "db"); (case kq19 => k_extra "dat"); (case uq19 => ktr_units); (case rq19 => with_reducible assumption); (case sq19 => with_unfolding_all rfl); (case gq19 => (intro _; with_unfolding_all rfl))); intro v' tk' dv'; k_dflt (obtain ⟨a', n', lv', t', e', hm', dl'⟩ := rvD_open dv'; subst e'))) | fail "no"
  trivial
/-- what is told of a key -/
def lookRow (D : List Rw) (k : Key) (now : Int) : Option Lsa := (rowAt D k).map fun r => r.1.aged (now - r.2)
theorem look_some_c (w : World) (news : Led) (x d : Addr) (kv : Value) (k : Key) (D : List Rw) (r : Rw) (now : Int) (ts : Tok) (ho : DbObj news x d) (hdb : DbIs w news d D) (hk : DatIn news kv (keyD k)) (hr : rowAt D k = some r) :
   Ctr PR w (hd.heap_39 w.params) 86 4 200 [.ref x, kv, .int now ts] news (PureD news (lsaD (r.1.aged (now - r.2)))) := by
  unfold Ctr
  obtain ⟨dx, hs, t, n, hx, hdx⟩ := ho
  obtain ⟨ka, rfl⟩ := tup_ref hk
  intros
  rename_i hret
  refine wpAny_call ?_
  walk_at "my enter"
  k_steps
  exact hret _ _ _ _ (by k_asm) (by k_asm) ⟨by walk_at "suf", by walk_at "dat"⟩
theorem look_none_c (w : World) (news : Led) (x d : Addr) (kv : Value) (k : Key) (D : List Rw) (now : Int) (ts : Tok) (ho : DbObj news x d) (hdb : DbIs w news d D) (hk : DatIn news kv (keyD k)) (hr : rowAt D k = none) :
   Ctr PR w (hd.heap_39 w.params) 86 4 200 [.ref x, kv, .int now ts] news (PureD news .none) := by
  unfold Ctr
  obtain ⟨dx, hs, t, n, hx, hdx⟩ := ho
  obtain ⟨ka, rfl⟩ := tup_ref hk
  intros
  rename_i hret
  refine wpAny_call ?_
  walk_at "my enter"
  k_steps
  exact hret _ _ _ _ (by k_asm) (by k_asm) ⟨by walk_at "suf", by walk_at "dat"⟩
theorem look_c (w : World) (news : Led) (x d : Addr) (kv : Value) (k : Key) (D : List Rw) (now : Int) (ts : Tok) (ho : DbObj news x d) (hdb : DbIs w news d D) (hk : DatIn news kv (keyD k)) :
   Ctr PR w (hd.heap_39 w.params) 86 4 200 [.ref x, kv, .int now ts] news (PureD news (optD (lookRow D k now))) := by
  unfold lookRow
  cases hr : rowAt D k with
  | none => exact look_none_c w news x d kv k D now ts ho hdb hk hr
  | some r => exact look_some_c w news x d kv k D r now ts ho hdb hk hr
theorem dbObj_sub {news news' : Led} {x d : Addr} (hs : ∀ p ∈ news, p ∈ news') (h : DbObj news x d) : DbObj news' x d := (Ext.of_sub hs).obj x d h
end
section
example : True := by
  k_with_none
  k_with "my enter" => first | (k_dflt (first | (refine' code_def ?k1q0 ?k2q0 ?k3q0 ?k4q0 ?k5q0 ?kAq0 ?kFq0 ?kKq0 ?k6q0 ?k7q0 ?k8q0 ?k9q0 ?kBq0 ?_ ?c2q0 ?c3q0 ?c4q0 ?c5q0; (case kAq0 => exact rfl); (case kFq0 => exact rfl); (case kKq0 => assumption); (case k1q0 => k_asm); (case k2q0 => k_asm); (case k3q0 => k_asm); (case k4q0 => k_asm); (case k5q0 => k_asm); (case k6q0 => k_is); (case k7q0 => k_is); (case k8q0 => ktr_room); (case k9q0 => first | exact BindsTo.of_eq rfl | exact binds_K (by k_in) rfl (by k_is) rfl rfl rfl); (case c5q0 => decide); (case kBq0 => exact locs rfl); (case c2q0 => exact rfl); (case c3q0 => exact rfl); (case c4q0 => exact rfl); k_whole; intro g' L' h' FG' F' N' B' X' T'; (try dsimp only); (try k_lift B'); (try k_fold)) | (refine' code_defC ?k1q0 ?k2q0 ?k3q0 ?k4q0 ?k5q0 ?kAq0 ?kFq0 ?kKq0 ?k6q0 ?k7q0 ?k8q0 ?k9q0 ?kBq0 ?kDq0 ?_ ?c2q0 ?c3q0 ?c4q0; (case kAq0 => exact rfl); (case kFq0 => exact rfl); (case kKq0 => assumption); (case k1q0 => k_asm); (case k2q0 => k_asm); (case k3q0 => k_asm); (case k4q0 => k_asm); (case k5q0 => k_asm); (case k6q0 => k_is); (case k7q0 => k_is); (case k8q0 => ktr_room); (case k9q0 => first | exact BindsTo.of_eq rfl | exact binds_K (by k_in) rfl (by k_is) rfl rfl rfl); (case kBq0 => exact rfl); (case kDq0 => decide +kernel); (case c2q0 => exact rfl); (case c3q0 => exact rfl); (case c4q0 => exact rfl); k_whole; intro g' L' h' tk' cells' FG' F' N' Y' B' X' T' l1; (try k_lt l1); k_cells Y'; (try simp only [List.cons_append, List.nil_append] at N'); (try dsimp only); (try k_lift B'); (try k_fold)))) | fail "no"
  k_with "mem" => first | (first | with_reducible assumption | exact List.Mem.head _ | ((with_reducible refine List.mem_cons_of_mem _ ?_); k_extra "mem") | ((with_reducible refine List.mem_append_right _ ?_); k_extra "mem") | k_extra "memx") | fail "no"
  k_with "sub" => first | (first | with_reducible exact fun _ h => h | ((with_reducible refine fun p h => List.mem_cons_of_mem _ ?_); revert p h; k_extra "sub") | ((with_reducible refine fun p h => List.mem_append_right _ ?_); revert p h; k_extra "sub") | with_reducible assumption) | fail "no"
  k_with "suf" => first | (first | with_reducible exact List.suffix_refl _ | ((with_reducible refine List.IsSuffix.trans ?_ (List.suffix_cons _ _)); k_extra "suf") | ((with_reducible refine List.IsSuffix.trans ?_ (List.suffix_append _ _)); k_extra "suf")) | fail "no"
  k_with "inteq" => first | (first | rfl | omega | (split <;> omega) | ((simp only [Lsa.aged]); (first | rfl | omega | (split <;> omega)))) | fail "no"
  k_with "dat" => first | (first | exact DatIn.none | exact DatIn.bool _ | with_reducible assumption | (refine dat_int ?_; k_extra "inteq") | exact DatIn.str _ _ | (refine' DatIn.mono ?hsq5 ?hdq5; (case hdq5 => with_reducible assumption); (case hsq5 => k_extra "sub")) | (refine' DatIn.tuple ?hmq5 ?hdq5; (case hmq5 => k_extra "mem"); (case hdq5 => k_extra "datall")) | (refine' DatIn.list ?hmq5 ?hdq5; (case hmq5 => k_extra "mem"); (case hdq5 => k_extra "datall")) | (refine' DatIn.mono ?hsq5 ?hdq5; (case hdq5 => assumption); (case hsq5 => k_extra "sub"))) | fail "no"
  k_with "datall" => first | (first | exact DatAll.nil | (refine' DatAll.cons ?_ ?_; (next => k_extra "dat"); (next => k_extra "datall")) | (refine' datAll_mono ?hsq6 ?hdq6; (case hdq6 => with_reducible assumption); (case hsq6 => k_extra "sub")) | k_extra "datallx") | fail "no"
  k_with "room" => first | (((try simp only [depth_under_make, depth_under_kw, depth_in1, depth_deeper, depth_caller]); (try dsimp only); first | omega | ktr_room)) | fail "no"
  k_with "units" => first | (((try simp only [units_in1, units_deeper, Around.mark_units, units_caller]); (try dsimp only); first | omega | ktr_units)) | fail "no"
  k_with "subscriptTail Name Slice ref ref" => first | ((k_here; k_dflt (refine' tup_from1 ?Fq9 ?Nq9 ?lq9 ?_ ?sq9 ?tq9 ?zq9; (case Fq9 => k_asm); (case Nq9 => k_asm); (case lq9 => k_extra "mem"); (case sq9 => with_unfolding_all rfl); (case tq9 => (intro _; with_unfolding_all rfl)); (case zq9 => exact Nat.le_of_ble_eq_true rfl)); intro D' h' F' N' l1; (try k_sweep))) | fail "no"
  k_with "binaryOp Add ref ref" => first | ((k_here; k_dflt (refine' tup_add ?Fq10 ?Nq10 ?lq10 ?rq10 ?_ ?zq10; (case Fq10 => k_asm); (case Nq10 => k_asm); (case lq10 => k_extra "mem"); (case rq10 => k_extra "mem"); (case zq10 => exact Nat.le_of_ble_eq_true rfl)); intro D' h' F' N' l1; (try dsimp only [List.cons_append, List.nil_append] at N'); (try k_sweep))) | fail "no"
  k_with "kok" => first | (first | exact ok_cont _ _ | exact ok_head _ _ | exact ok_key _ _ | exact ok_lsa _ _) | fail "no"
  k_with "compareOp NotEq ref" => first | ((k_here; k_dflt (refine' dat_cmp_ne ?Nq12 ?aq12 ?bq12 ?kaq12 ?kbq12 ?huq12 ?_; (case Nq12 => k_asm); (case aq12 => k_extra "dat"); (case bq12 => k_extra "dat"); (case kaq12 => k_extra "kok"); (case kbq12 => k_extra "kok"); (case huq12 => ktr_units)))) | fail "no"
  k_with "ctr ends" => first | (( (case Bq13 => k_asm); (case Fq13 => k_asm); (case Xq13 => k_asm); (case Nq13 => k_asm); (case Tq13 => k_asm); (case hkq13 => first | exact rfl | assumption); (case hdq13 => ktr_room); (case huq13 => ktr_units))) | fail "no"
  k_with "call ref" => first | ((k_here; k_dflt (refine' Ctr.use (aged_head_c _ _ _ _ _ _ ?hDq14) ?Bq14 ?Fq14 ?Xq14 ?Nq14 ?Tq14 ?hkq14 ?hdq14 ?huq14 ?_; (case Bq14 => k_asm); (case Fq14 => k_asm); (case Xq14 => k_asm); (case Nq14 => k_asm); (case Tq14 => k_asm); (case hDq14 => k_extra "dat"); (case hkq14 => first | exact rfl | assumption); (case hdq14 => k_extra "room"); (case huq14 => k_extra "units"); k_whole; intro r' news' h' tk' F' N' P'; obtain ⟨⟨tl', e'⟩, d'⟩ := P'; subst e'); (try dsimp only); (try k_fold))) | fail "no"
  k_with "call ref" => first | ((k_here; k_dflt (refine' Ctr.use (key_of_c _ _ _ _ ?hDq15) ?Bq15 ?Fq15 ?Xq15 ?Nq15 ?Tq15 ?hkq15 ?hdq15 ?huq15 ?_; (case Bq15 => k_asm); (case Fq15 => k_asm); (case Xq15 => k_asm); (case Nq15 => k_asm); (case Tq15 => k_asm); (case hDq15 => k_extra "dat"); (case hkq15 => first | exact rfl | assumption); (case hdq15 => k_extra "room"); (case huq15 => k_extra "units"); k_whole; intro r' news' h' tk' F' N' P'; obtain ⟨⟨tl', e'⟩, d'⟩ := P'; subst e'); (try dsimp only); (try k_fold))) | fail "no"
  k_with "call ref" => first | ((k_here; k_dflt (refine' Ctr.use (aged_c _ _ _ _ _ _ ?hDq16) ?Bq16 ?Fq16 ?Xq16 ?Nq16 ?Tq16 ?hkq16 ?hdq16 ?huq16 ?_; (case Bq16 => k_asm); (case Fq16 => k_asm); (case Xq16 => k_asm); (case Nq16 => k_asm); (case Tq16 => k_asm); (case hDq16 => k_extra "dat"); (case hkq16 => first | exact rfl | assumption); (case hdq16 => k_extra "room"); (case huq16 => k_extra "units"); k_whole; intro r' news' h' tk' F' N' P'; obtain ⟨⟨tl', e'⟩, d'⟩ := P'; subst e'); (try dsimp only); (try k_fold))) | fail "no"
  k_with "db" => first | (first | with_reducible assumption | (refine' DbIs.sub ?hsq17 ?hdq17; (case hdq17 => with_reducible assumption); (case hsq17 => k_extra "sub"))) | fail "no"
  k_with "compareOp NotIn" => first | ((k_here; (with_reducible show wpAny _ _ (compareOp CmpOp.NotIn (Value.ref _) (Value.ref _)) _ _ _); k_dflt (first | (refine' rows_notIn_some ?Nq18 ?dq18 ?kq18 ?uq18 ?bq18 ?_; (case Nq18 => k_asm); (case dq18 => k_extra "db"); (case kq18 => k_extra "dat"); (case uq18 => ktr_units); (case bq18 => with_reducible assumption)) | (refine' rows_notIn_none ?Nq18 ?dq18 ?kq18 ?uq18 ?bq18 ?_; (case Nq18 => k_asm); (case dq18 => k_extra "db"); (case kq18 => k_extra "dat"); (case uq18 => ktr_units); (case bq18 => with_reducible assumption))); intro tk')) | fail "no"
  k_with "subscriptTail" => first | ((k_here; (with_reducible show wpAny _ _ (subscriptTail _ _ (Value.ref _) (Value.ref _)) _ _ _); k_dflt (refine' rows_item ?Nq19 ?dq19 ?kq19 ?uq19 ?rq19 ?_ ?sq19 ?gq19; (case Nq19 => k_asm); (case dq19 => k_extra "db"); (case kq19 => k_extra "dat"); (case uq19 => ktr_units); (case rq19 => with_reducible assumption); (case sq19 => with_unfolding_all rfl); (case gq19 => (intro _; with_unfolding_all rfl))); intro v' tk' dv'; k_dflt (obtain ⟨a', n', lv', t', e', hm', dl'⟩ := rvD_open dv'; subst e'))) | fail "no"
  k_with "obj" => first | (first | with_reducible assumption | (refine' dbObj_sub ?hsq20 ?hdq20; (case hdq20 => with_reducible assumption); (case hsq20 => k_extra "sub")) | (refine' ⟨_, _, _, _, ?m1q20, ?m2q20⟩; (case m1q20 => k_extra "mem"); (case m2q20 => k_extra "mem"))) | fail "no"
  k_with "call builtin:sorted" => first | ((k_here; (with_reducible show wpAny _ _ (call (Value.builtin "sorted") [Value.ref _]) _ _ _); k_dflt (refine' rows_sorted ?hhq21 ?Fq21 ?Nq21 ?dq21 ?_; (case hhq21 => rfl); (case Fq21 => k_asm); (case Nq21 => k_asm); (case dq21 => k_extra "db")); intro B' h' c' tk' vs' F' N' l1 dv')) | fail "no"
  trivial
theorem listD_open {news : Led} {v : Value} {ds : List Dat} (h : DatIn news v (.list ds)) : ∃ a vs n, v = .ref a ∧ (a, W.listOf (List.toArray vs) n) ∈ news ∧ DatAll news vs ds := by
  cases h with
  | list hm r => exact ⟨_, _, _, rfl, hm, r⟩
theorem keys_c (w : World) (news : Led) (x d : Addr) (D : List Rw) (ho : DbObj news x d) (hdb : DbIs w news d D) :
   Ctr PR w (hd.heap_39 w.params) 107 2 200 [.ref x] news (PureD news (.list ((sortKeys D).map keyD))) := by
  unfold Ctr
  obtain ⟨dx, hs, t, n, hx, hdx⟩ := ho
  intros
  rename_i hret
  refine wpAny_call ?_
  walk_at "my enter"
  k_steps
  exact hret _ _ _ _ (by k_asm) (by k_asm) ⟨by walk_at "suf", by walk_at "dat"⟩
end
section
example : True := by
  k_with_none
  trivial
/-- what a turn of a comprehension leaves: the three of the comprehension stay -/
def TEnd (h₀ : Heap) (L : Addr) (m : Str → Option Value) (s₁ : Shared) (keep : Led) (I C D : Addr) (rest : Led → Prop) (s₂ : Shared) : Prop :=
  ∃ h' tk all, s₂ = { s₁ with heap := h', toks := tk } ∧ Fr h₀ L h' m ∧ News h₀ L h' all ∧ (∀ p ∈ keep, p ∈ all) ∧ rest (all.filter fun p => decide (p.1 ≠ I ∧ p.1 ≠ C ∧ p.1 ≠ D))
abbrev lstO (ys : List Value) : Obj := LCg.lst ys
def Turns (prog : Program) (w : World) (A : Around) (h₀ : Heap) (L : Addr) (m : Str → Option Value) (env : Env) (ifs : List Expr) (elt : Expr) (x : Str) (scope : Scope) (cl : List (Str × Addr)) (s : Shared) (its : Array Value) (Inv : Nat → List Value → Led → Prop) : Prop :=
  ∀ i ys news v I oI C oC D m₂ h tk (E' : Value → Shared → Prop), its[i]? = some v → Inv i ys news → oI.cls = .type "list_iterator" → LCg.NsObj oC m₂ → m₂ x = some v → Fr h₀ L h m → News h₀ L h ((I, oI) :: (C, oC) :: (D, lstO ys) :: news) → LCg.Off3 I C D news →
    wpAny (model prog w) A (forIn ifs true fun c r => if r = true then do let ok ← isTrue c (compEnvC scope cl C env) (eval c (compEnvC scope cl C env)); pure (ForInStep.yield ok) else pure (ForInStep.yield r)) (fun ok s' => if ok = true then
      wpAny (model prog w) A (eval elt (compEnvC scope cl C env)) (fun y s'' => TEnd h₀ L m { s with heap := h, toks := tk } [(I, oI), (C, oC), (D, lstO ys)] I C D (Inv (i + 1) (ys ++ [y])) s'') E' s'
      else TEnd h₀ L m { s with heap := h, toks := tk } [(I, oI), (C, oC), (D, lstO ys)] I C D (Inv (i + 1) ys) s') E' { s with heap := h, toks := tk }
theorem off3_filter {I C D : Addr} (all : Led) : LCg.Off3 I C D (all.filter fun p => decide (p.1 ≠ I ∧ p.1 ≠ C ∧ p.1 ≠ D)) :=
  LCg.Off3.of fun p hp => by have := (List.mem_filter.mp hp).2; simpa using this
theorem blk {prog : Program} {w : World} {A : Around} {E : Value → Shared → Prop} {s : Shared} {h₀ : Heap} {L ax : Addr} {m : Str → Option Value} {env : Env} {elt iter : Expr} {ifs : List Expr} {x : Str} {px : Pos} {scope : Scope} {cl : List (Str × Addr)} {pos : Pos}
    {news : Led} {its : Array Value} {k : Nat} {Inv : Nat → List Value → Led → Prop} {RR : Value → Addr → Result → Shared → Prop}
    (hh : A.handled = none) (F : Fr h₀ L s.heap m) (N : News h₀ L s.heap news) (hax : (ax, W.listOf its k) ∈ news) (hsz : its.size ≤ sizeLine)
    (hcell : ∀ y ∈ scope.names, y.2 ≠ .cell) (hkind : scope.kind = .function) (hx : scope.names.lookup x = some .local)
    (hInv : ∀ i ys ns, Inv i ys ns → ∃ k, (ax, W.listOf its k) ∈ ns) (h0 : Inv 0 [] news)
    (turn : Turns prog w A h₀ L m env ifs elt x scope cl s its Inv)
    (fin : ∀ D C h tk m' ys ns, Inv its.size ys ns → Fr h₀ L h m → News h₀ L h ((D, lstO ys) :: ns) → LCg.Off1 D ns → h.Ns C m' → h₀.get? C = none → C ≠ L → D ≠ L → C ≠ D → (∀ p ∈ ns, p.1 ≠ C) → RR (.ref D) C (.ok .next) { s with heap := h, toks := tk }) :
    wpAny (model prog w) A (pyIter (.ref ax)) (fun it s₂ => wpAny (model prog w) A (newList []) (fun acc s₃ => wpAny (model prog w) A (newFunctionEnv scope env.globals cl [] env.qual none .none (some env)) (fun cenv s₄ =>
      codeAny (model prog w) A (.compStart (.ListComp elt [⟨.Name x px, iter, ifs, 0⟩] scope pos) 0 it acc { cenv with scope := relabel scope env }) (RR acc cenv.locals) s₄) E s₃) E s₂) E s := by
  have hl : s.heap.IsList ax its := ⟨_, N.get hax, rfl, _, rfl⟩
  have hlt : ax < s.heap.objs.size := Heap.lt_size (N.get hax)
  refine wpAny_pyIter_list hl ?_
  have up : ∀ b o, s.heap.get? b = some o → (s.heap.push { cls := .type "list_iterator", data := .fields #[.ref ax, .int 0 0] }).get? b = some o := fun b o e => Heap.get?_push_of_some _ e
  have W := Walks.list (prog := prog) (w := w) hh s.heap.objs.size ax (Nat.ne_of_lt hlt) its
  have st0 : ∀ h' : Heap, (∀ b o, (s.heap.push { cls := .type "list_iterator", data := .fields #[.ref ax, .int 0 0] }).get? b = some o → h'.get? b = some o) → h'.IsListIter s.heap.objs.size ax 0 ∧ h'.IsList ax its := fun h' e =>
    ⟨⟨_, e _ _ (Heap.get?_push_size _ rfl), rfl, rfl⟩, ⟨_, e _ _ (up _ _ (N.get hax)), rfl, _, rfl⟩⟩
  have F1 := F.keeps up
  have N1 : News h₀ L _ news := N.grown up
  have offI : ∀ p ∈ news, p.1 ≠ s.heap.objs.size := fun p hp => Nat.ne_of_lt (Heap.lt_size (N p hp).1)
  have hIL : L ≠ s.heap.objs.size := Nat.ne_of_lt F.ns.lt
  have hI₀ : h₀.get? s.heap.objs.size = none := next_is_new F
  have hIsz : s.heap.objs.size < (s.heap.push { cls := .type "list_iterator", data := .fields #[.ref ax, .int 0 0] }).objs.size := by rw [Heap.size_push]; exact Nat.lt_succ_self _
  have haxI : ax ≠ s.heap.objs.size := Nat.ne_of_lt hlt
  generalize hI : s.heap.objs.size = I at W st0 offI hIL hI₀ hIsz haxI ⊢
  generalize hH1 : s.heap.push { cls := .type "list_iterator", data := .fields #[.ref ax, .int 0 0] } = H1 at up st0 F1 N1 hIsz ⊢
  have haxsz : ax < H1.objs.size := Heap.lt_size (N1.get hax)
  refine wpAny_newObj_type (wpAny_newFunctionEnv hcell (by intro y hy; simp at hy) (fun h₁ hns₁ hsb₁ => ?_) hkind)
  dsimp only at hns₁ hsb₁ ⊢
  generalize hH2 : H1.push { cls := .type "list", dict := none, data := .seq ([] : List Value).toArray } = H2 at hns₁ hsb₁ ⊢
  have hC : H2.objs.size = H1.objs.size + 1 := by rw [← hH2, Heap.size_push]
  have fresh₀ : ∀ a, H1.objs.size ≤ a → h₀.get? a = none := fun a ha => by
    cases e : h₀.get? a with
    | none => rfl
    | some o' => exact absurd (Heap.lt_size (F1.keep a o' e)) (Nat.not_lt.mpr ha)
  have hacc : h₁.get? H1.objs.size = some (lstO []) := hsb₁.extBut _ _ (Nat.ne_of_lt (hC ▸ Nat.lt_succ_self _)) (Heap.get?_push_of_some _ (hH2 ▸ Heap.get?_push_size _ rfl))
  have old : ∀ b o, H1.get? b = some o → h₁.get? b = some o := fun b o e => by
    have := Heap.lt_size e
    exact hsb₁.extBut b o (Nat.ne_of_lt (hC ▸ Nat.lt_succ_of_lt this)) (Heap.get?_push_of_some _ (hH2 ▸ Heap.get?_push_of_some _ e))
  have hD₀ : h₀.get? H1.objs.size = none := fresh₀ _ (Nat.le_refl _)
  have hC₀ : h₀.get? H2.objs.size = none := fresh₀ _ (hC ▸ Nat.le_succ _)
  have hLlt := F1.ns.lt
  have ltN : ∀ p ∈ news, p.1 < H1.objs.size := fun p hp => Heap.lt_size (N1 p hp).1
  have hst₁ := st0 h₁ old
  have lC : ∀ b : Addr, b < H1.objs.size → b ≠ H2.objs.size := fun b hb => Nat.ne_of_lt (hC ▸ Nat.lt_succ_of_lt hb)
  have lD : ∀ b : Addr, b < H1.objs.size → b ≠ H1.objs.size := fun b hb => Nat.ne_of_lt hb
  have hDC : H1.objs.size ≠ H2.objs.size := Nat.ne_of_lt (hC ▸ Nat.lt_succ_self _)
  clear hH1 hH2
  generalize H1.objs.size = D at *
  generalize H2.objs.size = C at *
  have hIC := lC _ hIsz
  have hID := lD _ hIsz
  have haC := lC _ haxsz
  have haD := lD _ haxsz
  have hDL : D ≠ L := (lD _ hLlt).symm
  have hCL : C ≠ L := (lC _ hLlt).symm
  have off₀ : LCg.Off3 I C D news := LCg.Off3.of fun p hp => ⟨offI p hp, lC _ (ltN p hp), lD _ (ltN p hp)⟩
  have loop : ∀ s₃ : Shared, s₃ = { s with heap := h₁, toks := s.toks + ([] : List (Str × Value)).length } →
      codeAny (model prog w) A (.compLoop (.ListComp elt [⟨.Name x px, iter, ifs, 0⟩] scope pos) 0 (.ref I) (.ref D) (compEnvC scope cl C env)) (RR (.ref D) C) s₃ := by
    rintro s₃ rfl
    refine codeAny_compLoop_tests
      (fun k s' => ∃ h' tk i ys m' ns, s' = { s with heap := h', toks := tk } ∧ i ≤ its.size ∧ k = its.size + 1 - i ∧ ys.length ≤ i ∧ (h'.IsListIter I ax i ∧ h'.IsList ax its) ∧ Fr h₀ L h' m ∧ h'.Ns C m' ∧ News h₀ L h' ((D, lstO ys) :: ns) ∧
        LCg.Off3 I C D ns ∧ Inv i ys ns) ?_ (its.size + 1)
      ⟨h₁, _, 0, [], _, news, rfl, Nat.zero_le _, rfl, Nat.le_refl _, hst₁, F1.keeps old, hns₁, ?_, off₀, h0⟩
    · rintro k s' ⟨h', tk, i, ys, m', ns, rfl, hi, rfl, hyl, hst', F', hn', N', off', hI'⟩
      have off3 := off'.mem
      by_cases hlt' : i < its.size
      · refine W.item i _ _ _ hlt' hst' fun v h₂ tk₂ hPv hst₂ hk₂ => ?_
        refine wpAny_assign_Name (wpAny_storeName_local (lookup_relabel_local hx) (hn'.at' fun o e => hk₂ _ o (by simpa using hIC.symm) e) (fun h₃ hn₃ hs₃ => ?_) (by simp [compEnvC, relabel, hkind]))
        have hst₃ : h₃.IsListIter I ax (i + 1) ∧ h₃.IsList ax its := W.frame _ _ _ hst₂ fun b hb o e => hs₃.extBut b o (by show b ≠ C; simp at hb; rcases hb with rfl | rfl <;> assumption) e
        obtain ⟨oI, heI, hcI, hdI⟩ := hst₃.1
        obtain ⟨oC, heC, hoC⟩ := LCg.ns_obj hn₃
        have F₃ : Fr h₀ L h₃ m := (LCg.fr_but F' hk₂ hIL hI₀).change hs₃ hCL hC₀
        have N₃ : News h₀ L h₃ ((I, oI) :: (C, oC) :: (D, lstO ys) :: ns) := by
          intro p hp
          rcases List.mem_cons.mp hp with rfl | hp
          · exact ⟨heI, Ne.symm hIL, hI₀⟩
          rcases List.mem_cons.mp hp with rfl | hp
          · exact ⟨heC, hCL, hC₀⟩
          rcases List.mem_cons.mp hp with rfl | hp
          · exact ⟨hs₃.extBut _ _ hDC (hk₂ _ _ (by simpa using hID.symm) (N' _ (.head _)).1), hDL, hD₀⟩
          · have z := N' p (.tail _ hp)
            have o3 := off3 p hp
            exact ⟨hs₃.extBut _ _ o3.2.1 (hk₂ _ _ (by simpa using o3.1) z.1), z.2⟩
        refine wpAny_mono (turn i ys ns v I oI C oC D _ h₃ _ _ hPv hI' hcI hoC (by simp) F₃ N₃ off') (fun ok s₄ h₄ => ?_) fun _ _ e => e
        cases ok with
        | true =>
          simp only [if_true] at h₄ ⊢
          refine wpAny_mono h₄ (fun y s₅ h₅ => ?_) fun _ _ e => e
          obtain ⟨h₆, tk₄, all, rfl, F₄, N₄, kp, R₄⟩ := h₅
          have zI := (N₄ _ (kp (I, oI) (by simp))).1
          have zC := (N₄ _ (kp (C, oC) (by simp))).1
          have zD := (N₄ _ (kp (D, lstO ys) (by simp))).1
          have o4 := (off3_filter (I := I) (C := C) (D := D) all).mem
          have N₅ : News h₀ L h₆ (all.filter fun p => decide (p.1 ≠ I ∧ p.1 ≠ C ∧ p.1 ≠ D)) := fun p hp => N₄ p (List.mem_filter.mp hp).1
          obtain ⟨k', hk'⟩ := hInv _ _ _ R₄
          have hst₄ : h₆.IsListIter I ax (i + 1) ∧ h₆.IsList ax its := ⟨⟨oI, zI, hcI, hdI⟩, ⟨_, N₅.get hk', rfl, _, rfl⟩⟩
          refine append_at (hsz := by show ys.toArray.size ≤ sizeLine; rw [List.size_toArray]; omega) zD fun h₅ hs₅ hD₅ => ?_
          refine ⟨its.size + 1 - (i + 1), by omega, h₅, tk₄, i + 1, ys ++ [y], _, _, rfl, hlt', rfl, by rw [List.length_append, List.length_singleton]; omega, W.frame _ _ _ hst₄ fun b hb o e => hs₅.extBut b o (by show b ≠ D; simp at hb; rcases hb with rfl | rfl <;> assumption) e, F₄.change hs₅ hDL hD₀,
            (hoC.ns zC).sameBut hs₅ hDC.symm, fun p hp => ?_, off3_filter all, R₄⟩
          rcases List.mem_cons.mp hp with rfl | hp
          · exact ⟨hD₅.trans (congrArg some (LCg.lst_snoc ys y)), hDL, hD₀⟩
          · exact ⟨hs₅.extBut _ _ (o4 p hp).2.2 (N₅ p hp).1, (N₅ p hp).2⟩
        | false =>
          simp only [Bool.false_eq_true, if_false] at h₄ ⊢
          obtain ⟨h₆, tk₄, all, rfl, F₄, N₄, kp, R₄⟩ := h₄
          have zI := (N₄ _ (kp (I, oI) (by simp))).1
          have zC := (N₄ _ (kp (C, oC) (by simp))).1
          have N₅ : News h₀ L h₆ (all.filter fun p => decide (p.1 ≠ I ∧ p.1 ≠ C ∧ p.1 ≠ D)) := fun p hp => N₄ p (List.mem_filter.mp hp).1
          obtain ⟨k', hk'⟩ := hInv _ _ _ R₄
          refine ⟨its.size + 1 - (i + 1), by omega, h₆, tk₄, i + 1, ys, _, _, rfl, hlt', rfl, by omega, ⟨⟨oI, zI, hcI, hdI⟩, ⟨_, N₅.get hk', rfl, _, rfl⟩⟩, F₄, hoC.ns zC, fun p hp => ?_, off3_filter all, R₄⟩
          rcases List.mem_cons.mp hp with rfl | hp
          · exact N₄ _ (kp (D, lstO ys) (by simp))
          · exact N₅ p hp
      · obtain rfl : i = its.size := Nat.le_antisymm hi (Nat.not_lt.mp hlt')
        refine W.done _ _ _ hst' fun h₂ tk₂ hk₂ => ?_
        exact fin D C h₂ tk₂ _ ys ns hI' (LCg.fr_but F' hk₂ hIL hI₀) (LCg.news_but N' hk₂ fun p hp => by
          rcases List.mem_cons.mp hp with rfl | hp
          · exact hID.symm
          · exact (off3 p hp).1) off'.one (hn'.at' fun o e => hk₂ _ o (by simpa using hIC.symm) e) hC₀ hCL hDL hDC.symm fun p hp => (off3 p hp).2.1
    · intro p hp
      rcases List.mem_cons.mp hp with rfl | hp
      · exact ⟨hacc, hDL, hD₀⟩
      · exact ⟨old _ _ (N1 p hp).1, (N1 p hp).2⟩
  exact codeAny_compStart_list (loop _ rfl) (W.self 0 _ _ _ hst₁ (loop _ rfl))
end
section
def CSrc (prog : Program) (w : World) (A : Around) (h₀ : Heap) (L : Addr) (m : Str → Option Value) (env : Env) (ifs : List Expr) (elt : Expr) (x : Str) (scope : Scope) (cl : List (Str × Addr)) (Fin : Shared → List Value → Led → Prop) (xv : Value) (s₁ : Shared) : Prop :=
  ∃ ax its k news Inv, xv = .ref ax ∧ A.handled = none ∧ Fr h₀ L s₁.heap m ∧ News h₀ L s₁.heap news ∧ (ax, W.listOf its k) ∈ news ∧ its.size ≤ sizeLine ∧
    (∀ i ys ns, Inv i ys ns → ∃ k, (ax, W.listOf its k) ∈ ns) ∧ Inv 0 [] news ∧ Turns prog w A h₀ L m env ifs elt x scope cl s₁ its Inv ∧ ∀ ys ns, Inv its.size ys ns → Fin s₁ ys ns
theorem lc_eval {prog : Program} {w : World} {A : Around} {E : Value → Shared → Prop} {s : Shared} {h₀ : Heap} {L : Addr} {m : Str → Option Value} {env : Env} {elt iter : Expr} {ifs : List Expr} {x : Str} {px : Pos} {scope : Scope} {cl : List (Str × Addr)} {pos : Pos} {Q : Value → Shared → Prop} (_F₀ : Fr h₀ L s.heap m)
    (hclos : closureFor scope env = pure cl) (hcell : ∀ y ∈ scope.names, y.2 ≠ .cell) (hkind : scope.kind = .function)
    (hnames : ∀ y ∈ scope.names, y.2 = .local → scope.names.lookup y.1 = some .local) (hx : scope.names.lookup x = some .local)
    (h : wpAny (model prog w) A (eval iter env) (CSrc prog w A h₀ L m env ifs elt x scope cl (fun s₂ => LCg.FinE h₀ L m s₂ Q)) E s)
    (hs : ∀ x, foldedSetIterable iter env x = pure x := by intro _; rfl) :
    wpAny (model prog w) A (eval (.ListComp elt [⟨.Name x px, iter, ifs, 0⟩] scope pos) env) Q E s := by
  rw [eval_ListComp]
  refine wpAny_comprehension_free (use := none) rfl hs hclos hkind hnames (wpAny_mono h (fun xv s₁ h₁ => ?_) fun _ _ e => e)
  obtain ⟨ax, its, k, news, Inv, rfl, hh, F, N, hax, hsz, hI, h0, T, fin⟩ := h₁
  refine blk hh F N hax hsz hcell hkind hx hI h0 T ?_
  intro D C h' tk m' ys ns hInv F' N' o1 hn hC₀ hCL hDL hCD offC
  refine ⟨m', hn, fun h'' hs'' => fin ys ns hInv D h'' tk (F'.change hs'' hCL hC₀) (fun p hp => ?_) o1⟩
  refine ⟨hs''.extBut _ _ ?_ (N' p hp).1, (N' p hp).2⟩
  rcases List.mem_cons.mp hp with rfl | hp
  · exact Ne.symm hCD
  · exact offC p hp
theorem lc_assign {prog : Program} {w : World} {A : Around} {E : Value → Shared → Prop} {s : Shared} {h₀ : Heap} {L : Addr} {m : Str → Option Value} {env : Env} {elt iter : Expr} {ifs : List Expr} {x y : Str} {px py : Pos} {scope : Scope} {cl : List (Str × Addr)} {pos spos : Pos} {Q : Flow → Shared → Prop} (_F₀ : Fr h₀ L s.heap m) (hLe : env.locals = L)
    (hsw : swapsWith (.ListComp elt [⟨.Name x px, iter, ifs, 0⟩] scope pos) (some (.Name y py)) spos.line env = pure true)
    (hclos : closureFor scope env = pure cl) (hcell : ∀ z ∈ scope.names, z.2 ≠ .cell) (hkind : scope.kind = .function)
    (hnames : ∀ z ∈ scope.names, z.2 = .local → scope.names.lookup z.1 = some .local) (hx : scope.names.lookup x = some .local)
    (hy : env.kindOf y = some .local) (hp : (env.scope.kind == .class || (env.scope.kind == .module && env.locals != env.globals)) = false)
    (h : wpAny (model prog w) A (eval iter env) (CSrc prog w A h₀ L m env ifs elt x scope cl (fun s₂ => LCg.FinA h₀ L m s₂ y Q)) E s)
    (hs : ∀ x, foldedSetIterable iter env x = pure x := by intro _; rfl) :
    wpAny (model prog w) A (exec (.Assign [.Name y py] (.ListComp elt [⟨.Name x px, iter, ifs, 0⟩] scope pos) spos) env) Q E s := by
  subst hLe
  rw [exec_Assign_Name_used _ _ _ _ hsw]
  refine wpAny_bind (wpAny_standAt (wpAny_bind ?_))
  show wpAny _ A (do let _ ← comprehension (.ListComp elt [⟨.Name x px, iter, ifs, 0⟩] scope pos) scope env _ (newList []) false (eval iter env) (some (assign (.Name y py) env))) _ _ s
  refine wpAny_bind (wpAny_mono (wpAny_comprehension_free (use := some (assign (.Name y py) env)) (Q := fun _ s' => Q .next s') rfl hs hclos hkind hnames
    (wpAny_mono h (fun xv s₁ h₁ => ?_) fun _ _ e => e)) (fun _ s' hq => wpAny_pure (wpAny_pure hq)) fun _ _ e => e)
  obtain ⟨ax, its, k, news, Inv, rfl, hh, F, N, hax, hsz, hI, h0, T, fin⟩ := h₁
  refine blk hh F N hax hsz hcell hkind hx hI h0 T ?_
  intro D C h' tk m' ys ns hInv F' N' o1 hn hC₀ hCL hDL hCD offC
  show wpAny _ A (assign (.Name y py) env (.ref D)) _ _ _
  refine wpAny_assign_Name (wpAny_storeName_local hy F'.ns (fun h₂ hn₂ hs₂ => ?_) hp)
  have hL₀ : h₀.get? env.locals = none := Heap.get?_none_of_le F'.above
  have F₂ : Fr h₀ env.locals h₂ (fun z => if z = y then some (.ref D) else m z) := ⟨hn₂, fun b o e => hs₂.extBut b o (fun q => by rw [q, hL₀] at e; cases e) (F'.keep b o e), F'.above⟩
  refine ⟨m', hn.sameBut hs₂ hCL, fun h'' hs'' => fin ys ns hInv D h'' _ (F₂.change hs'' hCL hC₀) (fun p hp => ?_) o1⟩
  have z : h₂.get? p.1 = some p.2 := hs₂.extBut _ _ (N' p hp).2.1 (N' p hp).1
  refine ⟨hs''.extBut _ _ ?_ z, (N' p hp).2⟩
  rcases List.mem_cons.mp hp with rfl | hp
  · exact Ne.symm hCD
  · exact offC p hp
/-- pure turns -/
def PEnd (h₀ : Heap) (L : Addr) (m : Str → Option Value) (s₁ : Shared) (ns : Led) (d : Option Dat) (y : Value) (s₂ : Shared) : Prop :=
  ∃ h' tk tl d', d = some d' ∧ s₂ = { s₁ with heap := h', toks := tk } ∧ Fr h₀ L h' m ∧ News h₀ L h' (tl ++ ns) ∧ DatIn (tl ++ ns) y d'
def PSkip (h₀ : Heap) (L : Addr) (m : Str → Option Value) (s₁ : Shared) (ns : Led) (d : Option Dat) (s₂ : Shared) : Prop :=
  ∃ h' tk tl, d = none ∧ s₂ = { s₁ with heap := h', toks := tk } ∧ Fr h₀ L h' m ∧ News h₀ L h' (tl ++ ns)
theorem PEnd.mk {h₀ : Heap} {L : Addr} {m : Str → Option Value} {s₁ : Shared} {ns all : Led} {d : Option Dat} {d' : Dat} {y : Value} {h' : Heap} {tk : Nat} (F : Fr h₀ L h' m) (N : News h₀ L h' all) (hs : ns <:+ all) (hd : d = some d') (hD : DatIn all y d') : PEnd h₀ L m s₁ ns d y { s₁ with heap := h', toks := tk } := by
  obtain ⟨tl, rfl⟩ := hs
  exact ⟨h', tk, tl, d', hd, rfl, F, N, hD⟩
theorem PSkip.mk {h₀ : Heap} {L : Addr} {m : Str → Option Value} {s₁ : Shared} {ns all : Led} {d : Option Dat} {h' : Heap} {tk : Nat} (F : Fr h₀ L h' m) (N : News h₀ L h' all) (hs : ns <:+ all) (hd : d = none) : PSkip h₀ L m s₁ ns d { s₁ with heap := h', toks := tk } := by
  obtain ⟨tl, rfl⟩ := hs
  exact ⟨h', tk, tl, hd, rfl, F, N⟩
/-- the three of a comprehension are no tuples: a value's tuples stay when they go -/
theorem off_tup {h₀ h : Heap} {L I C D : Addr} {all : Led} {oI oC : Obj} {ys : List Value} {m₂ : Str → Option Value} (N : News h₀ L h all) (kI : (I, oI) ∈ all) (kC : (C, oC) ∈ all) (kD : (D, lstO ys) ∈ all)
    (hI : oI.cls = .type "list_iterator") (hC : LCg.NsObj oC m₂) : ∀ p ∈ all, (∃ vs n, p.2 = tupO vs n) → p ∈ all.filter fun p => decide (p.1 ≠ I ∧ p.1 ≠ C ∧ p.1 ≠ D) := by
  rintro ⟨a, o⟩ hp ⟨vs, n, rfl⟩
  refine List.mem_filter.mpr ⟨hp, ?_⟩
  have e := N.get hp
  have n1 : a ≠ I := by
    rintro rfl
    have := e.symm.trans (N.get kI); cases this
    exact absurd hI (show ¬ Value.type "tuple" = Value.type "list_iterator" by decide)
  have n2 : a ≠ C := by
    rintro rfl
    have := e.symm.trans (N.get kC); cases this
    obtain ⟨es, ep, hd, _⟩ := hC
    exact nomatch hd
  have n3 : a ≠ D := by
    rintro rfl
    have := e.symm.trans (N.get kD)
    have := congrArg (fun o : Option Obj => o.map (·.cls)) this
    exact absurd (Option.some.inj this) (show ¬ Value.type "tuple" = Value.type "list" by decide)
  simpa using ⟨n1, n2, n3⟩
mutual
theorem DatIn.upO {news news' : Led} (ht : ∀ p ∈ news, (∃ vs n, p.2 = tupO vs n) → p ∈ news') : ∀ {v : Value} {d : Dat}, noList d = true → DatIn news v d → DatIn news' v d
  | _, _, _, .none => .none
  | _, _, _, .bool b => .bool b
  | _, _, _, .int i t => .int i t
  | _, _, _, .str x t => .str x t
  | _, _, _, .bytes b t => .bytes b t
  | _, _, hn, .tuple h r => .tuple (ht _ h ⟨_, _, rfl⟩) (DatAll.upO ht (by simpa [noList] using hn) r)
  | _, _, hn, .list h r => by simp [noList] at hn
theorem DatAll.upO {news news' : Led} (ht : ∀ p ∈ news, (∃ vs n, p.2 = tupO vs n) → p ∈ news') : ∀ {vs : List Value} {ds : List Dat}, noList.noLists ds = true → DatAll news vs ds → DatAll news' vs ds
  | _, _, _, .nil => .nil
  | _, _, hn, .cons h r => by
    have hn' := Bool.and_eq_true_iff.mp (show (noList _ && noList.noLists _) = true from hn)
    exact .cons (DatIn.upO ht hn'.1 h) (DatAll.upO ht hn'.2 r)
end
theorem off_suf {I C D : Addr} {oI oC oD : Obj} {tl n1 : Led} (o : LCg.Off3 I C D n1) : (tl ++ (I, oI) :: (C, oC) :: (D, oD) :: n1).filter (fun p => decide (p.1 ≠ I ∧ p.1 ≠ C ∧ p.1 ≠ D)) = tl.filter (fun p => decide (p.1 ≠ I ∧ p.1 ≠ C ∧ p.1 ≠ D)) ++ n1 := by
  rw [List.filter_append]
  congr 1
  rw [List.filter_cons_of_neg (by simp), List.filter_cons_of_neg (by simp), List.filter_cons_of_neg (by simp)]
  exact List.filter_eq_self.mpr fun p hp => by simpa using o.mem p hp
theorem datAll_snoc {ns : Led} : ∀ {ys : List Value} {ds : List Dat} {y : Value} {d : Dat}, DatAll ns ys ds → DatIn ns y d → DatAll ns (ys ++ [y]) (ds ++ [d])
  | _, _, _, _, .nil, h => .cons h .nil
  | _, _, _, _, .cons a r, h => .cons a (datAll_snoc r h)
theorem datAll_get {ns : Led} : ∀ {ys : List Value} {ds : List Dat} {v : Value} (i : Nat), DatAll ns ys ds → ys[i]? = some v → ∃ d, ds[i]? = some d ∧ DatIn ns v d
  | [], _, _, i, _, h => by simp at h
  | _ :: _, _, _, 0, .cons a r, h => by simp at h; subst h; exact ⟨_, rfl, a⟩
  | _ :: ys, _, _, i + 1, .cons a r, h => by
    obtain ⟨d, e, hd⟩ := datAll_get i r (by simpa using h)
    exact ⟨d, by simpa using e, hd⟩
theorem datAll_len {ns : Led} : ∀ {ys : List Value} {ds : List Dat}, DatAll ns ys ds → ys.length = ds.length
  | _, _, .nil => rfl
  | _, _, .cons _ r => congrArg (· + 1) (datAll_len r)
def PTurns (prog : Program) (w : World) (A : Around) (h₀ : Heap) (L : Addr) (m : Str → Option Value) (env : Env) (ifs : List Expr) (elt : Expr) (x : Str) (scope : Scope) (cl : List (Str × Addr)) (s : Shared) (news : Led) (src : List Dat) (g : Dat → Option Dat) : Prop :=
  ∀ tl ys v d I oI C oC D m₂ h tk (E' : Value → Shared → Prop), d ∈ src → DatIn (tl ++ news) v d → LCg.NsObj oC m₂ → m₂ x = some v → Fr h₀ L h m → News h₀ L h ((I, oI) :: (C, oC) :: (D, lstO ys) :: (tl ++ news)) →
    wpAny (model prog w) A (forIn ifs true fun c r => if r = true then do let ok ← isTrue c (compEnvC scope cl C env) (eval c (compEnvC scope cl C env)); pure (ForInStep.yield ok) else pure (ForInStep.yield r)) (fun ok s' => if ok = true then
      wpAny (model prog w) A (eval elt (compEnvC scope cl C env)) (fun y s'' => PEnd h₀ L m { s with heap := h, toks := tk } ((I, oI) :: (C, oC) :: (D, lstO ys) :: (tl ++ news)) (g d) y s'') E' s'
      else PSkip h₀ L m { s with heap := h, toks := tk } ((I, oI) :: (C, oC) :: (D, lstO ys) :: (tl ++ news)) (g d) s') E' { s with heap := h, toks := tk }
theorem CSrc.pure {prog : Program} {w : World} {A : Around} {s : Shared} {h₀ : Heap} {L ax : Addr} {m : Str → Option Value} {env : Env} {elt : Expr} {ifs : List Expr} {x : Str} {scope : Scope} {cl : List (Str × Addr)}
    {news : Led} {its : List Value} {k : Nat} {Fin : Shared → List Value → Led → Prop} {src : List Dat} (g : Dat → Option Dat)
    (hh : A.handled = none) (F : Fr h₀ L s.heap m) (N : News h₀ L s.heap news) (hax : (ax, W.listOf its.toArray k) ∈ news) (hD : DatAll news its src) (hsz : src.length ≤ sizeLine) (hg : ∀ d ∈ src, ∀ d', g d = some d' → noList d' = true)
    (turn : PTurns prog w A h₀ L m env ifs elt x scope cl s news src g)
    (fin : ∀ ys tl, DatAll (tl ++ news) ys (src.filterMap g) → Fin s ys (tl ++ news)) :
    CSrc prog w A h₀ L m env ifs elt x scope cl Fin (.ref ax) s := by
  have hlen := datAll_len hD
  refine ⟨ax, its.toArray, k, news, fun i ys ns => ∃ tl, ns = tl ++ news ∧ DatAll ns ys ((src.take i).filterMap g), rfl, hh, F, N, hax, by rw [List.size_toArray, hlen]; exact hsz, ?_, ⟨[], rfl, .nil⟩, ?_, ?_⟩
  · rintro i ys ns ⟨tl, rfl, _⟩
    exact ⟨k, List.mem_append_right _ hax⟩
  · rintro i ys ns v I oI C oC D m₂ h tk E' hv ⟨tl, rfl, hY⟩ hI hC hx F' N' off'
    have hv' : its[i]? = some v := by simpa using hv
    obtain ⟨d, hd, hdv⟩ := datAll_get i hD hv'
    have hdm : d ∈ src := List.mem_of_getElem? hd
    have htake : src.take (i + 1) = src.take i ++ [d] := by rw [List.take_add_one, hd]; rfl
    refine wpAny_mono (turn tl ys v d I oI C oC D m₂ h tk E' hdm (DatIn.mono (fun p hp => List.mem_append_right _ hp) hdv) hC hx F' N') (fun ok s' h' => ?_) fun _ _ e => e
    have kp : ∀ t2 : Led, ∀ p ∈ [(I, oI), (C, oC), (D, lstO ys)], p ∈ t2 ++ (I, oI) :: (C, oC) :: (D, lstO ys) :: (tl ++ news) := by
      intro t2 p hp
      refine List.mem_append_right _ ?_
      simp only [List.mem_cons, List.not_mem_nil, or_false] at hp ⊢
      rcases hp with rfl | rfl | rfl
      · exact .inl rfl
      · exact .inr (.inl rfl)
      · exact .inr (.inr (.inl rfl))
    cases ok with
    | true =>
      simp only [if_true] at h' ⊢
      refine wpAny_mono h' (fun y s'' h'' => ?_) fun _ _ e => e
      obtain ⟨h2, tk2, t2, d', hgd, rfl, F2, N2, hDy⟩ := h''
      refine ⟨h2, tk2, _, rfl, F2, N2, kp t2, ?_⟩
      have hup := off_tup N2 (kp t2 _ (.head _)) (kp t2 _ (.tail _ (.head _))) (kp t2 _ (.tail _ (.tail _ (.head _)))) hI hC
      have hDy' := DatIn.upO hup (hg d hdm d' hgd) hDy
      rw [off_suf off'] at hDy' ⊢
      refine ⟨_ ++ tl, (List.append_assoc ..).symm, ?_⟩
      rw [htake, List.filterMap_append]
      have e1 : List.filterMap g [d] = [d'] := by simp [hgd]
      rw [e1]
      exact datAll_snoc (datAll_mono (fun p hp => List.mem_append_right _ hp) hY) hDy'
    | false =>
      simp only [Bool.false_eq_true, if_false] at h' ⊢
      obtain ⟨h2, tk2, t2, hgd, rfl, F2, N2⟩ := h'
      refine ⟨h2, tk2, _, rfl, F2, N2, kp t2, ?_⟩
      rw [off_suf off']
      refine ⟨_ ++ tl, (List.append_assoc ..).symm, ?_⟩
      rw [htake, List.filterMap_append]
      have e1 : List.filterMap g [d] = [] := by simp [hgd]
      rw [e1, List.append_nil]
      exact datAll_mono (fun p hp => List.mem_append_right _ hp) hY
  · rintro ys ns ⟨tl, rfl, hY⟩
    rw [List.size_toArray, hlen, List.take_length] at hY
    exact fin ys tl hY
end
section
def FEnd (h₀ : Heap) (L : Addr) (J : (Str → Option Value) → Led → Prop) (I : Addr) (oI : Obj) (s₁ : Shared) (Q : Flow → Shared → Prop) (f : Flow) (s₂ : Shared) : Prop :=
  match f with
  | .ret v => Q (.ret v) s₂
  | .brk => Q .next s₂
  | _ => ∃ h' tk m' all, s₂ = { s₁ with heap := h', toks := tk } ∧ Fr h₀ L h' m' ∧ News h₀ L h' all ∧ (I, oI) ∈ all ∧ J m' (all.filter fun p => decide (p.1 ≠ I))
theorem loop_rule {prog : Program} {w : World} {A : Around} {E : Value → Shared → Prop} {s : Shared} {env : Env} {h₀ : Heap} {x : Str} {body : List Stmt} {Q : Flow → Shared → Prop}
    {I : Addr} {ic : String} {K : Led} {n : Nat} {P : Nat → Value → Prop} {St : Nat → Heap → Prop} {m₀ : Str → Option Value} {news : Led} (J : Nat → (Str → Option Value) → Led → Prop)
    (W : Walks prog w A I (I :: K.map (·.1)) [I] n P St) (hcls : ∀ i h, St i h → ∃ o, h.get? I = some o ∧ o.cls = .type ic) (hK : ∀ i m ns, J i m ns → ∀ p ∈ K, p ∈ ns)
    (hLI : env.locals ≠ I) (hI₀ : h₀.get? I = none) (hnw : ∀ p ∈ news, p.1 ≠ I) (hst : St 0 s.heap) (F : Fr h₀ env.locals s.heap m₀) (N : News h₀ env.locals s.heap news) (hj : J 0 m₀ news)
    (turn : ∀ i v m₁ ns h tk oI, i < n → P i v → J i m₁ ns → (∀ p ∈ ns, p.1 ≠ I) → oI.cls = .type ic → Fr h₀ env.locals h (fun y => if y = x then some v else m₁ y) → News h₀ env.locals h ((I, oI) :: ns) →
      wpAny (model prog w) A (execs body env) (FEnd h₀ env.locals (J (i + 1)) I oI { s with heap := h, toks := tk } Q) E { s with heap := h, toks := tk })
    (done : ∀ m₁ ns h tk, J n m₁ ns → Fr h₀ env.locals h m₁ → News h₀ env.locals h ns → Q .next { s with heap := h, toks := tk }) :
    LoopAtV prog w A h₀ env x body Q E (.ref I) s := by
  refine ⟨I, I :: K.map (·.1), [I], n, P, St, m₀, news, J, rfl, W, ?_, ?_, ?_, hst, F, N, hj, ?_, ?_⟩
  · intro hm
    rcases List.mem_cons.mp hm with e | hm
    · exact hLI e
    · obtain ⟨q, hq, e⟩ := List.mem_map.mp hm
      exact (N _ (hK _ _ _ hj q hq)).2.1 e
  · intro b hb
    rw [List.mem_singleton.mp hb]; exact hI₀
  · intro p hp hm
    exact hnw p hp (List.mem_singleton.mp hm)
  · rintro i v m₁ ns s₁ own ⟨hh', tk', rfl⟩ hin hP hJ hoff hown hget hall hst' F₁ N₁
    obtain ⟨oI, heI, hcI⟩ := hcls _ _ hst'
    have hoff' : ∀ p ∈ ns, p.1 ≠ I := fun p hp e => hoff p hp (List.mem_singleton.mpr e)
    have hIown : (I, oI) ∈ own := hall I (.head _) hI₀ oI heI
    have N₂ : News h₀ env.locals hh' ((I, oI) :: ns) := fun p hp => (List.mem_cons.mp hp).elim (fun e => N₁ p (List.mem_append_left _ (e ▸ hIown))) fun h => N₁ p (List.mem_append_right _ h)
    refine wpAny_mono (turn i v m₁ ns hh' tk' oI hin hP hJ hoff' hcI F₁ N₂) (fun f s₂ p => ?_) fun _ _ e => e
    have fin : (∃ h' tk m' all, s₂ = { s with heap := h', toks := tk } ∧ Fr h₀ env.locals h' m' ∧ News h₀ env.locals h' all ∧ (I, oI) ∈ all ∧ J (i + 1) m' (all.filter fun p => decide (p.1 ≠ I))) →
        LoopStepU h₀ env.locals [I] own (J (i + 1)) { s with heap := hh', toks := tk' } .next s₂ := by
      rintro ⟨h', tk, m', all, e, F', N', hI, hJ'⟩
      refine ⟨rfl, h', tk, m', _, e, F', fun p hp => ?_, fun p hp hq => ?_, hJ'⟩
      · rcases List.mem_append.mp hp with h | h
        · have hg := hget p h
          rcases List.mem_cons.mp (hown p h) with h1 | h1
          · rw [h1] at hg
            have h3 : p = (I, oI) := Prod.ext h1 (Option.some.inj (hg.symm.trans heI))
            rw [h3]; exact N' _ hI
          · obtain ⟨q, hq, e1⟩ := List.mem_map.mp h1
            have hqn := (N₂ q (.tail _ (hK _ _ _ hJ q hq))).1
            rw [← e1] at hg
            have h3 : p = q := Prod.ext e1.symm (Option.some.inj (hg.symm.trans hqn))
            rw [h3]; exact N' _ (List.mem_filter.mp (hK _ _ _ hJ' q hq)).1
        · exact N' p (List.mem_filter.mp h).1
      · have := (List.mem_filter.mp hp).2
        exact (of_decide_eq_true this) (List.mem_singleton.mp hq)
    cases f with
    | ret v => exact .ret p
    | brk => exact .brk p
    | next => exact .next (fin p)
    | cont => exact .cont (fin p)
  · rintro h' tk m' ns F' N' _ hJ
    exact done m' ns h' tk hJ F' N'
/-- for over a list of the ledger -/
theorem loop_list {prog : Program} {w : World} {A : Around} {E : Value → Shared → Prop} {s : Shared} {env : Env} {h₀ : Heap} {x : Str} {body : List Stmt} {Q : Flow → Shared → Prop}
    {l : Addr} {vs : List Value} {nn : Nat} {m₀ : Str → Option Value} {news : Led} (J : Nat → (Str → Option Value) → Led → Prop)
    (hh : A.handled = none) (hl : (l, W.listOf vs.toArray nn) ∈ news) (F : Fr h₀ env.locals s.heap m₀) (N : News h₀ env.locals s.heap news) (hj : J 0 m₀ news) (hK : ∀ i m ns, J i m ns → (l, W.listOf vs.toArray nn) ∈ ns)
    (turn : ∀ i v m₁ ns h tk I oI, vs[i]? = some v → J i m₁ ns → (∀ p ∈ ns, p.1 ≠ I) → oI.cls = .type "list_iterator" → Fr h₀ env.locals h (fun y => if y = x then some v else m₁ y) → News h₀ env.locals h ((I, oI) :: ns) →
      wpAny (model prog w) A (execs body env) (FEnd h₀ env.locals (J (i + 1)) I oI { s with heap := h, toks := tk } Q) E { s with heap := h, toks := tk })
    (done : ∀ m₁ ns h tk, J vs.length m₁ ns → Fr h₀ env.locals h m₁ → News h₀ env.locals h ns → Q .next { s with heap := h, toks := tk }) :
    wpAny (model prog w) A (pyIter (.ref l)) (fun it s₂ => LoopAtV prog w A h₀ env x body Q E it s₂) E s := by
  have hol : s.heap.get? l = some (W.listOf vs.toArray nn) := (N _ hl).1
  have hls : s.heap.IsList l vs.toArray := ⟨_, hol, rfl, nn, rfl⟩
  have hne : l ≠ s.heap.objs.size := Nat.ne_of_lt (Heap.lt_size hol)
  refine wpAny_pyIter_list hls ?_
  have Wk := Walks.list (prog := prog) (w := w) hh s.heap.objs.size l hne vs.toArray
  have hlen : vs.toArray.size = vs.length := by simp
  rw [hlen] at Wk
  refine loop_rule (K := [(l, W.listOf vs.toArray nn)]) (ic := "list_iterator") J Wk (fun i h st => ?_) (fun i m ns hJ p hp => ?_) (Nat.ne_of_lt F.ns.lt) (next_is_new F) (fun p hp => Nat.ne_of_lt (Heap.lt_size (N p hp).1))
    ⟨⟨_, Heap.get?_push_size _ rfl, rfl, rfl⟩, hls.at fun o e => Heap.get?_push_of_some _ e⟩ (F.push _) (fun p hp => ⟨Heap.get?_push_of_some _ (N p hp).1, (N p hp).2⟩) hj ?_ (fun m₁ ns h tk hJ F' N' => done m₁ ns h tk hJ F' N')
  · obtain ⟨o, e, hc, _⟩ := st.1
    exact ⟨o, e, hc⟩
  · rw [List.mem_singleton.mp hp]; exact hK _ _ _ hJ
  · intro i v m₁ ns h tk oI hi hP hJ hoff hc F₁ N₁
    exact turn i v m₁ ns h tk _ oI (by simpa using hP) hJ hoff hc F₁ N₁
theorem append_my {prog : Program} {w : World} {A : Around} {E : Value → Shared → Prop} {s : Shared} {h₀ : Heap} {L D : Addr} {m : Str → Option Value} {all : Led} {ys : List Value} {v : Value} {Q : Value → Shared → Prop}
    (F : Fr h₀ L s.heap m) (N : News h₀ L s.heap all) (hm : (D, lstO ys) ∈ all) (hsz : ys.length ≤ sizeLine)
    (h : ∀ h', Fr h₀ L h' m → News h₀ L h' ((D, lstO (ys ++ [v])) :: all.filter fun p => decide (p.1 ≠ D)) → Q .none { s with heap := h' }) :
    wpAny (model prog w) A (call (.builtin "list.append") [.ref D, v]) Q E s := by
  refine append_at (hsz := by rw [List.size_toArray]; exact hsz) (N.get hm) fun h' hs hD => ?_
  have z := N _ hm
  refine h h' (F.change hs z.2.1 z.2.2) fun p hp => ?_
  rcases List.mem_cons.mp hp with rfl | hp
  · exact ⟨hD.trans (congrArg some (LCg.lst_snoc ys v)), z.2⟩
  · have hp' := List.mem_filter.mp hp
    exact ⟨hs.extBut _ _ (of_decide_eq_true hp'.2) (N p hp'.1).1, (N p hp'.1).2⟩
end
section
def Over (prog : Program) (w : World) (A : Around) (h₀ : Heap) (env : Env) (x : Str) (body : List Stmt) (Q : Flow → Shared → Prop) (E : Value → Shared → Prop) (xv : Value) (s₁ : Shared) : Prop :=
  wpAny (model prog w) A (pyIter xv) (fun it s₂ => LoopAtV prog w A h₀ env x body Q E it s₂) E s₁
theorem for_my {prog : Program} {w : World} {A : Around} {E : Value → Shared → Prop} {s : Shared} {h₀ : Heap} {env : Env} {x : Str} {body : List Stmt} {Q : Flow → Shared → Prop} {m : Str → Option Value} {px pos : Pos} {iter : Expr} (_F : Fr h₀ env.locals s.heap m) (hx : env.kindOf x = some .local)
    (hp : (env.scope.kind == .class || (env.scope.kind == .module && env.locals != env.globals)) = false)
    (h : wpAny (model prog w) A (eval iter env) (fun xv s₁ => Over prog w A h₀ env x body Q E xv s₁) E s)
    (hs : ∀ x, foldedSetIterable iter env x = pure x := by intro _; rfl)
    (hE : PassesOwn (model prog w) A env E := by passes_own) :
    wpAny (model prog w) A (exec (.For (.Name x px) iter body [] pos) env) Q E s := For_invV h₀ hx hp h hs
def JJ {σ : Type} (x : Str) (stored : List Str) (m₀ : Str → Option Value) (ps : σ → List (Str × Value)) (J' : Nat → σ → Led → Prop) (i : Nat) (m : Str → Option Value) (ns : Led) : Prop :=
  ∃ c, J' i c ns ∧ (∀ p ∈ ps c, m p.1 = some p.2) ∧ (∀ z, z ≠ x → (∀ p ∈ ps c, z ≠ p.1) → stored.contains z = false → m z = m₀ z)
theorem FEnd.mk {σ : Type} {x : Str} {stored : List Str} {m₀ m' : Str → Option Value} {ps : σ → List (Str × Value)} {J' : Nat → σ → Led → Prop} {i : Nat} {h₀ h' : Heap} {L I : Addr} {oI : Obj} {s₁ : Shared} {Q : Flow → Shared → Prop} {tk : Nat} {all : Led}
    (F : Fr h₀ L h' m') (N : News h₀ L h' all) (hI : (I, oI) ∈ all) (c : σ) (hj : J' i c (all.filter fun p => decide (p.1 ≠ I))) (hps : ∀ p ∈ ps c, m' p.1 = some p.2) (hz : ∀ z, z ≠ x → (∀ p ∈ ps c, z ≠ p.1) → stored.contains z = false → m' z = m₀ z) :
    FEnd h₀ L (JJ x stored m₀ ps J' i) I oI s₁ Q .next { s₁ with heap := h', toks := tk } := ⟨h', tk, m', all, rfl, F, N, hI, c, hj, hps, hz⟩
theorem over_list {σ : Type} {prog : Program} {w : World} {A : Around} {E : Value → Shared → Prop} {s : Shared} {env : Env} {h₀ : Heap} {x : Str} {body : List Stmt} {Q : Flow → Shared → Prop}
    {l : Addr} {vs : List Value} {nn : Nat} {m₀ : Str → Option Value} {news : Led} (stored : List Str) (ps : σ → List (Str × Value)) (J' : Nat → σ → Led → Prop) (c₀ : σ)
    (hh : A.handled = none) (F : Fr h₀ env.locals s.heap m₀) (N : News h₀ env.locals s.heap news) (hl : (l, W.listOf vs.toArray nn) ∈ news) (hj : J' 0 c₀ news) (hps : ∀ p ∈ ps c₀, m₀ p.1 = some p.2) (hK : ∀ i c ns, J' i c ns → (l, W.listOf vs.toArray nn) ∈ ns)
    (turn : ∀ i v (c : σ) (u : Str → Option Value) ns h tk I oI, vs[i]? = some v → J' i c ns → (∀ p ∈ ns, p.1 ≠ I) → oI.cls = .type "list_iterator" → Fr h₀ env.locals h (fun y => if y = x then some v else kstB (fun z => if stored.contains z then u z else m₀ z) (ps c) y) → News h₀ env.locals h ((I, oI) :: ns) →
      wpAny (model prog w) A (execs body env) (FEnd h₀ env.locals (JJ x stored m₀ ps J' (i + 1)) I oI { s with heap := h, toks := tk } Q) E { s with heap := h, toks := tk })
    (done : ∀ (c : σ) (u : Str → Option Value) ns h tk, J' vs.length c ns → Fr h₀ env.locals h (fun y => if y = x then u y else kstB (fun z => if stored.contains z then u z else m₀ z) (ps c) y) → News h₀ env.locals h ns → Q .next { s with heap := h, toks := tk }) :
    Over prog w A h₀ env x body Q E (.ref l) s := by
  refine loop_list (JJ x stored m₀ ps J') hh hl F N ⟨c₀, hj, hps, fun _ _ _ _ => rfl⟩ (fun i m ns ⟨c, h, _⟩ => hK i c ns h) ?_ ?_
  · rintro i v m₁ ns h tk I oI hv ⟨c, hJ, h1, h2⟩ hoff hc F₁ N₁
    exact turn i v c m₁ ns h tk I oI hv hJ hoff hc (kst_fr h1 h2 F₁) N₁
  · rintro m₁ ns h tk ⟨c, hJ, h1, h2⟩ F₁ N₁
    exact done c m₁ ns h tk hJ (kst_frOut h1 h2 F₁) N₁
/-- the iterator goes: the tuples stay -/
theorem off_tup1 {h₀ h : Heap} {L I : Addr} {all : Led} {oI : Obj} (N : News h₀ L h all) (kI : (I, oI) ∈ all) (hI : oI.cls ≠ .type "tuple") : ∀ p ∈ all, (∃ vs n, p.2 = tupO vs n) → p ∈ all.filter fun p => decide (p.1 ≠ I) := by
  rintro ⟨a, o⟩ hp ⟨vs, n, rfl⟩
  refine List.mem_filter.mpr ⟨hp, ?_⟩
  have e := N.get hp
  have n1 : a ≠ I := by
    rintro rfl
    have := e.symm.trans (N.get kI); cases this
    exact hI rfl
  simpa using n1
theorem off_suf1 {I : Addr} {oI : Obj} {tl n1 : Led} (o : ∀ p ∈ n1, p.1 ≠ I) : (tl ++ (I, oI) :: n1).filter (fun p => decide (p.1 ≠ I)) = tl.filter (fun p => decide (p.1 ≠ I)) ++ n1 := by
  rw [List.filter_append]
  congr 1
  rw [List.filter_cons_of_neg (by simp)]
  exact List.filter_eq_self.mpr fun p hp => by simpa using o p hp
end
section
theorem xs_get {news : Led} {xs : List Ent} {D : List Rw} (hx : XsAre news xs D) : ∀ {i : Nat} {e : DictEntry} {w : World}, (xs.map (entryOfKey (TK w)))[i]? = some e → ∃ r ka, D[i]? = some r ∧ e.key = .ref ka ∧ DatIn news (.ref ka) (keyD r.1.key) := by
  induction hx with
  | nil => intro i e w h; simp at h
  | @cons ka v r xs D a b _ ih =>
    intro i e w h
    cases i with
    | zero =>
      simp only [List.map_cons, List.getElem?_cons_zero, Option.some.injEq] at h
      subst h
      exact ⟨r, ka, rfl, rfl, a⟩
    | succ i =>
      simp only [List.map_cons, List.getElem?_cons_succ] at h ⊢
      exact ih h
theorem rowAt_get {D : List Rw} (hn : (keysOf D).Nodup) {i : Nat} {r : Rw} (h : D[i]? = some r) : rowAt D r.1.key = some r := by
  induction D generalizing i with
  | nil => simp at h
  | cons q D ih =>
    have hn' := List.nodup_cons.mp (show (q.1.key :: keysOf D).Nodup from hn)
    unfold rowAt
    cases i with
    | zero =>
      simp only [List.getElem?_cons_zero, Option.some.injEq] at h
      subst h
      rw [List.find?_cons_of_pos (by simp)]
    | succ i =>
      simp only [List.getElem?_cons_succ] at h
      have hm : r.1.key ∈ keysOf D := List.mem_map.mpr ⟨r, List.mem_of_getElem? h, rfl⟩
      rw [List.find?_cons_of_neg (by simp only [beq_iff_eq]; rintro e; exact hn'.1 (e ▸ hm))]
      exact ih hn'.2 h
/-- for over the keys of a dict of rows -/
theorem over_rows {σ : Type} {prog : Program} {w : World} {A : Around} {E : Value → Shared → Prop} {s : Shared} {env : Env} {h₀ : Heap} {x : Str} {body : List Stmt} {Q : Flow → Shared → Prop}
    {d : Addr} {m₀ : Str → Option Value} {news : Led} {D : List Rw} (stored : List Str) (ps : σ → List (Str × Value)) (J' : Nat → σ → Led → Prop) (c₀ : σ)
    (hh : A.handled = none) (F : Fr h₀ env.locals s.heap m₀) (N : News h₀ env.locals s.heap news) (hdb : DbIs w news d D) (hj : J' 0 c₀ news) (hps : ∀ p ∈ ps c₀, m₀ p.1 = some p.2) (hK : ∀ i c ns, J' i c ns → ∀ p ∈ news, p ∈ ns)
    (turn : ∀ i r ka (c : σ) (u : Str → Option Value) ns h tk I oI, D[i]? = some r → rowAt D r.1.key = some r → DatIn ns (.ref ka) (keyD r.1.key) → DbIs w ns d D → J' i c ns → (∀ p ∈ ns, p.1 ≠ I) → oI.cls ≠ .type "tuple" → Fr h₀ env.locals h (fun y => if y = x then some (.ref ka) else kstB (fun z => if stored.contains z then u z else m₀ z) (ps c) y) → News h₀ env.locals h ((I, oI) :: ns) →
      wpAny (model prog w) A (execs body env) (FEnd h₀ env.locals (JJ x stored m₀ ps J' (i + 1)) I oI { s with heap := h, toks := tk } Q) E { s with heap := h, toks := tk })
    (done : ∀ (c : σ) (u : Str → Option Value) ns h tk, J' D.length c ns → Fr h₀ env.locals h (fun y => if y = x then u y else kstB (fun z => if stored.contains z then u z else m₀ z) (ps c) y) → News h₀ env.locals h ns → Q .next { s with heap := h, toks := tk }) :
    Over prog w A h₀ env x body Q E (.ref d) s := by
  obtain ⟨xs, n, hm, hx, hn, hk, lo⟩ := hdb
  have hR : RawD s.heap d (xs.map (entryOfKey (TK w))) n := N.get hm
  have hlt := Heap.lt_size (N.get hm)
  have hne : d ≠ s.heap.objs.size := Nat.ne_of_lt hlt
  have Wk := raw_walks (prog := prog) (w := w) (A := A) (I := s.heap.objs.size) (d := d) (es := xs.map (entryOfKey (TK w))) (ep := n) hh hne
  refine raw_iter lo hR ?_
  have hlen : (xs.map (entryOfKey (TK w))).length = D.length := by rw [List.length_map, hx.length]
  refine loop_rule (K := [(d, rowsO w xs n)]) (ic := "dict_keyiterator") (JJ x stored m₀ ps J') Wk (fun i h st => ?_) (fun i m ns hJ p hp => ?_) (Nat.ne_of_lt F.ns.lt) (next_is_new F) (fun p hp => Nat.ne_of_lt (Heap.lt_size (N p hp).1))
    ⟨⟨_, Heap.get?_push_size _ rfl, rfl, rfl⟩, Heap.get?_push_of_some _ hR⟩ (F.push _) (fun p hp => ⟨Heap.get?_push_of_some _ (N p hp).1, (N p hp).2⟩) ⟨c₀, hj, hps, fun _ _ _ _ => rfl⟩ ?_ ?_
  · obtain ⟨o, e, hc, _⟩ := st.1
    exact ⟨o, e, hc⟩
  · obtain ⟨c, hJ, _⟩ := hJ
    rw [List.mem_singleton.mp hp]; exact hK _ _ _ hJ _ hm
  · rintro i v m₁ ns h tk oI hi ⟨e, he, rfl⟩ ⟨c, hJ, h1, h2⟩ hoff hc F₁ N₁
    obtain ⟨r, ka, hr, hek, hD⟩ := xs_get hx he
    rw [hek] at F₁
    have hs := hK _ _ _ hJ
    exact turn i r ka c m₁ ns h tk _ oI hr (rowAt_get hn hr) (DatIn.mono hs hD) (DbIs.sub hs ⟨xs, n, hm, hx, hn, hk, lo⟩) hJ hoff (by rw [hc]; decide) (kst_fr h1 h2 F₁) N₁
  · rintro m₁ ns h tk ⟨c, hJ, h1, h2⟩ F₁ N₁
    rw [hlen] at hJ
    exact done c m₁ ns h tk hJ (kst_frOut h1 h2 F₁) N₁
end
section
example : True := by
  k_with_none
  k_with "my enter" => first | (k_dflt (first | (refine' code_def ?k1q0 ?k2q0 ?k3q0 ?k4q0 ?k5q0 ?kAq0 ?kFq0 ?kKq0 ?k6q0 ?k7q0 ?k8q0 ?k9q0 ?kBq0 ?_ ?c2q0 ?c3q0 ?c4q0 ?c5q0; (case kAq0 => exact rfl); (case kFq0 => exact rfl); (case kKq0 => assumption); (case k1q0 => k_asm); (case k2q0 => k_asm); (case k3q0 => k_asm); (case k4q0 => k_asm); (case k5q0 => k_asm); (case k6q0 => k_is); (case k7q0 => k_is); (case k8q0 => ktr_room); (case k9q0 => first | exact BindsTo.of_eq rfl | exact binds_K (by k_in) rfl (by k_is) rfl rfl rfl); (case c5q0 => decide); (case kBq0 => exact locs rfl); (case c2q0 => exact rfl); (case c3q0 => exact rfl); (case c4q0 => exact rfl); k_whole; intro g' L' h' FG' F' N' B' X' T'; (try dsimp only); (try k_lift B'); (try k_fold)) | (refine' code_defC ?k1q0 ?k2q0 ?k3q0 ?k4q0 ?k5q0 ?kAq0 ?kFq0 ?kKq0 ?k6q0 ?k7q0 ?k8q0 ?k9q0 ?kBq0 ?kDq0 ?_ ?c2q0 ?c3q0 ?c4q0; (case kAq0 => exact rfl); (case kFq0 => exact rfl); (case kKq0 => assumption); (case k1q0 => k_asm); (case k2q0 => k_asm); (case k3q0 => k_asm); (case k4q0 => k_asm); (case k5q0 => k_asm); (case k6q0 => k_is); (case k7q0 => k_is); (case k8q0 => ktr_room); (case k9q0 => first | exact BindsTo.of_eq rfl | exact binds_K (by k_in) rfl (by k_is) rfl rfl rfl); (case kBq0 => exact rfl); (case kDq0 => decide +kernel); (case c2q0 => exact rfl); (case c3q0 => exact rfl); (case c4q0 => exact rfl); k_whole; intro g' L' h' tk' cells' FG' F' N' Y' B' X' T' l1; (try k_lt l1); k_cells Y'; (try simp only [List.cons_append, List.nil_append] at N'); (try dsimp only); (try k_lift B'); (try k_fold)))) | fail "no"
  k_with "mem" => first | (first | with_reducible assumption | exact List.Mem.head _ | ((with_reducible refine List.mem_cons_of_mem _ ?_); k_extra "mem") | ((with_reducible refine List.mem_append_right _ ?_); k_extra "mem") | k_extra "memx") | fail "no"
  k_with "sub" => first | (first | with_reducible exact fun _ h => h | ((with_reducible refine fun p h => List.mem_cons_of_mem _ ?_); revert p h; k_extra "sub") | ((with_reducible refine fun p h => List.mem_append_right _ ?_); revert p h; k_extra "sub") | with_reducible assumption) | fail "no"
  k_with "suf" => first | (first | with_reducible exact List.suffix_refl _ | ((with_reducible refine List.IsSuffix.trans ?_ (List.suffix_cons _ _)); k_extra "suf") | ((with_reducible refine List.IsSuffix.trans ?_ (List.suffix_append _ _)); k_extra "suf")) | fail "no"
  k_with "inteq" => first | (first | rfl | omega | (split <;> omega) | ((simp only [Lsa.aged]); (first | rfl | omega | (split <;> omega)))) | fail "no"
  k_with "dat" => first | (first | exact DatIn.none | exact DatIn.bool _ | with_reducible assumption | (refine dat_int ?_; k_extra "inteq") | exact DatIn.str _ _ | (refine' DatIn.mono ?hsq5 ?hdq5; (case hdq5 => with_reducible assumption); (case hsq5 => k_extra "sub")) | (refine' DatIn.tuple ?hmq5 ?hdq5; (case hmq5 => k_extra "mem"); (case hdq5 => k_extra "datall")) | (refine' DatIn.list ?hmq5 ?hdq5; (case hmq5 => k_extra "mem"); (case hdq5 => k_extra "datall")) | (refine' DatIn.mono ?hsq5 ?hdq5; (case hdq5 => assumption); (case hsq5 => k_extra "sub"))) | fail "no"
  k_with "datall" => first | (first | exact DatAll.nil | (refine' DatAll.cons ?_ ?_; (next => k_extra "dat"); (next => k_extra "datall")) | (refine' datAll_mono ?hsq6 ?hdq6; (case hdq6 => with_reducible assumption); (case hsq6 => k_extra "sub")) | k_extra "datallx") | fail "no"
  k_with "room" => first | (((try simp only [depth_under_make, depth_under_kw, depth_in1, depth_deeper, depth_caller]); (try dsimp only); first | omega | ktr_room)) | fail "no"
  k_with "units" => first | (((try simp only [units_in1, units_deeper, Around.mark_units, units_caller]); (try dsimp only); first | omega | ktr_units)) | fail "no"
  k_with "subscriptTail Name Slice ref ref" => first | ((k_here; k_dflt (refine' tup_from1 ?Fq9 ?Nq9 ?lq9 ?_ ?sq9 ?tq9 ?zq9; (case Fq9 => k_asm); (case Nq9 => k_asm); (case lq9 => k_extra "mem"); (case sq9 => with_unfolding_all rfl); (case tq9 => (intro _; with_unfolding_all rfl)); (case zq9 => exact Nat.le_of_ble_eq_true rfl)); intro D' h' F' N' l1; (try k_sweep))) | fail "no"
  k_with "binaryOp Add ref ref" => first | ((k_here; k_dflt (refine' tup_add ?Fq10 ?Nq10 ?lq10 ?rq10 ?_ ?zq10; (case Fq10 => k_asm); (case Nq10 => k_asm); (case lq10 => k_extra "mem"); (case rq10 => k_extra "mem"); (case zq10 => exact Nat.le_of_ble_eq_true rfl)); intro D' h' F' N' l1; (try dsimp only [List.cons_append, List.nil_append] at N'); (try k_sweep))) | fail "no"
  k_with "kok" => first | (first | exact ok_cont _ _ | exact ok_head _ _ | exact ok_key _ _ | exact ok_lsa _ _) | fail "no"
  k_with "compareOp NotEq ref" => first | ((k_here; k_dflt (refine' dat_cmp_ne ?Nq12 ?aq12 ?bq12 ?kaq12 ?kbq12 ?huq12 ?_; (case Nq12 => k_asm); (case aq12 => k_extra "dat"); (case bq12 => k_extra "dat"); (case kaq12 => k_extra "kok"); (case kbq12 => k_extra "kok"); (case huq12 => ktr_units)))) | fail "no"
  k_with "ctr ends" => first | (( (case Bq13 => k_asm); (case Fq13 => k_asm); (case Xq13 => k_asm); (case Nq13 => k_asm); (case Tq13 => k_asm); (case hkq13 => first | exact rfl | assumption); (case hdq13 => ktr_room); (case huq13 => ktr_units))) | fail "no"
  k_with "call ref" => first | ((k_here; k_dflt (refine' Ctr.use (aged_head_c _ _ _ _ _ _ ?hDq14) ?Bq14 ?Fq14 ?Xq14 ?Nq14 ?Tq14 ?hkq14 ?hdq14 ?huq14 ?_; (case Bq14 => k_asm); (case Fq14 => k_asm); (case Xq14 => k_asm); (case Nq14 => k_asm); (case Tq14 => k_asm); (case hDq14 => k_extra "dat"); (case hkq14 => first | exact rfl | assumption); (case hdq14 => k_extra "room"); (case huq14 => k_extra "units"); k_whole; intro r' news' h' tk' F' N' P'; obtain ⟨⟨tl', e'⟩, d'⟩ := P'; subst e'); (try dsimp only); (try k_fold))) | fail "no"
  k_with "call ref" => first | ((k_here; k_dflt (refine' Ctr.use (key_of_c _ _ _ _ ?hDq15) ?Bq15 ?Fq15 ?Xq15 ?Nq15 ?Tq15 ?hkq15 ?hdq15 ?huq15 ?_; (case Bq15 => k_asm); (case Fq15 => k_asm); (case Xq15 => k_asm); (case Nq15 => k_asm); (case Tq15 => k_asm); (case hDq15 => k_extra "dat"); (case hkq15 => first | exact rfl | assumption); (case hdq15 => k_extra "room"); (case huq15 => k_extra "units"); k_whole; intro r' news' h' tk' F' N' P'; obtain ⟨⟨tl', e'⟩, d'⟩ := P'; subst e'); (try dsimp only); (try k_fold))) | fail "no"
  k_with "call ref" => first | ((k_here; k_dflt (refine' Ctr.use (aged_c _ _ _ _ _ _ ?hDq16) ?Bq16 ?Fq16 ?Xq16 ?Nq16 ?Tq16 ?hkq16 ?hdq16 ?huq16 ?_; (case Bq16 => k_asm); (case Fq16 => k_asm); (case Xq16 => k_asm); (case Nq16 => k_asm); (case Tq16 => k_asm); (case hDq16 => k_extra "dat"); (case hkq16 => first | exact rfl | assumption); (case hdq16 => k_extra "room"); (case huq16 => k_extra "units"); k_whole; intro r' news' h' tk' F' N' P'; obtain ⟨⟨tl', e'⟩, d'⟩ := P'; subst e'); (try dsimp only); (try k_fold))) | fail "no"
  k_with "call ref" => first | ((k_here; k_dflt (refine' Ctr.use (newer_of_c _ _ _ _ _ _ ?hDq17 ?hEq17) ?Bq17 ?Fq17 ?Xq17 ?Nq17 ?Tq17 ?hkq17 ?hdq17 ?huq17 ?_; (case Bq17 => k_asm); (case Fq17 => k_asm); (case Xq17 => k_asm); (case Nq17 => k_asm); (case Tq17 => k_asm); (case hDq17 => k_extra "dat"); (case hEq17 => k_extra "dat"); (case hkq17 => first | exact rfl | assumption); (case hdq17 => k_extra "room"); (case huq17 => k_extra "units"); k_whole; intro r' news' h' tk' F' N' P'; obtain ⟨⟨tl', e'⟩, d'⟩ := P'; subst e'; cases d'); (try dsimp only); (try k_fold))) | fail "no"
  k_with "call ref" => first | ((k_here; k_dflt (refine' Ctr.use (is_changed_c _ _ _ _ _ _ ?hDq18 ?hEq18) ?Bq18 ?Fq18 ?Xq18 ?Nq18 ?Tq18 ?hkq18 ?hdq18 ?huq18 ?_; (case Bq18 => k_asm); (case Fq18 => k_asm); (case Xq18 => k_asm); (case Nq18 => k_asm); (case Tq18 => k_asm); (case hDq18 => k_extra "dat"); (case hEq18 => k_extra "dat"); (case hkq18 => first | exact rfl | assumption); (case hdq18 => k_extra "room"); (case huq18 => k_extra "units"); k_whole; intro r' news' h' tk' F' N' P'; obtain ⟨⟨tl', e'⟩, d'⟩ := P'; subst e'; cases d'); (try dsimp only); (try k_fold))) | fail "no"
  k_with "call ref" => first | ((k_here; k_dflt (refine' Ctr.use (look_c _ _ _ _ _ _ _ _ _ ?hoq19 ?hdbq19 ?hk0q19) ?Bq19 ?Fq19 ?Xq19 ?Nq19 ?Tq19 ?hkq19 ?hdq19 ?huq19 ?_; (case Bq19 => k_asm); (case Fq19 => k_asm); (case Xq19 => k_asm); (case Nq19 => k_asm); (case Tq19 => k_asm); (case hk0q19 => k_extra "dat"); (case hoq19 => k_extra "obj"); (case hdbq19 => k_extra "db"); (case hkq19 => first | exact rfl | assumption); (case hdq19 => k_extra "room"); (case huq19 => k_extra "units"); k_whole; intro r' news' h' tk' F' N' P'; obtain ⟨⟨tl', e'⟩, d'⟩ := P'; subst e'); (try dsimp only); (try k_fold))) | fail "no"
  k_with "call ref" => first | ((k_here; k_dflt (refine' Ctr.use (keys_c _ _ _ _ _ ?hoq20 ?hdbq20) ?Bq20 ?Fq20 ?Xq20 ?Nq20 ?Tq20 ?hkq20 ?hdq20 ?huq20 ?_; (case Bq20 => k_asm); (case Fq20 => k_asm); (case Xq20 => k_asm); (case Nq20 => k_asm); (case Tq20 => k_asm); (case hoq20 => k_extra "obj"); (case hdbq20 => k_extra "db"); (case hkq20 => first | exact rfl | assumption); (case hdq20 => k_extra "room"); (case huq20 => k_extra "units"); k_whole; intro r' news' h' tk' F' N' P'; obtain ⟨⟨tl', e'⟩, d'⟩ := P'; subst e'; obtain ⟨la', vs', n', e', hm', da'⟩ := listD_open d'; subst e'); (try dsimp only); (try k_fold))) | fail "no"
  k_with "db" => first | (first | with_reducible assumption | (refine' DbIs.sub ?hsq21 ?hdq21; (case hdq21 => with_reducible assumption); (case hsq21 => k_extra "sub"))) | fail "no"
  k_with "compareOp NotIn" => first | ((k_here; (with_reducible show wpAny _ _ (compareOp CmpOp.NotIn (Value.ref _) (Value.ref _)) _ _ _); k_dflt (first | (refine' rows_notIn_some ?Nq22 ?dq22 ?kq22 ?uq22 ?bq22 ?_; (case Nq22 => k_asm); (case dq22 => k_extra "db"); (case kq22 => k_extra "dat"); (case uq22 => ktr_units); (case bq22 => with_reducible assumption)) | (refine' rows_notIn_none ?Nq22 ?dq22 ?kq22 ?uq22 ?bq22 ?_; (case Nq22 => k_asm); (case dq22 => k_extra "db"); (case kq22 => k_extra "dat"); (case uq22 => ktr_units); (case bq22 => with_reducible assumption))); intro tk')) | fail "no"
  k_with "subscriptTail" => first | ((k_here; (with_reducible show wpAny _ _ (subscriptTail _ _ (Value.ref _) (Value.ref _)) _ _ _); k_dflt (refine' rows_item ?Nq23 ?dq23 ?kq23 ?uq23 ?rq23 ?_ ?sq23 ?gq23; (case Nq23 => k_asm); (case dq23 => k_extra "db"); (case kq23 => k_extra "dat"); (case uq23 => ktr_units); (case rq23 => with_reducible assumption); (case sq23 => with_unfolding_all rfl); (case gq23 => (intro _; with_unfolding_all rfl))); intro v' tk' dv'; k_dflt (obtain ⟨a', n', lv', t', e', hm', dl'⟩ := rvD_open dv'; subst e'))) | fail "no"
  k_with "obj" => first | (first | with_reducible assumption | (refine' dbObj_sub ?hsq24 ?hdq24; (case hdq24 => with_reducible assumption); (case hsq24 => k_extra "sub")) | (refine' ⟨_, _, _, _, ?m1q24, ?m2q24⟩; (case m1q24 => k_extra "mem"); (case m2q24 => k_extra "mem"))) | fail "no"
  k_with "call builtin:sorted" => first | ((k_here; (with_reducible show wpAny _ _ (call (Value.builtin "sorted") [Value.ref _]) _ _ _); k_dflt (refine' rows_sorted ?hhq25 ?Fq25 ?Nq25 ?dq25 ?_; (case hhq25 => rfl); (case Fq25 => k_asm); (case Nq25 => k_asm); (case dq25 => k_extra "db")); intro B' h' c' tk' vs' F' N' l1 dv')) | fail "no"
  k_with "eval ListComp" => first | ((k_here; k_dflt (refine' lc_eval ?Fq26 ?c1q26 ?c2q26 ?c3q26 ?c4q26 ?c5q26 ?_; (case Fq26 => k_asm); (case c1q26 => with_unfolding_all rfl); (case c2q26 => decide); (case c3q26 => rfl); (case c4q26 => decide); (case c5q26 => rfl)))) | fail "no"
  k_with "exec Assign cons ListComp" => first | ((k_here; k_dflt (refine' lc_assign ?Fq27 ?c0q27 ?cwq27 ?c1q27 ?c2q27 ?c3q27 ?c4q27 ?c5q27 ?c6q27 ?c7q27 ?_; (case Fq27 => k_asm); (case c0q27 => rfl); (case cwq27 => with_unfolding_all rfl); (case c1q27 => with_unfolding_all rfl); (case c2q27 => decide); (case c3q27 => rfl); (case c4q27 => decide); (case c5q27 => rfl); (case c6q27 => rfl); (case c7q27 => rfl)))) | fail "no"
  trivial
theorem PureD.app {news tl : Led} {D : Dat} {r : Value} (h : DatIn (tl ++ news) r D) : PureD news D r (tl ++ news) := ⟨⟨tl, rfl⟩, h⟩
theorem rows_few {D : List Rw} : (sortKeys D).length ≤ 6 := Nat.le_trans (List.length_filter_le _ _) (by decide)
theorem optD_noList (o : Option Lsa) : noList (optD o) = true := by cases o <;> rfl
theorem list_map_some {α β : Type} (f : α → β) (l : List α) : l.filterMap (fun x => some (f x)) = l.map f := by induction l with | nil => rfl | cons a l ih => simp [ih]
def keyOf : Dat → Key
  | .tuple [_, .int a, .int b] => (a, b)
  | _ => (0, 0)
theorem all_rows_c (w : World) (news : Led) (x d : Addr) (D : List Rw) (now : Int) (ts : Tok) (ho : DbObj news x d) (hdb : DbIs w news d D) :
   Ctr PR w (hd.heap_39 w.params) 112 6 400 [.ref x, .int now ts] news (PureD news (.list ((sortKeys D).map fun k => optD (lookRow D k now)))) := by
  unfold Ctr
  have ho' := ho
  obtain ⟨dx, hs, t, n, hx, hdx⟩ := ho
  intros
  rename_i hret
  refine wpAny_call ?_
  walk_at "my enter"
  k_steps
  refine' CSrc.pure (src := (sortKeys D).map keyD) (fun d => some (optD (lookRow D (keyOf d) now))) ?h1 ?h2 ?h3 ?h4 ?h5 ?h6 ?h7 ?turn ?fin
  case h1 => exact rfl
  case h2 => k_asm
  case h3 => k_asm
  case h4 => walk_at "mem"
  case h5 => walk_at "datall"
  case h6 => exact Nat.le_trans (by rw [List.length_map]; exact rows_few) (by decide)
  case h7 => intro d _ d' e; cases e; exact optD_noList _
  case turn =>
    intro tl ys v dk I oI C oC Da m₂ h tk E' hm hv hC hx' F' N'
    obtain ⟨k, hk, rfl⟩ := List.mem_map.mp hm
    obtain ⟨ka, rfl⟩ := tup_ref hv
    refine wpAny_tests_nil ?_
    simp only [if_true]
    k_steps
    exact PEnd.mk (by k_asm) (by k_asm) (by walk_at "suf") rfl (by walk_at "dat")
  case fin =>
    intro ys tl hY
    rw [list_map_some, List.map_map] at hY
    have hY2 : DatAll _ ys ((sortKeys D).map fun k => optD (lookRow D k now)) := hY
    clear hY
    k_steps
    exact hret _ _ _ _ (by k_asm) (by k_asm) ⟨by walk_at "suf", by walk_at "dat"⟩
end
section
example : True := by
  k_with_none
  trivial
theorem sortKeys_mem {D : List Rw} {k : Key} (h : k ∈ sortKeys D) (now : Int) : ∃ l, lookRow D k now = some l := by
  have := (List.mem_filter.mp h).2
  unfold lookRow
  cases hr : rowAt D k with
  | none => rw [hr] at this; cases this
  | some r => exact ⟨_, rfl⟩
/-- what all_rows tells -/
def rowsAt (D : List Rw) (now : Int) : List Lsa := (sortKeys D).filterMap fun k => lookRow D k now
theorem map_opt {D : List Rw} {now : Int} : ∀ l : List Key, (∀ k ∈ l, k ∈ sortKeys D) → l.map (fun k => optD (lookRow D k now)) = (l.filterMap fun k => lookRow D k now).map lsaD
  | [], _ => rfl
  | k :: l, h => by
    obtain ⟨r, hr⟩ := sortKeys_mem (h k (.head _)) now
    rw [List.map_cons, List.filterMap_cons, hr, map_opt l fun k hk => h k (.tail _ hk)]
    rfl
theorem rowsAt_len {D : List Rw} {now : Int} : (rowsAt D now).length ≤ 6 := Nat.le_trans (List.length_filterMap_le _ _) rows_few
theorem rows_c (w : World) (news : Led) (x d : Addr) (D : List Rw) (now : Int) (ts : Tok) (ho : DbObj news x d) (hdb : DbIs w news d D) :
   Ctr PR w (hd.heap_39 w.params) 112 6 400 [.ref x, .int now ts] news (PureD news (.list ((rowsAt D now).map lsaD))) := by
  have := all_rows_c w news x d D now ts ho hdb
  rw [map_opt _ fun k h => h] at this
  exact this
def lsaOf : Dat → Lsa
  | .tuple [.tuple [.int age, _, _, .int a, .int b, .int s, _], .tuple [_, _, .int c]] => ⟨age, a, b, s, c⟩
  | _ => ⟨0, 0, 0, 0, 0⟩
theorem fm_filter {β : Type} (p : Lsa → Bool) (g : Dat → Option β) (f : Lsa → β) (hg : ∀ l, g (lsaD l) = if p l = true then some (f l) else none) : ∀ l : List Lsa, (l.map lsaD).filterMap g = (l.filter p).map f
  | [] => rfl
  | l :: r => by
    rw [List.map_cons, List.filterMap_cons, hg, List.filter_cons]
    cases p l
    · exact fm_filter p g f hg r
    · simp only [if_true, List.map_cons]
      rw [fm_filter p g f hg r]
end
section
example : True := by
  k_with_none
  k_with "my enter" => first | (k_dflt (first | (refine' code_def ?k1q0 ?k2q0 ?k3q0 ?k4q0 ?k5q0 ?kAq0 ?kFq0 ?kKq0 ?k6q0 ?k7q0 ?k8q0 ?k9q0 ?kBq0 ?_ ?c2q0 ?c3q0 ?c4q0 ?c5q0; (case kAq0 => exact rfl); (case kFq0 => exact rfl); (case kKq0 => assumption); (case k1q0 => k_asm); (case k2q0 => k_asm); (case k3q0 => k_asm); (case k4q0 => k_asm); (case k5q0 => k_asm); (case k6q0 => k_is); (case k7q0 => k_is); (case k8q0 => ktr_room); (case k9q0 => first | exact BindsTo.of_eq rfl | exact binds_K (by k_in) rfl (by k_is) rfl rfl rfl); (case c5q0 => decide); (case kBq0 => exact locs rfl); (case c2q0 => exact rfl); (case c3q0 => exact rfl); (case c4q0 => exact rfl); k_whole; intro g' L' h' FG' F' N' B' X' T'; (try dsimp only); (try k_lift B'); (try k_fold)) | (refine' code_defC ?k1q0 ?k2q0 ?k3q0 ?k4q0 ?k5q0 ?kAq0 ?kFq0 ?kKq0 ?k6q0 ?k7q0 ?k8q0 ?k9q0 ?kBq0 ?kDq0 ?_ ?c2q0 ?c3q0 ?c4q0; (case kAq0 => exact rfl); (case kFq0 => exact rfl); (case kKq0 => assumption); (case k1q0 => k_asm); (case k2q0 => k_asm); (case k3q0 => k_asm); (case k4q0 => k_asm); (case k5q0 => k_asm); (case k6q0 => k_is); (case k7q0 => k_is); (case k8q0 => ktr_room); (case k9q0 => first | exact BindsTo.of_eq rfl | exact binds_K (by k_in) rfl (by k_is) rfl rfl rfl); (case kBq0 => exact rfl); (case kDq0 => decide +kernel); (case c2q0 => exact rfl); (case c3q0 => exact rfl); (case c4q0 => exact rfl); k_whole; intro g' L' h' tk' cells' FG' F' N' Y' B' X' T' l1; (try k_lt l1); k_cells Y'; (try simp only [List.cons_append, List.nil_append] at N'); (try dsimp only); (try k_lift B'); (try k_fold)))) | fail "no"
  k_with "mem" => first | (first | with_reducible assumption | exact List.Mem.head _ | ((with_reducible refine List.mem_cons_of_mem _ ?_); k_extra "mem") | ((with_reducible refine List.mem_append_right _ ?_); k_extra "mem") | k_extra "memx") | fail "no"
  k_with "sub" => first | (first | with_reducible exact fun _ h => h | ((with_reducible refine fun p h => List.mem_cons_of_mem _ ?_); revert p h; k_extra "sub") | ((with_reducible refine fun p h => List.mem_append_right _ ?_); revert p h; k_extra "sub") | with_reducible assumption) | fail "no"
  k_with "suf" => first | (first | with_reducible exact List.suffix_refl _ | ((with_reducible refine List.IsSuffix.trans ?_ (List.suffix_cons _ _)); k_extra "suf") | ((with_reducible refine List.IsSuffix.trans ?_ (List.suffix_append _ _)); k_extra "suf")) | fail "no"
  k_with "inteq" => first | (first | rfl | omega | (split <;> omega) | ((simp only [Lsa.aged]); (first | rfl | omega | (split <;> omega)))) | fail "no"
  k_with "dat" => first | (first | exact DatIn.none | exact DatIn.bool _ | with_reducible assumption | (refine dat_int ?_; k_extra "inteq") | exact DatIn.str _ _ | (refine' DatIn.mono ?hsq5 ?hdq5; (case hdq5 => with_reducible assumption); (case hsq5 => k_extra "sub")) | (refine' DatIn.tuple ?hmq5 ?hdq5; (case hmq5 => k_extra "mem"); (case hdq5 => k_extra "datall")) | (refine' DatIn.list ?hmq5 ?hdq5; (case hmq5 => k_extra "mem"); (case hdq5 => k_extra "datall")) | (refine' DatIn.mono ?hsq5 ?hdq5; (case hdq5 => assumption); (case hsq5 => k_extra "sub"))) | fail "no"
  k_with "datall" => first | (first | exact DatAll.nil | (refine' DatAll.cons ?_ ?_; (next => k_extra "dat"); (next => k_extra "datall")) | (refine' datAll_mono ?hsq6 ?hdq6; (case hdq6 => with_reducible assumption); (case hsq6 => k_extra "sub")) | k_extra "datallx") | fail "no"
  k_with "room" => first | (((try simp only [depth_under_make, depth_under_kw, depth_in1, depth_deeper, depth_caller]); (try dsimp only); first | omega | ktr_room)) | fail "no"
  k_with "units" => first | (((try simp only [units_in1, units_deeper, Around.mark_units, units_caller]); (try dsimp only); first | omega | ktr_units)) | fail "no"
  k_with "subscriptTail Name Slice ref ref" => first | ((k_here; k_dflt (refine' tup_from1 ?Fq9 ?Nq9 ?lq9 ?_ ?sq9 ?tq9 ?zq9; (case Fq9 => k_asm); (case Nq9 => k_asm); (case lq9 => k_extra "mem"); (case sq9 => with_unfolding_all rfl); (case tq9 => (intro _; with_unfolding_all rfl)); (case zq9 => exact Nat.le_of_ble_eq_true rfl)); intro D' h' F' N' l1; (try k_sweep))) | fail "no"
  k_with "binaryOp Add ref ref" => first | ((k_here; k_dflt (refine' tup_add ?Fq10 ?Nq10 ?lq10 ?rq10 ?_ ?zq10; (case Fq10 => k_asm); (case Nq10 => k_asm); (case lq10 => k_extra "mem"); (case rq10 => k_extra "mem"); (case zq10 => exact Nat.le_of_ble_eq_true rfl)); intro D' h' F' N' l1; (try dsimp only [List.cons_append, List.nil_append] at N'); (try k_sweep))) | fail "no"
  k_with "kok" => first | (first | exact ok_cont _ _ | exact ok_head _ _ | exact ok_key _ _ | exact ok_lsa _ _) | fail "no"
  k_with "compareOp NotEq ref" => first | ((k_here; k_dflt (refine' dat_cmp_ne ?Nq12 ?aq12 ?bq12 ?kaq12 ?kbq12 ?huq12 ?_; (case Nq12 => k_asm); (case aq12 => k_extra "dat"); (case bq12 => k_extra "dat"); (case kaq12 => k_extra "kok"); (case kbq12 => k_extra "kok"); (case huq12 => ktr_units)))) | fail "no"
  k_with "ctr ends" => first | (( (case Bq13 => k_asm); (case Fq13 => k_asm); (case Xq13 => k_asm); (case Nq13 => k_asm); (case Tq13 => k_asm); (case hkq13 => first | exact rfl | assumption); (case hdq13 => ktr_room); (case huq13 => ktr_units))) | fail "no"
  k_with "call ref" => first | ((k_here; k_dflt (refine' Ctr.use (aged_head_c _ _ _ _ _ _ ?hDq14) ?Bq14 ?Fq14 ?Xq14 ?Nq14 ?Tq14 ?hkq14 ?hdq14 ?huq14 ?_; (case Bq14 => k_asm); (case Fq14 => k_asm); (case Xq14 => k_asm); (case Nq14 => k_asm); (case Tq14 => k_asm); (case hDq14 => k_extra "dat"); (case hkq14 => first | exact rfl | assumption); (case hdq14 => k_extra "room"); (case huq14 => k_extra "units"); k_whole; intro r' news' h' tk' F' N' P'; obtain ⟨⟨tl', e'⟩, d'⟩ := P'; subst e'); (try dsimp only); (try k_fold))) | fail "no"
  k_with "call ref" => first | ((k_here; k_dflt (refine' Ctr.use (key_of_c _ _ _ _ ?hDq15) ?Bq15 ?Fq15 ?Xq15 ?Nq15 ?Tq15 ?hkq15 ?hdq15 ?huq15 ?_; (case Bq15 => k_asm); (case Fq15 => k_asm); (case Xq15 => k_asm); (case Nq15 => k_asm); (case Tq15 => k_asm); (case hDq15 => k_extra "dat"); (case hkq15 => first | exact rfl | assumption); (case hdq15 => k_extra "room"); (case huq15 => k_extra "units"); k_whole; intro r' news' h' tk' F' N' P'; obtain ⟨⟨tl', e'⟩, d'⟩ := P'; subst e'); (try dsimp only); (try k_fold))) | fail "no"
  k_with "call ref" => first | ((k_here; k_dflt (refine' Ctr.use (aged_c _ _ _ _ _ _ ?hDq16) ?Bq16 ?Fq16 ?Xq16 ?Nq16 ?Tq16 ?hkq16 ?hdq16 ?huq16 ?_; (case Bq16 => k_asm); (case Fq16 => k_asm); (case Xq16 => k_asm); (case Nq16 => k_asm); (case Tq16 => k_asm); (case hDq16 => k_extra "dat"); (case hkq16 => first | exact rfl | assumption); (case hdq16 => k_extra "room"); (case huq16 => k_extra "units"); k_whole; intro r' news' h' tk' F' N' P'; obtain ⟨⟨tl', e'⟩, d'⟩ := P'; subst e'); (try dsimp only); (try k_fold))) | fail "no"
  k_with "call ref" => first | ((k_here; k_dflt (refine' Ctr.use (newer_of_c _ _ _ _ _ _ ?hDq17 ?hEq17) ?Bq17 ?Fq17 ?Xq17 ?Nq17 ?Tq17 ?hkq17 ?hdq17 ?huq17 ?_; (case Bq17 => k_asm); (case Fq17 => k_asm); (case Xq17 => k_asm); (case Nq17 => k_asm); (case Tq17 => k_asm); (case hDq17 => k_extra "dat"); (case hEq17 => k_extra "dat"); (case hkq17 => first | exact rfl | assumption); (case hdq17 => k_extra "room"); (case huq17 => k_extra "units"); k_whole; intro r' news' h' tk' F' N' P'; obtain ⟨⟨tl', e'⟩, d'⟩ := P'; subst e'; cases d'); (try dsimp only); (try k_fold))) | fail "no"
  k_with "call ref" => first | ((k_here; k_dflt (refine' Ctr.use (is_changed_c _ _ _ _ _ _ ?hDq18 ?hEq18) ?Bq18 ?Fq18 ?Xq18 ?Nq18 ?Tq18 ?hkq18 ?hdq18 ?huq18 ?_; (case Bq18 => k_asm); (case Fq18 => k_asm); (case Xq18 => k_asm); (case Nq18 => k_asm); (case Tq18 => k_asm); (case hDq18 => k_extra "dat"); (case hEq18 => k_extra "dat"); (case hkq18 => first | exact rfl | assumption); (case hdq18 => k_extra "room"); (case huq18 => k_extra "units"); k_whole; intro r' news' h' tk' F' N' P'; obtain ⟨⟨tl', e'⟩, d'⟩ := P'; subst e'; cases d'); (try dsimp only); (try k_fold))) | fail "no"
  k_with "call ref" => first | ((k_here; k_dflt (refine' Ctr.use (look_c _ _ _ _ _ _ _ _ _ ?hoq19 ?hdbq19 ?hk0q19) ?Bq19 ?Fq19 ?Xq19 ?Nq19 ?Tq19 ?hkq19 ?hdq19 ?huq19 ?_; (case Bq19 => k_asm); (case Fq19 => k_asm); (case Xq19 => k_asm); (case Nq19 => k_asm); (case Tq19 => k_asm); (case hk0q19 => k_extra "dat"); (case hoq19 => k_extra "obj"); (case hdbq19 => k_extra "db"); (case hkq19 => first | exact rfl | assumption); (case hdq19 => k_extra "room"); (case huq19 => k_extra "units"); k_whole; intro r' news' h' tk' F' N' P'; obtain ⟨⟨tl', e'⟩, d'⟩ := P'; subst e'); (try dsimp only); (try k_fold))) | fail "no"
  k_with "call ref" => first | ((k_here; k_dflt (refine' Ctr.use (keys_c _ _ _ _ _ ?hoq20 ?hdbq20) ?Bq20 ?Fq20 ?Xq20 ?Nq20 ?Tq20 ?hkq20 ?hdq20 ?huq20 ?_; (case Bq20 => k_asm); (case Fq20 => k_asm); (case Xq20 => k_asm); (case Nq20 => k_asm); (case Tq20 => k_asm); (case hoq20 => k_extra "obj"); (case hdbq20 => k_extra "db"); (case hkq20 => first | exact rfl | assumption); (case hdq20 => k_extra "room"); (case huq20 => k_extra "units"); k_whole; intro r' news' h' tk' F' N' P'; obtain ⟨⟨tl', e'⟩, d'⟩ := P'; subst e'; obtain ⟨la', vs', n', e', hm', da'⟩ := listD_open d'; subst e'); (try dsimp only); (try k_fold))) | fail "no"
  k_with "call ref" => first | ((k_here; k_dflt (refine' Ctr.use (rows_c _ _ _ _ _ _ _ ?hoq21 ?hdbq21) ?Bq21 ?Fq21 ?Xq21 ?Nq21 ?Tq21 ?hkq21 ?hdq21 ?huq21 ?_; (case Bq21 => k_asm); (case Fq21 => k_asm); (case Xq21 => k_asm); (case Nq21 => k_asm); (case Tq21 => k_asm); (case hoq21 => k_extra "obj"); (case hdbq21 => k_extra "db"); (case hkq21 => first | exact rfl | assumption); (case hdq21 => k_extra "room"); (case huq21 => k_extra "units"); k_whole; intro r' news' h' tk' F' N' P'; obtain ⟨⟨tl', e'⟩, d'⟩ := P'; subst e'; obtain ⟨la', vs', n', e', hm', da'⟩ := listD_open d'; subst e'); (try dsimp only); (try k_fold))) | fail "no"
  k_with "db" => first | (first | with_reducible assumption | (refine' DbIs.sub ?hsq22 ?hdq22; (case hdq22 => with_reducible assumption); (case hsq22 => k_extra "sub"))) | fail "no"
  k_with "compareOp NotIn" => first | ((k_here; (with_reducible show wpAny _ _ (compareOp CmpOp.NotIn (Value.ref _) (Value.ref _)) _ _ _); k_dflt (first | (refine' rows_notIn_some ?Nq23 ?dq23 ?kq23 ?uq23 ?bq23 ?_; (case Nq23 => k_asm); (case dq23 => k_extra "db"); (case kq23 => k_extra "dat"); (case uq23 => ktr_units); (case bq23 => with_reducible assumption)) | (refine' rows_notIn_none ?Nq23 ?dq23 ?kq23 ?uq23 ?bq23 ?_; (case Nq23 => k_asm); (case dq23 => k_extra "db"); (case kq23 => k_extra "dat"); (case uq23 => ktr_units); (case bq23 => with_reducible assumption))); intro tk')) | fail "no"
  k_with "subscriptTail" => first | ((k_here; (with_reducible show wpAny _ _ (subscriptTail _ _ (Value.ref _) (Value.ref _)) _ _ _); k_dflt (refine' rows_item ?Nq24 ?dq24 ?kq24 ?uq24 ?rq24 ?_ ?sq24 ?gq24; (case Nq24 => k_asm); (case dq24 => k_extra "db"); (case kq24 => k_extra "dat"); (case uq24 => ktr_units); (case rq24 => with_reducible assumption); (case sq24 => with_unfolding_all rfl); (case gq24 => (intro _; with_unfolding_all rfl))); intro v' tk' dv'; k_dflt (obtain ⟨a', n', lv', t', e', hm', dl'⟩ := rvD_open dv'; subst e'))) | fail "no"
  k_with "obj" => first | (first | with_reducible assumption | (refine' dbObj_sub ?hsq25 ?hdq25; (case hdq25 => with_reducible assumption); (case hsq25 => k_extra "sub")) | (refine' ⟨_, _, _, _, ?m1q25, ?m2q25⟩; (case m1q25 => k_extra "mem"); (case m2q25 => k_extra "mem"))) | fail "no"
  k_with "call builtin:sorted" => first | ((k_here; (with_reducible show wpAny _ _ (call (Value.builtin "sorted") [Value.ref _]) _ _ _); k_dflt (refine' rows_sorted ?hhq26 ?Fq26 ?Nq26 ?dq26 ?_; (case hhq26 => rfl); (case Fq26 => k_asm); (case Nq26 => k_asm); (case dq26 => k_extra "db")); intro B' h' c' tk' vs' F' N' l1 dv')) | fail "no"
  k_with "eval ListComp" => first | ((k_here; k_dflt (refine' lc_eval ?Fq27 ?c1q27 ?c2q27 ?c3q27 ?c4q27 ?c5q27 ?_; (case Fq27 => k_asm); (case c1q27 => with_unfolding_all rfl); (case c2q27 => decide); (case c3q27 => rfl); (case c4q27 => decide); (case c5q27 => rfl)))) | fail "no"
  k_with "exec Assign cons ListComp" => first | ((k_here; k_dflt (refine' lc_assign ?Fq28 ?c0q28 ?cwq28 ?c1q28 ?c2q28 ?c3q28 ?c4q28 ?c5q28 ?c6q28 ?c7q28 ?_; (case Fq28 => k_asm); (case c0q28 => rfl); (case cwq28 => with_unfolding_all rfl); (case c1q28 => with_unfolding_all rfl); (case c2q28 => decide); (case c3q28 => rfl); (case c4q28 => decide); (case c5q28 => rfl); (case c6q28 => rfl); (case c7q28 => rfl)))) | fail "no"
  trivial
def fresh? (l : Lsa) : Bool := decide (l.age < 3600)
def ended? (l : Lsa) : Bool := decide (l.age = 3600)
theorem summary_c (w : World) (news : Led) (x d : Addr) (D : List Rw) (now : Int) (ts : Tok) (ho : DbObj news x d) (hdb : DbIs w news d D) :
   Ctr PR w (hd.heap_39 w.params) 117 8 600 [.ref x, .int now ts] news (PureD news (.list (((rowsAt D now).filter fresh?).map headD))) := by
  unfold Ctr
  have ho' := ho
  obtain ⟨dx, hs, t, n, hx, hdx⟩ := ho'
  intros
  rename_i hret
  refine wpAny_call ?_
  walk_at "my enter"
  k_steps
  refine' CSrc.pure (src := (rowsAt D now).map lsaD) (fun d => if fresh? (lsaOf d) = true then some (headD (lsaOf d)) else none) ?h1 ?h2 ?h3 ?h4 ?h5 ?h6 ?h7 ?turn ?fin
  case h1 => exact rfl
  case h2 => k_asm
  case h3 => k_asm
  case h4 => walk_at "mem"
  case h5 => walk_at "datall"
  case h6 => exact Nat.le_trans (by rw [List.length_map]; exact rowsAt_len) (by decide)
  case h7 => intro d _ d' e; split at e <;> cases e; rfl
  case turn =>
    intro tl ys v dk I oI C oC Da m₂ h tk E' hm hv hC hx' F' N'
    obtain ⟨l, hk, rfl⟩ := List.mem_map.mp hm
    obtain ⟨a, n, hv', cv, rfl, hm', hH, hC'⟩ := lsaD_open hv
    obtain ⟨a2, n2, t0, t1, t2, t3, t4, t5, t6, rfl, hm2⟩ := headD_open hH
    refine wpAny_tests_one ?_
    by_cases hA : l.age < 3600
    · k_steps
      exact PEnd.mk (by k_asm) (by k_asm) (by walk_at "suf") (if_pos (decide_eq_true hA)) (by walk_at "dat")
    · k_steps
      exact PSkip.mk (by k_asm) (by k_asm) (by walk_at "suf") (if_neg (by show ¬ decide (l.age < 3600) = true; simpa using hA))
  case fin =>
    intro ys tl hY
    rw [fm_filter fresh? _ headD fun _ => rfl] at hY
    k_steps
    exact hret _ _ _ _ (by k_asm) (by k_asm) ⟨by walk_at "suf", by walk_at "dat"⟩
end
section
example : True := by
  k_with_none
  k_with "my enter" => first | (k_dflt (first | (refine' code_def ?k1q0 ?k2q0 ?k3q0 ?k4q0 ?k5q0 ?kAq0 ?kFq0 ?kKq0 ?k6q0 ?k7q0 ?k8q0 ?k9q0 ?kBq0 ?_ ?c2q0 ?c3q0 ?c4q0 ?c5q0; (case kAq0 => exact rfl); (case kFq0 => exact rfl); (case kKq0 => assumption); (case k1q0 => k_asm); (case k2q0 => k_asm); (case k3q0 => k_asm); (case k4q0 => k_asm); (case k5q0 => k_asm); (case k6q0 => k_is); (case k7q0 => k_is); (case k8q0 => ktr_room); (case k9q0 => first | exact BindsTo.of_eq rfl | exact binds_K (by k_in) rfl (by k_is) rfl rfl rfl); (case c5q0 => decide); (case kBq0 => exact locs rfl); (case c2q0 => exact rfl); (case c3q0 => exact rfl); (case c4q0 => exact rfl); k_whole; intro g' L' h' FG' F' N' B' X' T'; (try dsimp only); (try k_lift B'); (try k_fold)) | (refine' code_defC ?k1q0 ?k2q0 ?k3q0 ?k4q0 ?k5q0 ?kAq0 ?kFq0 ?kKq0 ?k6q0 ?k7q0 ?k8q0 ?k9q0 ?kBq0 ?kDq0 ?_ ?c2q0 ?c3q0 ?c4q0; (case kAq0 => exact rfl); (case kFq0 => exact rfl); (case kKq0 => assumption); (case k1q0 => k_asm); (case k2q0 => k_asm); (case k3q0 => k_asm); (case k4q0 => k_asm); (case k5q0 => k_asm); (case k6q0 => k_is); (case k7q0 => k_is); (case k8q0 => ktr_room); (case k9q0 => first | exact BindsTo.of_eq rfl | exact binds_K (by k_in) rfl (by k_is) rfl rfl rfl); (case kBq0 => exact rfl); (case kDq0 => decide +kernel); (case c2q0 => exact rfl); (case c3q0 => exact rfl); (case c4q0 => exact rfl); k_whole; intro g' L' h' tk' cells' FG' F' N' Y' B' X' T' l1; (try k_lt l1); k_cells Y'; (try simp only [List.cons_append, List.nil_append] at N'); (try dsimp only); (try k_lift B'); (try k_fold)))) | fail "no"
  k_with "mem" => first | (first | with_reducible assumption | exact List.Mem.head _ | ((with_reducible refine List.mem_cons_of_mem _ ?_); k_extra "mem") | ((with_reducible refine List.mem_append_right _ ?_); k_extra "mem") | k_extra "memx") | fail "no"
  k_with "sub" => first | (first | with_reducible exact fun _ h => h | ((with_reducible refine fun p h => List.mem_cons_of_mem _ ?_); revert p h; k_extra "sub") | ((with_reducible refine fun p h => List.mem_append_right _ ?_); revert p h; k_extra "sub") | with_reducible assumption) | fail "no"
  k_with "suf" => first | (first | with_reducible exact List.suffix_refl _ | ((with_reducible refine List.IsSuffix.trans ?_ (List.suffix_cons _ _)); k_extra "suf") | ((with_reducible refine List.IsSuffix.trans ?_ (List.suffix_append _ _)); k_extra "suf")) | fail "no"
  k_with "inteq" => first | (first | rfl | omega | (split <;> omega) | ((simp only [Lsa.aged]); (first | rfl | omega | (split <;> omega)))) | fail "no"
  k_with "dat" => first | (first | exact DatIn.none | exact DatIn.bool _ | with_reducible assumption | (refine dat_int ?_; k_extra "inteq") | exact DatIn.str _ _ | (refine' DatIn.mono ?hsq5 ?hdq5; (case hdq5 => with_reducible assumption); (case hsq5 => k_extra "sub")) | (refine' DatIn.tuple ?hmq5 ?hdq5; (case hmq5 => k_extra "mem"); (case hdq5 => k_extra "datall")) | (refine' DatIn.list ?hmq5 ?hdq5; (case hmq5 => k_extra "mem"); (case hdq5 => k_extra "datall")) | (refine' DatIn.mono ?hsq5 ?hdq5; (case hdq5 => assumption); (case hsq5 => k_extra "sub"))) | fail "no"
  k_with "datall" => first | (first | exact DatAll.nil | (refine' DatAll.cons ?_ ?_; (next => k_extra "dat"); (next => k_extra "datall")) | (refine' datAll_mono ?hsq6 ?hdq6; (case hdq6 => with_reducible assumption); (case hsq6 => k_extra "sub")) | k_extra "datallx") | fail "no"
  k_with "room" => first | (((try simp only [depth_under_make, depth_under_kw, depth_in1, depth_deeper, depth_caller]); (try dsimp only); first | omega | ktr_room)) | fail "no"
  k_with "units" => first | (((try simp only [units_in1, units_deeper, Around.mark_units, units_caller]); (try dsimp only); first | omega | ktr_units)) | fail "no"
  k_with "subscriptTail Name Slice ref ref" => first | ((k_here; k_dflt (refine' tup_from1 ?Fq9 ?Nq9 ?lq9 ?_ ?sq9 ?tq9 ?zq9; (case Fq9 => k_asm); (case Nq9 => k_asm); (case lq9 => k_extra "mem"); (case sq9 => with_unfolding_all rfl); (case tq9 => (intro _; with_unfolding_all rfl)); (case zq9 => exact Nat.le_of_ble_eq_true rfl)); intro D' h' F' N' l1; (try k_sweep))) | fail "no"
  k_with "binaryOp Add ref ref" => first | ((k_here; k_dflt (refine' tup_add ?Fq10 ?Nq10 ?lq10 ?rq10 ?_ ?zq10; (case Fq10 => k_asm); (case Nq10 => k_asm); (case lq10 => k_extra "mem"); (case rq10 => k_extra "mem"); (case zq10 => exact Nat.le_of_ble_eq_true rfl)); intro D' h' F' N' l1; (try dsimp only [List.cons_append, List.nil_append] at N'); (try k_sweep))) | fail "no"
  k_with "kok" => first | (first | exact ok_cont _ _ | exact ok_head _ _ | exact ok_key _ _ | exact ok_lsa _ _) | fail "no"
  k_with "compareOp NotEq ref" => first | ((k_here; k_dflt (refine' dat_cmp_ne ?Nq12 ?aq12 ?bq12 ?kaq12 ?kbq12 ?huq12 ?_; (case Nq12 => k_asm); (case aq12 => k_extra "dat"); (case bq12 => k_extra "dat"); (case kaq12 => k_extra "kok"); (case kbq12 => k_extra "kok"); (case huq12 => ktr_units)))) | fail "no"
  k_with "ctr ends" => first | (( (case Bq13 => k_asm); (case Fq13 => k_asm); (case Xq13 => k_asm); (case Nq13 => k_asm); (case Tq13 => k_asm); (case hkq13 => first | exact rfl | assumption); (case hdq13 => ktr_room); (case huq13 => ktr_units))) | fail "no"
  k_with "call ref" => first | ((k_here; k_dflt (refine' Ctr.use (aged_head_c _ _ _ _ _ _ ?hDq14) ?Bq14 ?Fq14 ?Xq14 ?Nq14 ?Tq14 ?hkq14 ?hdq14 ?huq14 ?_; (case Bq14 => k_asm); (case Fq14 => k_asm); (case Xq14 => k_asm); (case Nq14 => k_asm); (case Tq14 => k_asm); (case hDq14 => k_extra "dat"); (case hkq14 => first | exact rfl | assumption); (case hdq14 => k_extra "room"); (case huq14 => k_extra "units"); k_whole; intro r' news' h' tk' F' N' P'; obtain ⟨⟨tl', e'⟩, d'⟩ := P'; subst e'); (try dsimp only); (try k_fold))) | fail "no"
  k_with "call ref" => first | ((k_here; k_dflt (refine' Ctr.use (key_of_c _ _ _ _ ?hDq15) ?Bq15 ?Fq15 ?Xq15 ?Nq15 ?Tq15 ?hkq15 ?hdq15 ?huq15 ?_; (case Bq15 => k_asm); (case Fq15 => k_asm); (case Xq15 => k_asm); (case Nq15 => k_asm); (case Tq15 => k_asm); (case hDq15 => k_extra "dat"); (case hkq15 => first | exact rfl | assumption); (case hdq15 => k_extra "room"); (case huq15 => k_extra "units"); k_whole; intro r' news' h' tk' F' N' P'; obtain ⟨⟨tl', e'⟩, d'⟩ := P'; subst e'); (try dsimp only); (try k_fold))) | fail "no"
  k_with "call ref" => first | ((k_here; k_dflt (refine' Ctr.use (aged_c _ _ _ _ _ _ ?hDq16) ?Bq16 ?Fq16 ?Xq16 ?Nq16 ?Tq16 ?hkq16 ?hdq16 ?huq16 ?_; (case Bq16 => k_asm); (case Fq16 => k_asm); (case Xq16 => k_asm); (case Nq16 => k_asm); (case Tq16 => k_asm); (case hDq16 => k_extra "dat"); (case hkq16 => first | exact rfl | assumption); (case hdq16 => k_extra "room"); (case huq16 => k_extra "units"); k_whole; intro r' news' h' tk' F' N' P'; obtain ⟨⟨tl', e'⟩, d'⟩ := P'; subst e'); (try dsimp only); (try k_fold))) | fail "no"
  k_with "call ref" => first | ((k_here; k_dflt (refine' Ctr.use (newer_of_c _ _ _ _ _ _ ?hDq17 ?hEq17) ?Bq17 ?Fq17 ?Xq17 ?Nq17 ?Tq17 ?hkq17 ?hdq17 ?huq17 ?_; (case Bq17 => k_asm); (case Fq17 => k_asm); (case Xq17 => k_asm); (case Nq17 => k_asm); (case Tq17 => k_asm); (case hDq17 => k_extra "dat"); (case hEq17 => k_extra "dat"); (case hkq17 => first | exact rfl | assumption); (case hdq17 => k_extra "room"); (case huq17 => k_extra "units"); k_whole; intro r' news' h' tk' F' N' P'; obtain ⟨⟨tl', e'⟩, d'⟩ := P'; subst e'; cases d'); (try dsimp only); (try k_fold))) | fail "no"
  k_with "call ref" => first | ((k_here; k_dflt (refine' Ctr.use (is_changed_c _ _ _ _ _ _ ?hDq18 ?hEq18) ?Bq18 ?Fq18 ?Xq18 ?Nq18 ?Tq18 ?hkq18 ?hdq18 ?huq18 ?_; (case Bq18 => k_asm); (case Fq18 => k_asm); (case Xq18 => k_asm); (case Nq18 => k_asm); (case Tq18 => k_asm); (case hDq18 => k_extra "dat"); (case hEq18 => k_extra "dat"); (case hkq18 => first | exact rfl | assumption); (case hdq18 => k_extra "room"); (case huq18 => k_extra "units"); k_whole; intro r' news' h' tk' F' N' P'; obtain ⟨⟨tl', e'⟩, d'⟩ := P'; subst e'; cases d'); (try dsimp only); (try k_fold))) | fail "no"
  k_with "call ref" => first | ((k_here; k_dflt (refine' Ctr.use (look_c _ _ _ _ _ _ _ _ _ ?hoq19 ?hdbq19 ?hk0q19) ?Bq19 ?Fq19 ?Xq19 ?Nq19 ?Tq19 ?hkq19 ?hdq19 ?huq19 ?_; (case Bq19 => k_asm); (case Fq19 => k_asm); (case Xq19 => k_asm); (case Nq19 => k_asm); (case Tq19 => k_asm); (case hk0q19 => k_extra "dat"); (case hoq19 => k_extra "obj"); (case hdbq19 => k_extra "db"); (case hkq19 => first | exact rfl | assumption); (case hdq19 => k_extra "room"); (case huq19 => k_extra "units"); k_whole; intro r' news' h' tk' F' N' P'; obtain ⟨⟨tl', e'⟩, d'⟩ := P'; subst e'); (try dsimp only); (try k_fold))) | fail "no"
  k_with "call ref" => first | ((k_here; k_dflt (refine' Ctr.use (keys_c _ _ _ _ _ ?hoq20 ?hdbq20) ?Bq20 ?Fq20 ?Xq20 ?Nq20 ?Tq20 ?hkq20 ?hdq20 ?huq20 ?_; (case Bq20 => k_asm); (case Fq20 => k_asm); (case Xq20 => k_asm); (case Nq20 => k_asm); (case Tq20 => k_asm); (case hoq20 => k_extra "obj"); (case hdbq20 => k_extra "db"); (case hkq20 => first | exact rfl | assumption); (case hdq20 => k_extra "room"); (case huq20 => k_extra "units"); k_whole; intro r' news' h' tk' F' N' P'; obtain ⟨⟨tl', e'⟩, d'⟩ := P'; subst e'; obtain ⟨la', vs', n', e', hm', da'⟩ := listD_open d'; subst e'); (try dsimp only); (try k_fold))) | fail "no"
  k_with "call ref" => first | ((k_here; k_dflt (refine' Ctr.use (rows_c _ _ _ _ _ _ _ ?hoq21 ?hdbq21) ?Bq21 ?Fq21 ?Xq21 ?Nq21 ?Tq21 ?hkq21 ?hdq21 ?huq21 ?_; (case Bq21 => k_asm); (case Fq21 => k_asm); (case Xq21 => k_asm); (case Nq21 => k_asm); (case Tq21 => k_asm); (case hoq21 => k_extra "obj"); (case hdbq21 => k_extra "db"); (case hkq21 => first | exact rfl | assumption); (case hdq21 => k_extra "room"); (case huq21 => k_extra "units"); k_whole; intro r' news' h' tk' F' N' P'; obtain ⟨⟨tl', e'⟩, d'⟩ := P'; subst e'; obtain ⟨la', vs', n', e', hm', da'⟩ := listD_open d'; subst e'); (try dsimp only); (try k_fold))) | fail "no"
  k_with "db" => first | (first | with_reducible assumption | (refine' DbIs.sub ?hsq22 ?hdq22; (case hdq22 => with_reducible assumption); (case hsq22 => k_extra "sub"))) | fail "no"
  k_with "compareOp NotIn" => first | ((k_here; (with_reducible show wpAny _ _ (compareOp CmpOp.NotIn (Value.ref _) (Value.ref _)) _ _ _); k_dflt (first | (refine' rows_notIn_some ?Nq23 ?dq23 ?kq23 ?uq23 ?bq23 ?_; (case Nq23 => k_asm); (case dq23 => k_extra "db"); (case kq23 => k_extra "dat"); (case uq23 => ktr_units); (case bq23 => with_reducible assumption)) | (refine' rows_notIn_none ?Nq23 ?dq23 ?kq23 ?uq23 ?bq23 ?_; (case Nq23 => k_asm); (case dq23 => k_extra "db"); (case kq23 => k_extra "dat"); (case uq23 => ktr_units); (case bq23 => with_reducible assumption))); intro tk')) | fail "no"
  k_with "subscriptTail" => first | ((k_here; (with_reducible show wpAny _ _ (subscriptTail _ _ (Value.ref _) (Value.ref _)) _ _ _); k_dflt (refine' rows_item ?Nq24 ?dq24 ?kq24 ?uq24 ?rq24 ?_ ?sq24 ?gq24; (case Nq24 => k_asm); (case dq24 => k_extra "db"); (case kq24 => k_extra "dat"); (case uq24 => ktr_units); (case rq24 => with_reducible assumption); (case sq24 => with_unfolding_all rfl); (case gq24 => (intro _; with_unfolding_all rfl))); intro v' tk' dv'; k_dflt (obtain ⟨a', n', lv', t', e', hm', dl'⟩ := rvD_open dv'; subst e'))) | fail "no"
  k_with "obj" => first | (first | with_reducible assumption | (refine' dbObj_sub ?hsq25 ?hdq25; (case hdq25 => with_reducible assumption); (case hsq25 => k_extra "sub")) | (refine' ⟨_, _, _, _, ?m1q25, ?m2q25⟩; (case m1q25 => k_extra "mem"); (case m2q25 => k_extra "mem"))) | fail "no"
  k_with "call builtin:sorted" => first | ((k_here; (with_reducible show wpAny _ _ (call (Value.builtin "sorted") [Value.ref _]) _ _ _); k_dflt (refine' rows_sorted ?hhq26 ?Fq26 ?Nq26 ?dq26 ?_; (case hhq26 => rfl); (case Fq26 => k_asm); (case Nq26 => k_asm); (case dq26 => k_extra "db")); intro B' h' c' tk' vs' F' N' l1 dv')) | fail "no"
  k_with "eval ListComp" => first | ((k_here; k_dflt (refine' lc_eval ?Fq27 ?c1q27 ?c2q27 ?c3q27 ?c4q27 ?c5q27 ?_; (case Fq27 => k_asm); (case c1q27 => with_unfolding_all rfl); (case c2q27 => decide); (case c3q27 => rfl); (case c4q27 => decide); (case c5q27 => rfl)))) | fail "no"
  k_with "exec Assign cons ListComp" => first | ((k_here; k_dflt (refine' lc_assign ?Fq28 ?c0q28 ?cwq28 ?c1q28 ?c2q28 ?c3q28 ?c4q28 ?c5q28 ?c6q28 ?c7q28 ?_; (case Fq28 => k_asm); (case c0q28 => rfl); (case cwq28 => with_unfolding_all rfl); (case c1q28 => with_unfolding_all rfl); (case c2q28 => decide); (case c3q28 => rfl); (case c4q28 => decide); (case c5q28 => rfl); (case c6q28 => rfl); (case c7q28 => rfl)))) | fail "no"
  trivial
theorem ended_c (w : World) (news : Led) (x d : Addr) (D : List Rw) (now : Int) (ts : Tok) (ho : DbObj news x d) (hdb : DbIs w news d D) :
   Ctr PR w (hd.heap_39 w.params) 122 8 600 [.ref x, .int now ts] news (PureD news (.list (((rowsAt D now).filter ended?).map fun l => keyD l.key))) := by
  unfold Ctr
  have ho' := ho
  obtain ⟨dx, hs, t, n, hx, hdx⟩ := ho'
  intros
  rename_i hret
  refine wpAny_call ?_
  walk_at "my enter"
  k_steps
  refine' CSrc.pure (src := (rowsAt D now).map lsaD) (fun d => if ended? (lsaOf d) = true then some (keyD (lsaOf d).key) else none) ?h1 ?h2 ?h3 ?h4 ?h5 ?h6 ?h7 ?turn ?fin
  case h1 => exact rfl
  case h2 => k_asm
  case h3 => k_asm
  case h4 => walk_at "mem"
  case h5 => walk_at "datall"
  case h6 => exact Nat.le_trans (by rw [List.length_map]; exact rowsAt_len) (by decide)
  case h7 => intro d _ d' e; split at e <;> cases e; rfl
  case turn =>
    intro tl ys v dk I oI C oC Da m₂ h tk E' hm hv hC hx' F' N'
    obtain ⟨l, hk, rfl⟩ := List.mem_map.mp hm
    obtain ⟨a, n, hv', cv, rfl, hm', hH, hC'⟩ := lsaD_open hv
    obtain ⟨a2, n2, t0, t1, t2, t3, t4, t5, t6, rfl, hm2⟩ := headD_open hH
    refine wpAny_tests_one ?_
    by_cases hA : l.age = 3600
    · k_steps
      all_goals first | (exfalso; omega) | exact PEnd.mk (by k_asm) (by k_asm) (by walk_at "suf") (if_pos (decide_eq_true hA)) (by walk_at "dat")
    · k_steps
      all_goals first | (exfalso; omega) | exact PSkip.mk (by k_asm) (by k_asm) (by walk_at "suf") (if_neg (by show ¬ decide (l.age = 3600) = true; simpa using hA))
  case fin =>
    intro ys tl hY
    rw [fm_filter ended? _ (fun l => keyD l.key) fun _ => rfl] at hY
    k_steps
    exact hret _ _ _ _ (by k_asm) (by k_asm) ⟨by walk_at "suf", by walk_at "dat"⟩
end
section
example : True := by
  k_with_none
  k_with "my enter" => first | (k_dflt (first | (refine' code_def ?k1q0 ?k2q0 ?k3q0 ?k4q0 ?k5q0 ?kAq0 ?kFq0 ?kKq0 ?k6q0 ?k7q0 ?k8q0 ?k9q0 ?kBq0 ?_ ?c2q0 ?c3q0 ?c4q0 ?c5q0; (case kAq0 => exact rfl); (case kFq0 => exact rfl); (case kKq0 => assumption); (case k1q0 => k_asm); (case k2q0 => k_asm); (case k3q0 => k_asm); (case k4q0 => k_asm); (case k5q0 => k_asm); (case k6q0 => k_is); (case k7q0 => k_is); (case k8q0 => ktr_room); (case k9q0 => first | exact BindsTo.of_eq rfl | exact binds_K (by k_in) rfl (by k_is) rfl rfl rfl); (case c5q0 => decide); (case kBq0 => exact locs rfl); (case c2q0 => exact rfl); (case c3q0 => exact rfl); (case c4q0 => exact rfl); k_whole; intro g' L' h' FG' F' N' B' X' T'; (try dsimp only); (try k_lift B'); (try k_fold)) | (refine' code_defC ?k1q0 ?k2q0 ?k3q0 ?k4q0 ?k5q0 ?kAq0 ?kFq0 ?kKq0 ?k6q0 ?k7q0 ?k8q0 ?k9q0 ?kBq0 ?kDq0 ?_ ?c2q0 ?c3q0 ?c4q0; (case kAq0 => exact rfl); (case kFq0 => exact rfl); (case kKq0 => assumption); (case k1q0 => k_asm); (case k2q0 => k_asm); (case k3q0 => k_asm); (case k4q0 => k_asm); (case k5q0 => k_asm); (case k6q0 => k_is); (case k7q0 => k_is); (case k8q0 => ktr_room); (case k9q0 => first | exact BindsTo.of_eq rfl | exact binds_K (by k_in) rfl (by k_is) rfl rfl rfl); (case kBq0 => exact rfl); (case kDq0 => decide +kernel); (case c2q0 => exact rfl); (case c3q0 => exact rfl); (case c4q0 => exact rfl); k_whole; intro g' L' h' tk' cells' FG' F' N' Y' B' X' T' l1; (try k_lt l1); k_cells Y'; (try simp only [List.cons_append, List.nil_append] at N'); (try dsimp only); (try k_lift B'); (try k_fold)))) | fail "no"
  k_with "mem" => first | (first | with_reducible assumption | exact List.Mem.head _ | ((with_reducible refine List.mem_cons_of_mem _ ?_); k_extra "mem") | ((with_reducible refine List.mem_append_right _ ?_); k_extra "mem") | k_extra "memx") | fail "no"
  k_with "sub" => first | (first | with_reducible exact fun _ h => h | ((with_reducible refine fun p h => List.mem_cons_of_mem _ ?_); revert p h; k_extra "sub") | ((with_reducible refine fun p h => List.mem_append_right _ ?_); revert p h; k_extra "sub") | with_reducible assumption) | fail "no"
  k_with "suf" => first | (first | with_reducible exact List.suffix_refl _ | ((with_reducible refine List.IsSuffix.trans ?_ (List.suffix_cons _ _)); k_extra "suf") | ((with_reducible refine List.IsSuffix.trans ?_ (List.suffix_append _ _)); k_extra "suf")) | fail "no"
  k_with "inteq" => first | (first | rfl | omega | (split <;> omega) | ((simp only [Lsa.aged]); (first | rfl | omega | (split <;> omega)))) | fail "no"
  k_with "dat" => first | (first | exact DatIn.none | exact DatIn.bool _ | with_reducible assumption | (refine dat_int ?_; k_extra "inteq") | exact DatIn.str _ _ | (refine' DatIn.mono ?hsq5 ?hdq5; (case hdq5 => with_reducible assumption); (case hsq5 => k_extra "sub")) | (refine' DatIn.tuple ?hmq5 ?hdq5; (case hmq5 => k_extra "mem"); (case hdq5 => k_extra "datall")) | (refine' DatIn.list ?hmq5 ?hdq5; (case hmq5 => k_extra "mem"); (case hdq5 => k_extra "datall")) | (refine' DatIn.mono ?hsq5 ?hdq5; (case hdq5 => assumption); (case hsq5 => k_extra "sub"))) | fail "no"
  k_with "datall" => first | (first | exact DatAll.nil | (refine' DatAll.cons ?_ ?_; (next => k_extra "dat"); (next => k_extra "datall")) | (refine' datAll_mono ?hsq6 ?hdq6; (case hdq6 => with_reducible assumption); (case hsq6 => k_extra "sub")) | k_extra "datallx") | fail "no"
  k_with "room" => first | (((try simp only [depth_under_make, depth_under_kw, depth_in1, depth_deeper, depth_caller]); (try dsimp only); first | omega | ktr_room)) | fail "no"
  k_with "units" => first | (((try simp only [units_in1, units_deeper, Around.mark_units, units_caller]); (try dsimp only); first | omega | ktr_units)) | fail "no"
  k_with "subscriptTail Name Slice ref ref" => first | ((k_here; k_dflt (refine' tup_from1 ?Fq9 ?Nq9 ?lq9 ?_ ?sq9 ?tq9 ?zq9; (case Fq9 => k_asm); (case Nq9 => k_asm); (case lq9 => k_extra "mem"); (case sq9 => with_unfolding_all rfl); (case tq9 => (intro _; with_unfolding_all rfl)); (case zq9 => exact Nat.le_of_ble_eq_true rfl)); intro D' h' F' N' l1; (try k_sweep))) | fail "no"
  k_with "binaryOp Add ref ref" => first | ((k_here; k_dflt (refine' tup_add ?Fq10 ?Nq10 ?lq10 ?rq10 ?_ ?zq10; (case Fq10 => k_asm); (case Nq10 => k_asm); (case lq10 => k_extra "mem"); (case rq10 => k_extra "mem"); (case zq10 => exact Nat.le_of_ble_eq_true rfl)); intro D' h' F' N' l1; (try dsimp only [List.cons_append, List.nil_append] at N'); (try k_sweep))) | fail "no"
  k_with "kok" => first | (first | exact ok_cont _ _ | exact ok_head _ _ | exact ok_key _ _ | exact ok_lsa _ _) | fail "no"
  k_with "compareOp NotEq ref" => first | ((k_here; k_dflt (refine' dat_cmp_ne ?Nq12 ?aq12 ?bq12 ?kaq12 ?kbq12 ?huq12 ?_; (case Nq12 => k_asm); (case aq12 => k_extra "dat"); (case bq12 => k_extra "dat"); (case kaq12 => k_extra "kok"); (case kbq12 => k_extra "kok"); (case huq12 => ktr_units)))) | fail "no"
  k_with "ctr ends" => first | (( (case Bq13 => k_asm); (case Fq13 => k_asm); (case Xq13 => k_asm); (case Nq13 => k_asm); (case Tq13 => k_asm); (case hkq13 => first | exact rfl | assumption); (case hdq13 => ktr_room); (case huq13 => ktr_units))) | fail "no"
  k_with "call ref" => first | ((k_here; k_dflt (refine' Ctr.use (aged_head_c _ _ _ _ _ _ ?hDq14) ?Bq14 ?Fq14 ?Xq14 ?Nq14 ?Tq14 ?hkq14 ?hdq14 ?huq14 ?_; (case Bq14 => k_asm); (case Fq14 => k_asm); (case Xq14 => k_asm); (case Nq14 => k_asm); (case Tq14 => k_asm); (case hDq14 => k_extra "dat"); (case hkq14 => first | exact rfl | assumption); (case hdq14 => k_extra "room"); (case huq14 => k_extra "units"); k_whole; intro r' news' h' tk' F' N' P'; obtain ⟨⟨tl', e'⟩, d'⟩ := P'; subst e'); (try dsimp only); (try k_fold))) | fail "no"
  k_with "call ref" => first | ((k_here; k_dflt (refine' Ctr.use (key_of_c _ _ _ _ ?hDq15) ?Bq15 ?Fq15 ?Xq15 ?Nq15 ?Tq15 ?hkq15 ?hdq15 ?huq15 ?_; (case Bq15 => k_asm); (case Fq15 => k_asm); (case Xq15 => k_asm); (case Nq15 => k_asm); (case Tq15 => k_asm); (case hDq15 => k_extra "dat"); (case hkq15 => first | exact rfl | assumption); (case hdq15 => k_extra "room"); (case huq15 => k_extra "units"); k_whole; intro r' news' h' tk' F' N' P'; obtain ⟨⟨tl', e'⟩, d'⟩ := P'; subst e'); (try dsimp only); (try k_fold))) | fail "no"
  k_with "call ref" => first | ((k_here; k_dflt (refine' Ctr.use (aged_c _ _ _ _ _ _ ?hDq16) ?Bq16 ?Fq16 ?Xq16 ?Nq16 ?Tq16 ?hkq16 ?hdq16 ?huq16 ?_; (case Bq16 => k_asm); (case Fq16 => k_asm); (case Xq16 => k_asm); (case Nq16 => k_asm); (case Tq16 => k_asm); (case hDq16 => k_extra "dat"); (case hkq16 => first | exact rfl | assumption); (case hdq16 => k_extra "room"); (case huq16 => k_extra "units"); k_whole; intro r' news' h' tk' F' N' P'; obtain ⟨⟨tl', e'⟩, d'⟩ := P'; subst e'); (try dsimp only); (try k_fold))) | fail "no"
  k_with "call ref" => first | ((k_here; k_dflt (refine' Ctr.use (newer_of_c _ _ _ _ _ _ ?hDq17 ?hEq17) ?Bq17 ?Fq17 ?Xq17 ?Nq17 ?Tq17 ?hkq17 ?hdq17 ?huq17 ?_; (case Bq17 => k_asm); (case Fq17 => k_asm); (case Xq17 => k_asm); (case Nq17 => k_asm); (case Tq17 => k_asm); (case hDq17 => k_extra "dat"); (case hEq17 => k_extra "dat"); (case hkq17 => first | exact rfl | assumption); (case hdq17 => k_extra "room"); (case huq17 => k_extra "units"); k_whole; intro r' news' h' tk' F' N' P'; obtain ⟨⟨tl', e'⟩, d'⟩ := P'; subst e'; cases d'); (try dsimp only); (try k_fold))) | fail "no"
  k_with "call ref" => first | ((k_here; k_dflt (refine' Ctr.use (is_changed_c _ _ _ _ _ _ ?hDq18 ?hEq18) ?Bq18 ?Fq18 ?Xq18 ?Nq18 ?Tq18 ?hkq18 ?hdq18 ?huq18 ?_; (case Bq18 => k_asm); (case Fq18 => k_asm); (case Xq18 => k_asm); (case Nq18 => k_asm); (case Tq18 => k_asm); (case hDq18 => k_extra "dat"); (case hEq18 => k_extra "dat"); (case hkq18 => first | exact rfl | assumption); (case hdq18 => k_extra "room"); (case huq18 => k_extra "units"); k_whole; intro r' news' h' tk' F' N' P'; obtain ⟨⟨tl', e'⟩, d'⟩ := P'; subst e'; cases d'); (try dsimp only); (try k_fold))) | fail "no"
  k_with "call ref" => first | ((k_here; k_dflt (refine' Ctr.use (look_c _ _ _ _ _ _ _ _ _ ?hoq19 ?hdbq19 ?hk0q19) ?Bq19 ?Fq19 ?Xq19 ?Nq19 ?Tq19 ?hkq19 ?hdq19 ?huq19 ?_; (case Bq19 => k_asm); (case Fq19 => k_asm); (case Xq19 => k_asm); (case Nq19 => k_asm); (case Tq19 => k_asm); (case hk0q19 => k_extra "dat"); (case hoq19 => k_extra "obj"); (case hdbq19 => k_extra "db"); (case hkq19 => first | exact rfl | assumption); (case hdq19 => k_extra "room"); (case huq19 => k_extra "units"); k_whole; intro r' news' h' tk' F' N' P'; obtain ⟨⟨tl', e'⟩, d'⟩ := P'; subst e'); (try dsimp only); (try k_fold))) | fail "no"
  k_with "call ref" => first | ((k_here; k_dflt (refine' Ctr.use (keys_c _ _ _ _ _ ?hoq20 ?hdbq20) ?Bq20 ?Fq20 ?Xq20 ?Nq20 ?Tq20 ?hkq20 ?hdq20 ?huq20 ?_; (case Bq20 => k_asm); (case Fq20 => k_asm); (case Xq20 => k_asm); (case Nq20 => k_asm); (case Tq20 => k_asm); (case hoq20 => k_extra "obj"); (case hdbq20 => k_extra "db"); (case hkq20 => first | exact rfl | assumption); (case hdq20 => k_extra "room"); (case huq20 => k_extra "units"); k_whole; intro r' news' h' tk' F' N' P'; obtain ⟨⟨tl', e'⟩, d'⟩ := P'; subst e'; obtain ⟨la', vs', n', e', hm', da'⟩ := listD_open d'; subst e'); (try dsimp only); (try k_fold))) | fail "no"
  k_with "call ref" => first | ((k_here; k_dflt (refine' Ctr.use (rows_c _ _ _ _ _ _ _ ?hoq21 ?hdbq21) ?Bq21 ?Fq21 ?Xq21 ?Nq21 ?Tq21 ?hkq21 ?hdq21 ?huq21 ?_; (case Bq21 => k_asm); (case Fq21 => k_asm); (case Xq21 => k_asm); (case Nq21 => k_asm); (case Tq21 => k_asm); (case hoq21 => k_extra "obj"); (case hdbq21 => k_extra "db"); (case hkq21 => first | exact rfl | assumption); (case hdq21 => k_extra "room"); (case huq21 => k_extra "units"); k_whole; intro r' news' h' tk' F' N' P'; obtain ⟨⟨tl', e'⟩, d'⟩ := P'; subst e'; obtain ⟨la', vs', n', e', hm', da'⟩ := listD_open d'; subst e'); (try dsimp only); (try k_fold))) | fail "no"
  k_with "db" => first | (first | with_reducible assumption | (refine' DbIs.sub ?hsq22 ?hdq22; (case hdq22 => with_reducible assumption); (case hsq22 => k_extra "sub"))) | fail "no"
  k_with "compareOp NotIn" => first | ((k_here; (with_reducible show wpAny _ _ (compareOp CmpOp.NotIn (Value.ref _) (Value.ref _)) _ _ _); k_dflt (first | (refine' rows_notIn_some ?Nq23 ?dq23 ?kq23 ?uq23 ?bq23 ?_; (case Nq23 => k_asm); (case dq23 => k_extra "db"); (case kq23 => k_extra "dat"); (case uq23 => ktr_units); (case bq23 => with_reducible assumption)) | (refine' rows_notIn_none ?Nq23 ?dq23 ?kq23 ?uq23 ?bq23 ?_; (case Nq23 => k_asm); (case dq23 => k_extra "db"); (case kq23 => k_extra "dat"); (case uq23 => ktr_units); (case bq23 => with_reducible assumption))); intro tk')) | fail "no"
  k_with "subscriptTail" => first | ((k_here; (with_reducible show wpAny _ _ (subscriptTail _ _ (Value.ref _) (Value.ref _)) _ _ _); k_dflt (refine' rows_item ?Nq24 ?dq24 ?kq24 ?uq24 ?rq24 ?_ ?sq24 ?gq24; (case Nq24 => k_asm); (case dq24 => k_extra "db"); (case kq24 => k_extra "dat"); (case uq24 => ktr_units); (case rq24 => with_reducible assumption); (case sq24 => with_unfolding_all rfl); (case gq24 => (intro _; with_unfolding_all rfl))); intro v' tk' dv'; k_dflt (obtain ⟨a', n', lv', t', e', hm', dl'⟩ := rvD_open dv'; subst e'))) | fail "no"
  k_with "obj" => first | (first | with_reducible assumption | (refine' dbObj_sub ?hsq25 ?hdq25; (case hdq25 => with_reducible assumption); (case hsq25 => k_extra "sub")) | (refine' ⟨_, _, _, _, ?m1q25, ?m2q25⟩; (case m1q25 => k_extra "mem"); (case m2q25 => k_extra "mem"))) | fail "no"
  k_with "call builtin:sorted" => first | ((k_here; (with_reducible show wpAny _ _ (call (Value.builtin "sorted") [Value.ref _]) _ _ _); k_dflt (refine' rows_sorted ?hhq26 ?Fq26 ?Nq26 ?dq26 ?_; (case hhq26 => rfl); (case Fq26 => k_asm); (case Nq26 => k_asm); (case dq26 => k_extra "db")); intro B' h' c' tk' vs' F' N' l1 dv')) | fail "no"
  k_with "eval ListComp" => first | ((k_here; k_dflt (refine' lc_eval ?Fq27 ?c1q27 ?c2q27 ?c3q27 ?c4q27 ?c5q27 ?_; (case Fq27 => k_asm); (case c1q27 => with_unfolding_all rfl); (case c2q27 => decide); (case c3q27 => rfl); (case c4q27 => decide); (case c5q27 => rfl)))) | fail "no"
  k_with "exec Assign cons ListComp" => first | ((k_here; k_dflt (refine' lc_assign ?Fq28 ?c0q28 ?cwq28 ?c1q28 ?c2q28 ?c3q28 ?c4q28 ?c5q28 ?c6q28 ?c7q28 ?_; (case Fq28 => k_asm); (case c0q28 => rfl); (case cwq28 => with_unfolding_all rfl); (case c1q28 => with_unfolding_all rfl); (case c2q28 => decide); (case c3q28 => rfl); (case c4q28 => decide); (case c5q28 => rfl); (case c6q28 => rfl); (case c7q28 => rfl)))) | fail "no"
  k_with "exec For Name Call cons nil" => first | ((k_here; (rename Fr _ _ _ _ => lF'); (with_unfolding_all refine' for_my lF' ?k1q29 ?k2q29 ?_; (case k1q29 => exact rfl); (case k2q29 => exact rfl); k_whole))) | fail "no"
  k_with "exec For Name Name cons nil" => first | ((k_here; (rename Fr _ _ _ _ => lF'); (with_unfolding_all refine' for_my lF' ?k1q30 ?k2q30 ?_; (case k1q30 => exact rfl); (case k2q30 => exact rfl); k_whole))) | fail "no"
  k_with "exec For Name Attribute cons nil" => first | ((k_here; (rename Fr _ _ _ _ => lF'); (with_unfolding_all refine' for_my lF' ?k1q31 ?k2q31 ?_; (case k1q31 => exact rfl); (case k2q31 => exact rfl); k_whole))) | fail "no"
  k_with "call builtin:list.append" => first | ((k_here; k_dflt (refine' append_my ?Fq32 ?Nq32 ?mq32 ?zq32 ?_; (case Fq32 => k_asm); (case Nq32 => k_asm); (case mq32 => k_extra "mem"); (case zq32 => assumption); k_whole; intro h' F' N'); (try dsimp only); (try k_fold))) | fail "no"
  trivial
def due? (router : Int) (l : Lsa) : Bool := decide (l.b = router ∧ 1800 ≤ l.age ∧ l.age < 3600)
/-- a list of the ledger has grown within a loop -/
abbrev grown (Df I : Addr) (ys : List Value) (all : Led) : Led := ((Df, lstO ys) :: all.filter fun p => decide (p.1 ≠ Df)).filter fun p => decide (p.1 ≠ I)
theorem grown_mem {Df I : Addr} {ys : List Value} {all : Led} {p : Addr × Obj} (h : p ∈ all) (h1 : p.1 ≠ Df) (h2 : p.1 ≠ I) : p ∈ grown Df I ys all :=
  List.mem_filter.mpr ⟨.tail _ (List.mem_filter.mpr ⟨h, by simpa using h1⟩), by simpa using h2⟩
theorem lst_tup {h₀ h : Heap} {L : Addr} {all : Led} {a : Addr} {o : Obj} {vs n} (N : News h₀ L h all) (k : (a, o) ∈ all) (hc : o.cls ≠ .type "tuple") {b : Addr} (hp : (b, tupO vs n) ∈ all) : b ≠ a := by
  rintro rfl
  have e := (N.get hp).symm.trans (N.get k)
  cases e
  exact hc rfl
theorem grown_tup {h₀ h : Heap} {L Df I : Addr} {oI oD : Obj} {ys : List Value} {all : Led} (N : News h₀ L h all) (kI : (I, oI) ∈ all) (kD : (Df, oD) ∈ all) (hI : oI.cls ≠ .type "tuple") (hD : oD.cls ≠ .type "tuple") :
    ∀ p ∈ all, (∃ vs n, p.2 = tupO vs n) → p ∈ grown Df I ys all := by
  rintro ⟨a, o⟩ hp ⟨vs, n, rfl⟩
  exact grown_mem hp (lst_tup N kD hD hp) (lst_tup N kI hI hp)
theorem rows_noLists : ∀ l : List Lsa, noList.noLists (l.map lsaD) = true
  | [] => rfl
  | _ :: r => rows_noLists r
theorem keys_noLists (f : Lsa → Key) : ∀ l : List Lsa, noList.noLists (l.map fun l => keyD (f l)) = true
  | [] => rfl
  | _ :: r => keys_noLists f r
theorem PureD.sub {news ns : Led} {D : Dat} {r : Value} (hs : ∀ p ∈ news, p ∈ ns) (h : DatIn ns r D) : PureD news D r (ns ++ news) := ⟨⟨ns, rfl⟩, DatIn.mono (fun p hp => List.mem_append_left _ hp) h⟩
theorem News.both {h₀ h : Heap} {L : Addr} {news ns : Led} (N : News h₀ L h ns) (hs : ∀ p ∈ news, p ∈ ns) : News h₀ L h (ns ++ news) := fun p hp => N p ((List.mem_append.mp hp).elim id (hs p))
theorem to_refresh_c (w : World) (news : Led) (x d : Addr) (D : List Rw) (router now : Int) (tr ts : Tok) (ho : DbObj news x d) (hdb : DbIs w news d D) :
   Ctr PR w (hd.heap_39 w.params) 129 8 900 [.ref x, .int router tr, .int now ts] news (PureD news (.list (((rowsAt D now).filter (due? router)).map fun l => keyD l.key))) := by
  unfold Ctr
  have ho' := ho
  obtain ⟨dx, hs, t, n, hx, hdx⟩ := ho'
  intros
  rename_i hret
  refine wpAny_call ?_
  walk_at "my enter"
  k_steps
  rename_i Df h1 hoff h2 NA
  revert lF' NA h' tk' F' tl' N' la' vs' n' hm' da' d'
  intro lF NA h3 tk3 F3 tl N3 la vs nn hla hDA hDI
  have hlen : vs.length = (rowsAt D now).length := by rw [datAll_len hDA, List.length_map]
  refine' over_list (σ := List Value) [] (fun _ => []) (fun i ys ns => (Df, lstO ys) ∈ ns ∧ (la, W.listOf vs.toArray nn) ∈ ns ∧ (∀ p ∈ news, p ∈ ns) ∧ DatAll ns vs ((rowsAt D now).map lsaD) ∧ DatAll ns ys ((((rowsAt D now).take i).filter (due? router)).map fun l => keyD l.key)) [] ?h1 ?h2 ?h3 ?h4 ?h5 ?h6 ?h7 ?turn ?done
  case h1 => exact rfl
  case h2 => k_asm
  case h3 => k_asm
  case h4 => exact hla
  case h5 => exact ⟨by walk_at "mem", hla, by walk_at "sub", hDA, .nil⟩
  case h6 => intro p hp; exact nomatch hp
  case h7 => exact fun i c ns h => h.2.1
  case turn =>
    rintro i v ys u ns h tk I oI hv ⟨kD, kl, ks, dA, dY⟩ hoffI hcI F' N'
    obtain ⟨dd, hdd, hDv⟩ := datAll_get i dA hv
    obtain ⟨l, hl, rfl⟩ : ∃ l, (rowsAt D now)[i]? = some l ∧ dd = lsaD l := by
      rw [List.getElem?_map] at hdd
      cases e : (rowsAt D now)[i]? with
      | none => rw [e] at hdd; cases hdd
      | some l => rw [e] at hdd; exact ⟨l, rfl, (Option.some.inj hdd).symm⟩
    have hi : i < vs.length := by
      rcases Nat.lt_or_ge i vs.length with h | h
      · exact h
      · rw [List.getElem?_eq_none h] at hv; cases hv
    have htake : (rowsAt D now).take (i + 1) = (rowsAt D now).take i ++ [l] := by rw [List.take_add_one, hl]; rfl
    have hyl : ys.length ≤ i := by
      rw [datAll_len dY, List.length_map]
      exact Nat.le_trans (List.length_filter_le _ _) (by rw [List.length_take]; exact Nat.min_le_left _ _)
    have hsz : ys.length ≤ sizeLine := Nat.le_trans hyl (Nat.le_trans (Nat.le_of_lt hi) (Nat.le_trans (hlen ▸ rowsAt_len) (by decide)))
    have hne : la ≠ Df := by
      rintro rfl
      have e := (N'.get (.tail _ kD)).symm.trans (N'.get (.tail _ kl))
      have e2 := congrArg (fun o : Option Obj => match o with | some ⟨_, _, .seq its _, _⟩ => its.size | _ => 0) e
      have : ys.length = vs.length := by simpa [W.listOf] using e2
      omega
    obtain ⟨a, n, hv', cv, rfl, hm', hH, hC'⟩ := lsaD_open hDv
    obtain ⟨a2, n2, t0, t1, t2, t3, t4, t5, t6, rfl, hm2⟩ := headD_open hH
    by_cases hA : l.b = router ∧ 1800 ≤ l.age ∧ l.age < 3600
    · have hb1 := hA.1
      have hb2 := hA.2.1
      have hb3 := hA.2.2
      k_steps
      all_goals first
        | (exfalso; omega)
        | (rename News _ _ _ (_ ++ (I, oI) :: ns) => NN
           rename Value => rv
           rename DatIn (_ ++ (I, oI) :: ns) _ (keyD l.key) => dk
           have sub : ∀ tl : Led, ∀ p ∈ ns, p ∈ tl ++ (I, oI) :: ns := fun tl p hp => List.mem_append_right _ (.tail _ hp)
           have iI : ∀ tl : Led, (I, oI) ∈ tl ++ (I, oI) :: ns := fun tl => List.mem_append_right _ (.head _)
           have neD : Df ≠ I := hoffI _ kD
           have gt := fun v : Value => grown_tup (ys := ys ++ [v]) NN (iI _) (sub _ _ kD) (by rw [hcI]; decide) (show ¬ Value.type "list" = Value.type "tuple" by decide)
           refine FEnd.mk (by k_asm) (by k_asm) (.tail _ (List.mem_filter.mpr ⟨iI _, by simpa using neD.symm⟩)) (ys ++ [rv]) ⟨?_, ?_, ?_, ?_, ?_⟩ (fun p hp => nomatch hp) (fun z hz _ _ => if_neg hz)
           · exact List.mem_filter.mpr ⟨.head _, by simpa using neD⟩
           · exact grown_mem (sub _ _ kl) hne (hoffI _ kl)
           · exact fun p hp => grown_mem (sub _ _ (ks p hp)) (Nat.ne_of_lt (hoff p hp)) (hoffI _ (ks p hp))
           · exact DatAll.upO (gt _) (rows_noLists _) (datAll_mono (sub _) dA)
           · rw [show ((rowsAt D now).take (i + 1)).filter (due? router) = ((rowsAt D now).take i).filter (due? router) ++ [l] by rw [htake, List.filter_append]; simp [due?, hA], List.map_append]
             exact datAll_snoc (DatAll.upO (gt _) (keys_noLists _ _) (datAll_mono (sub _) dY)) (DatIn.upO (gt _) rfl dk))
    · k_steps
      all_goals first
        | (exfalso; omega)
        | (refine FEnd.mk (by k_asm) (by k_asm) (.head _) ys ?_ (fun p hp => nomatch hp) (fun z hz _ _ => if_neg hz)
           rw [show ((I, oI) :: ns).filter (fun p => decide (p.1 ≠ I)) = ns from off_suf1 (tl := []) hoffI]
           refine ⟨kD, kl, ks, dA, ?_⟩
           rw [show ((rowsAt D now).take (i + 1)).filter (due? router) = ((rowsAt D now).take i).filter (due? router) by rw [htake, List.filter_append]; simp [due?, hA]]
           exact dY)
  case done =>
    rintro ys u ns h tk ⟨kD, kl, ks, dA, dY⟩ F' N'
    rw [hlen, List.take_length] at dY
    have NB := News.both N' ks
    k_steps
    exact hret _ _ _ _ (by k_asm) (by assumption) (PureD.sub ks (.list kD dY))
end
section
example : True := by
  k_with_none
  trivial
def optI : Option Int → Dat
  | none => .none
  | some i => .int i
def lim (router : Int) (l : Lsa) : Int := if l.b = router ∧ l.age < 1800 then 1800 else 3600
def step (router : Int) (best : Option Int) (r : Rw) : Option Int :=
  if r.1.age < lim router r.1 ∧ (∀ b, best = some b → r.2 + lim router r.1 - r.1.age < b) then some (r.2 + lim router r.1 - r.1.age) else best
def nextT (router : Int) (rows : List Rw) : Option Int := rows.foldl (step router) none
theorem nextT_snoc (router : Int) (rows : List Rw) (r : Rw) : nextT router (rows ++ [r]) = step router (nextT router rows) r := by simp [nextT]
def nowRows (D : List Rw) (now : Int) : List Rw := D.map fun r => (r.1.aged (now - r.2), now)
theorem step_none {router : Int} {r : Rw} : step router none r = if r.1.age < lim router r.1 then some (r.2 + lim router r.1 - r.1.age) else none := by
  unfold step
  by_cases h : r.1.age < lim router r.1
  · rw [if_pos h, if_pos ⟨h, fun b e => nomatch e⟩]
  · rw [if_neg h, if_neg fun x => h x.1]
theorem step_some {router b : Int} {r : Rw} : step router (some b) r = if r.1.age < lim router r.1 ∧ r.2 + lim router r.1 - r.1.age < b then some (r.2 + lim router r.1 - r.1.age) else some b := by
  unfold step
  by_cases h : r.1.age < lim router r.1 ∧ r.2 + lim router r.1 - r.1.age < b
  · rw [if_pos h, if_pos ⟨h.1, fun b e => Option.some.inj e ▸ h.2⟩]
  · rw [if_neg h, if_neg fun x => h ⟨x.1, x.2 b rfl⟩]
theorem take_snoc {α : Type} {l : List α} {i : Nat} {r : α} (h : l[i]? = some r) : l.take (i + 1) = l.take i ++ [r] := by rw [List.take_add_one, h]; rfl
theorem nowRows_get {D : List Rw} {now : Int} {i : Nat} {r : Rw} (h : D[i]? = some r) : (nowRows D now)[i]? = some (r.1.aged (now - r.2), now) := by simp [nowRows, h]
end
section
section
variable {w : World} {A : Around} {E : Value → Shared → Prop} {s : Shared} {h₀ : Heap} {L : Addr} {m : Str → Option Value} {news : Led} {d : Addr} {D : List Rw} {k : Key}
theorem rows_set2 {kv v : Value} {l : Lsa} {i : Int} {Q : Unit → Shared → Prop} (F : Fr h₀ L s.heap m) (N : News h₀ L s.heap news) (hdb : DbIs w news d D) (hv : DatIn news v (.tuple [lsaD l, .int i])) (hk : DatIn news kv (keyD k)) (hkk : l.key = k) (hr : k ∈ allKeys) (hu : A.units + 64 < cLine)
    (h : ∀ h' news' tk, Fr h₀ L h' m → News h₀ L h' news' → Ext [] [d] news news' → DbIs w news' d (putRow D (l, i)) → Q () { s with heap := h', toks := tk }) :
    wpAny (model PR w) A (setItem (.ref d) kv v) Q E s := by
  subst hkk
  obtain ⟨ka, rfl⟩ := tup_ref hk
  exact rows_set (r := (l, i)) F N hdb hk hv hr hu h
theorem rows_pop_meth {pl : Sem Bool} {Q : Value × List Value → Shared → Prop} (N : News h₀ L s.heap news) (hdb : DbIs w news d D) (h : Q (.builtin "dict.pop", [.ref d]) s) : wpAny (model PR w) A (getMethod (.ref d) "pop" pl) Q E s := by
  obtain ⟨xs, n, hm, hx, hn, ha, lo⟩ := hdb
  have H := dictOfH N hm hx hn
  exact getMethod_builtin H.typeIs PySem.F.plainAttrs_dict PySem.F.slot_dict_pop (by rfl) (dictOfH_noDict H) h
end
end
section
example : True := by
  k_with_none
  k_with "my enter" => first | (k_dflt (first | (refine' code_def ?k1q0 ?k2q0 ?k3q0 ?k4q0 ?k5q0 ?kAq0 ?kFq0 ?kKq0 ?k6q0 ?k7q0 ?k8q0 ?k9q0 ?kBq0 ?_ ?c2q0 ?c3q0 ?c4q0 ?c5q0; (case kAq0 => exact rfl); (case kFq0 => exact rfl); (case kKq0 => assumption); (case k1q0 => k_asm); (case k2q0 => k_asm); (case k3q0 => k_asm); (case k4q0 => k_asm); (case k5q0 => k_asm); (case k6q0 => k_is); (case k7q0 => k_is); (case k8q0 => ktr_room); (case k9q0 => first | exact BindsTo.of_eq rfl | exact binds_K (by k_in) rfl (by k_is) rfl rfl rfl); (case c5q0 => decide); (case kBq0 => exact locs rfl); (case c2q0 => exact rfl); (case c3q0 => exact rfl); (case c4q0 => exact rfl); k_whole; intro g' L' h' FG' F' N' B' X' T'; (try dsimp only); (try k_lift B'); (try k_fold)) | (refine' code_defC ?k1q0 ?k2q0 ?k3q0 ?k4q0 ?k5q0 ?kAq0 ?kFq0 ?kKq0 ?k6q0 ?k7q0 ?k8q0 ?k9q0 ?kBq0 ?kDq0 ?_ ?c2q0 ?c3q0 ?c4q0; (case kAq0 => exact rfl); (case kFq0 => exact rfl); (case kKq0 => assumption); (case k1q0 => k_asm); (case k2q0 => k_asm); (case k3q0 => k_asm); (case k4q0 => k_asm); (case k5q0 => k_asm); (case k6q0 => k_is); (case k7q0 => k_is); (case k8q0 => ktr_room); (case k9q0 => first | exact BindsTo.of_eq rfl | exact binds_K (by k_in) rfl (by k_is) rfl rfl rfl); (case kBq0 => exact rfl); (case kDq0 => decide +kernel); (case c2q0 => exact rfl); (case c3q0 => exact rfl); (case c4q0 => exact rfl); k_whole; intro g' L' h' tk' cells' FG' F' N' Y' B' X' T' l1; (try k_lt l1); k_cells Y'; (try simp only [List.cons_append, List.nil_append] at N'); (try dsimp only); (try k_lift B'); (try k_fold)))) | fail "no"
  k_with "mem" => first | (first | with_reducible assumption | exact List.Mem.head _ | ((with_reducible refine List.mem_cons_of_mem _ ?_); k_extra "mem") | ((with_reducible refine List.mem_append_right _ ?_); k_extra "mem") | k_extra "memx") | fail "no"
  k_with "sub" => first | (first | with_reducible exact fun _ h => h | ((with_reducible refine fun p h => List.mem_cons_of_mem _ ?_); revert p h; k_extra "sub") | ((with_reducible refine fun p h => List.mem_append_right _ ?_); revert p h; k_extra "sub") | with_reducible assumption) | fail "no"
  k_with "suf" => first | (first | with_reducible exact List.suffix_refl _ | ((with_reducible refine List.IsSuffix.trans ?_ (List.suffix_cons _ _)); k_extra "suf") | ((with_reducible refine List.IsSuffix.trans ?_ (List.suffix_append _ _)); k_extra "suf")) | fail "no"
  k_with "inteq" => first | (first | rfl | omega | (split <;> omega) | ((simp only [Lsa.aged]); (first | rfl | omega | (split <;> omega)))) | fail "no"
  k_with "dat" => first | (first | exact DatIn.none | exact DatIn.bool _ | with_reducible assumption | (refine dat_int ?_; k_extra "inteq") | exact DatIn.str _ _ | (refine' DatIn.mono ?hsq5 ?hdq5; (case hdq5 => with_reducible assumption); (case hsq5 => k_extra "sub")) | (refine' DatIn.tuple ?hmq5 ?hdq5; (case hmq5 => k_extra "mem"); (case hdq5 => k_extra "datall")) | (refine' DatIn.list ?hmq5 ?hdq5; (case hmq5 => k_extra "mem"); (case hdq5 => k_extra "datall")) | (refine' DatIn.mono ?hsq5 ?hdq5; (case hdq5 => assumption); (case hsq5 => k_extra "sub"))) | fail "no"
  k_with "datall" => first | (first | exact DatAll.nil | (refine' DatAll.cons ?_ ?_; (next => k_extra "dat"); (next => k_extra "datall")) | (refine' datAll_mono ?hsq6 ?hdq6; (case hdq6 => with_reducible assumption); (case hsq6 => k_extra "sub")) | k_extra "datallx") | fail "no"
  k_with "room" => first | (((try simp only [depth_under_make, depth_under_kw, depth_in1, depth_deeper, depth_caller]); (try dsimp only); first | omega | ktr_room)) | fail "no"
  k_with "units" => first | (((try simp only [units_in1, units_deeper, Around.mark_units, units_caller]); (try dsimp only); first | omega | ktr_units)) | fail "no"
  k_with "subscriptTail Name Slice ref ref" => first | ((k_here; k_dflt (refine' tup_from1 ?Fq9 ?Nq9 ?lq9 ?_ ?sq9 ?tq9 ?zq9; (case Fq9 => k_asm); (case Nq9 => k_asm); (case lq9 => k_extra "mem"); (case sq9 => with_unfolding_all rfl); (case tq9 => (intro _; with_unfolding_all rfl)); (case zq9 => exact Nat.le_of_ble_eq_true rfl)); intro D' h' F' N' l1; (try k_sweep))) | fail "no"
  k_with "binaryOp Add ref ref" => first | ((k_here; k_dflt (refine' tup_add ?Fq10 ?Nq10 ?lq10 ?rq10 ?_ ?zq10; (case Fq10 => k_asm); (case Nq10 => k_asm); (case lq10 => k_extra "mem"); (case rq10 => k_extra "mem"); (case zq10 => exact Nat.le_of_ble_eq_true rfl)); intro D' h' F' N' l1; (try dsimp only [List.cons_append, List.nil_append] at N'); (try k_sweep))) | fail "no"
  k_with "kok" => first | (first | exact ok_cont _ _ | exact ok_head _ _ | exact ok_key _ _ | exact ok_lsa _ _) | fail "no"
  k_with "compareOp NotEq ref" => first | ((k_here; k_dflt (refine' dat_cmp_ne ?Nq12 ?aq12 ?bq12 ?kaq12 ?kbq12 ?huq12 ?_; (case Nq12 => k_asm); (case aq12 => k_extra "dat"); (case bq12 => k_extra "dat"); (case kaq12 => k_extra "kok"); (case kbq12 => k_extra "kok"); (case huq12 => ktr_units)))) | fail "no"
  k_with "ctr ends" => first | (( (case Bq13 => k_asm); (case Fq13 => k_asm); (case Xq13 => k_asm); (case Nq13 => k_asm); (case Tq13 => k_asm); (case hkq13 => first | exact rfl | assumption); (case hdq13 => ktr_room); (case huq13 => ktr_units))) | fail "no"
  k_with "call ref" => first | ((k_here; k_dflt (refine' Ctr.use (aged_head_c _ _ _ _ _ _ ?hDq14) ?Bq14 ?Fq14 ?Xq14 ?Nq14 ?Tq14 ?hkq14 ?hdq14 ?huq14 ?_; (case Bq14 => k_asm); (case Fq14 => k_asm); (case Xq14 => k_asm); (case Nq14 => k_asm); (case Tq14 => k_asm); (case hDq14 => k_extra "dat"); (case hkq14 => first | exact rfl | assumption); (case hdq14 => k_extra "room"); (case huq14 => k_extra "units"); k_whole; intro r' news' h' tk' F' N' P'; obtain ⟨⟨tl', e'⟩, d'⟩ := P'; subst e'); (try dsimp only); (try k_fold))) | fail "no"
  k_with "call ref" => first | ((k_here; k_dflt (refine' Ctr.use (key_of_c _ _ _ _ ?hDq15) ?Bq15 ?Fq15 ?Xq15 ?Nq15 ?Tq15 ?hkq15 ?hdq15 ?huq15 ?_; (case Bq15 => k_asm); (case Fq15 => k_asm); (case Xq15 => k_asm); (case Nq15 => k_asm); (case Tq15 => k_asm); (case hDq15 => k_extra "dat"); (case hkq15 => first | exact rfl | assumption); (case hdq15 => k_extra "room"); (case huq15 => k_extra "units"); k_whole; intro r' news' h' tk' F' N' P'; obtain ⟨⟨tl', e'⟩, d'⟩ := P'; subst e'); (try dsimp only); (try k_fold))) | fail "no"
  k_with "call ref" => first | ((k_here; k_dflt (refine' Ctr.use (aged_c _ _ _ _ _ _ ?hDq16) ?Bq16 ?Fq16 ?Xq16 ?Nq16 ?Tq16 ?hkq16 ?hdq16 ?huq16 ?_; (case Bq16 => k_asm); (case Fq16 => k_asm); (case Xq16 => k_asm); (case Nq16 => k_asm); (case Tq16 => k_asm); (case hDq16 => k_extra "dat"); (case hkq16 => first | exact rfl | assumption); (case hdq16 => k_extra "room"); (case huq16 => k_extra "units"); k_whole; intro r' news' h' tk' F' N' P'; obtain ⟨⟨tl', e'⟩, d'⟩ := P'; subst e'); (try dsimp only); (try k_fold))) | fail "no"
  k_with "call ref" => first | ((k_here; k_dflt (refine' Ctr.use (newer_of_c _ _ _ _ _ _ ?hDq17 ?hEq17) ?Bq17 ?Fq17 ?Xq17 ?Nq17 ?Tq17 ?hkq17 ?hdq17 ?huq17 ?_; (case Bq17 => k_asm); (case Fq17 => k_asm); (case Xq17 => k_asm); (case Nq17 => k_asm); (case Tq17 => k_asm); (case hDq17 => k_extra "dat"); (case hEq17 => k_extra "dat"); (case hkq17 => first | exact rfl | assumption); (case hdq17 => k_extra "room"); (case huq17 => k_extra "units"); k_whole; intro r' news' h' tk' F' N' P'; obtain ⟨⟨tl', e'⟩, d'⟩ := P'; subst e'; cases d'); (try dsimp only); (try k_fold))) | fail "no"
  k_with "call ref" => first | ((k_here; k_dflt (refine' Ctr.use (is_changed_c _ _ _ _ _ _ ?hDq18 ?hEq18) ?Bq18 ?Fq18 ?Xq18 ?Nq18 ?Tq18 ?hkq18 ?hdq18 ?huq18 ?_; (case Bq18 => k_asm); (case Fq18 => k_asm); (case Xq18 => k_asm); (case Nq18 => k_asm); (case Tq18 => k_asm); (case hDq18 => k_extra "dat"); (case hEq18 => k_extra "dat"); (case hkq18 => first | exact rfl | assumption); (case hdq18 => k_extra "room"); (case huq18 => k_extra "units"); k_whole; intro r' news' h' tk' F' N' P'; obtain ⟨⟨tl', e'⟩, d'⟩ := P'; subst e'; cases d'); (try dsimp only); (try k_fold))) | fail "no"
  k_with "call ref" => first | ((k_here; k_dflt (refine' Ctr.use (look_c _ _ _ _ _ _ _ _ _ ?hoq19 ?hdbq19 ?hk0q19) ?Bq19 ?Fq19 ?Xq19 ?Nq19 ?Tq19 ?hkq19 ?hdq19 ?huq19 ?_; (case Bq19 => k_asm); (case Fq19 => k_asm); (case Xq19 => k_asm); (case Nq19 => k_asm); (case Tq19 => k_asm); (case hk0q19 => k_extra "dat"); (case hoq19 => k_extra "obj"); (case hdbq19 => k_extra "db"); (case hkq19 => first | exact rfl | assumption); (case hdq19 => k_extra "room"); (case huq19 => k_extra "units"); k_whole; intro r' news' h' tk' F' N' P'; obtain ⟨⟨tl', e'⟩, d'⟩ := P'; subst e'); (try dsimp only); (try k_fold))) | fail "no"
  k_with "call ref" => first | ((k_here; k_dflt (refine' Ctr.use (keys_c _ _ _ _ _ ?hoq20 ?hdbq20) ?Bq20 ?Fq20 ?Xq20 ?Nq20 ?Tq20 ?hkq20 ?hdq20 ?huq20 ?_; (case Bq20 => k_asm); (case Fq20 => k_asm); (case Xq20 => k_asm); (case Nq20 => k_asm); (case Tq20 => k_asm); (case hoq20 => k_extra "obj"); (case hdbq20 => k_extra "db"); (case hkq20 => first | exact rfl | assumption); (case hdq20 => k_extra "room"); (case huq20 => k_extra "units"); k_whole; intro r' news' h' tk' F' N' P'; obtain ⟨⟨tl', e'⟩, d'⟩ := P'; subst e'; obtain ⟨la', vs', n', e', hm', da'⟩ := listD_open d'; subst e'); (try dsimp only); (try k_fold))) | fail "no"
  k_with "call ref" => first | ((k_here; k_dflt (refine' Ctr.use (rows_c _ _ _ _ _ _ _ ?hoq21 ?hdbq21) ?Bq21 ?Fq21 ?Xq21 ?Nq21 ?Tq21 ?hkq21 ?hdq21 ?huq21 ?_; (case Bq21 => k_asm); (case Fq21 => k_asm); (case Xq21 => k_asm); (case Nq21 => k_asm); (case Tq21 => k_asm); (case hoq21 => k_extra "obj"); (case hdbq21 => k_extra "db"); (case hkq21 => first | exact rfl | assumption); (case hdq21 => k_extra "room"); (case huq21 => k_extra "units"); k_whole; intro r' news' h' tk' F' N' P'; obtain ⟨⟨tl', e'⟩, d'⟩ := P'; subst e'; obtain ⟨la', vs', n', e', hm', da'⟩ := listD_open d'; subst e'); (try dsimp only); (try k_fold))) | fail "no"
  k_with "db" => first | (first | with_reducible assumption | (refine' DbIs.sub ?hsq22 ?hdq22; (case hdq22 => with_reducible assumption); (case hsq22 => k_extra "sub"))) | fail "no"
  k_with "compareOp NotIn" => first | ((k_here; (with_reducible show wpAny _ _ (compareOp CmpOp.NotIn (Value.ref _) (Value.ref _)) _ _ _); k_dflt (first | (refine' rows_notIn_some ?Nq23 ?dq23 ?kq23 ?uq23 ?bq23 ?_; (case Nq23 => k_asm); (case dq23 => k_extra "db"); (case kq23 => k_extra "dat"); (case uq23 => ktr_units); (case bq23 => with_reducible assumption)) | (refine' rows_notIn_none ?Nq23 ?dq23 ?kq23 ?uq23 ?bq23 ?_; (case Nq23 => k_asm); (case dq23 => k_extra "db"); (case kq23 => k_extra "dat"); (case uq23 => ktr_units); (case bq23 => with_reducible assumption))); intro tk')) | fail "no"
  k_with "subscriptTail" => first | ((k_here; (with_reducible show wpAny _ _ (subscriptTail _ _ (Value.ref _) (Value.ref _)) _ _ _); k_dflt (refine' rows_item ?Nq24 ?dq24 ?kq24 ?uq24 ?rq24 ?_ ?sq24 ?gq24; (case Nq24 => k_asm); (case dq24 => k_extra "db"); (case kq24 => k_extra "dat"); (case uq24 => ktr_units); (case rq24 => with_reducible assumption); (case sq24 => with_unfolding_all rfl); (case gq24 => (intro _; with_unfolding_all rfl))); intro v' tk' dv'; k_dflt (obtain ⟨a', n', lv', t', e', hm', dl'⟩ := rvD_open dv'; subst e'))) | fail "no"
  k_with "obj" => first | (first | with_reducible assumption | (refine' dbObj_sub ?hsq25 ?hdq25; (case hdq25 => with_reducible assumption); (case hsq25 => k_extra "sub")) | (refine' ⟨_, _, _, _, ?m1q25, ?m2q25⟩; (case m1q25 => k_extra "mem"); (case m2q25 => k_extra "mem"))) | fail "no"
  k_with "call builtin:sorted" => first | ((k_here; (with_reducible show wpAny _ _ (call (Value.builtin "sorted") [Value.ref _]) _ _ _); k_dflt (refine' rows_sorted ?hhq26 ?Fq26 ?Nq26 ?dq26 ?_; (case hhq26 => rfl); (case Fq26 => k_asm); (case Nq26 => k_asm); (case dq26 => k_extra "db")); intro B' h' c' tk' vs' F' N' l1 dv')) | fail "no"
  k_with "eval ListComp" => first | ((k_here; k_dflt (refine' lc_eval ?Fq27 ?c1q27 ?c2q27 ?c3q27 ?c4q27 ?c5q27 ?_; (case Fq27 => k_asm); (case c1q27 => with_unfolding_all rfl); (case c2q27 => decide); (case c3q27 => rfl); (case c4q27 => decide); (case c5q27 => rfl)))) | fail "no"
  k_with "exec Assign cons ListComp" => first | ((k_here; k_dflt (refine' lc_assign ?Fq28 ?c0q28 ?cwq28 ?c1q28 ?c2q28 ?c3q28 ?c4q28 ?c5q28 ?c6q28 ?c7q28 ?_; (case Fq28 => k_asm); (case c0q28 => rfl); (case cwq28 => with_unfolding_all rfl); (case c1q28 => with_unfolding_all rfl); (case c2q28 => decide); (case c3q28 => rfl); (case c4q28 => decide); (case c5q28 => rfl); (case c6q28 => rfl); (case c7q28 => rfl)))) | fail "no"
  k_with "exec For Name Call cons nil" => first | ((k_here; (rename Fr _ _ _ _ => lF'); (with_unfolding_all refine' for_my lF' ?k1q29 ?k2q29 ?_; (case k1q29 => exact rfl); (case k2q29 => exact rfl); k_whole))) | fail "no"
  k_with "exec For Name Name cons nil" => first | ((k_here; (rename Fr _ _ _ _ => lF'); (with_unfolding_all refine' for_my lF' ?k1q30 ?k2q30 ?_; (case k1q30 => exact rfl); (case k2q30 => exact rfl); k_whole))) | fail "no"
  k_with "exec For Name Attribute cons nil" => first | ((k_here; (rename Fr _ _ _ _ => lF'); (with_unfolding_all refine' for_my lF' ?k1q31 ?k2q31 ?_; (case k1q31 => exact rfl); (case k2q31 => exact rfl); k_whole))) | fail "no"
  k_with "call builtin:list.append" => first | ((k_here; k_dflt (refine' append_my ?Fq32 ?Nq32 ?mq32 ?zq32 ?_; (case Fq32 => k_asm); (case Nq32 => k_asm); (case mq32 => k_extra "mem"); (case zq32 => assumption); k_whole; intro h' F' N'); (try dsimp only); (try k_fold))) | fail "no"
  k_with "datp" => first | (first | with_reducible assumption | ((with_reducible refine' DatIn.mono (fun p hp => List.mem_cons_of_mem _ hp) ?peq33); (case peq33 => k_extra "datp")) | ((with_reducible refine' DatIn.mono (fun p hp => List.mem_append_right _ hp) ?peq33); (case peq33 => k_extra "datp")) | (refine' Ext.dat ?eq33 ?hq33 ?nq33; (case eq33 => with_reducible assumption); (case hq33 => k_extra "datp"); (case nq33 => first | exact optD_noList _ | rfl))) | fail "no"
  k_with "dat" => first | (first | with_reducible exact DatIn.int _ _ | k_extra "datp" | (refine' DatIn.tuple ?hmq34 ?hdq34; (case hmq34 => k_extra "mem"); (case hdq34 => k_extra "datall"))) | fail "no"
  k_with "dbp" => first | (first | with_reducible assumption | ((with_reducible refine' DbIs.sub (fun p hp => List.mem_cons_of_mem _ hp) ?peq35); (case peq35 => k_extra "dbp")) | ((with_reducible refine' DbIs.sub (fun p hp => List.mem_append_right _ hp) ?peq35); (case peq35 => k_extra "dbp")) | (refine' Ext.other ?eq35 _ _ _ ?nq35 ?hq35; (case eq35 => with_reducible assumption); (case hq35 => k_extra "dbp"); (case nq35 => first | assumption | simp; done | (simp; assumption)))) | fail "no"
  k_with "db" => first | (k_extra "dbp") | fail "no"
  k_with "objp" => first | (first | with_reducible assumption | ((with_reducible refine' dbObj_sub (fun p hp => List.mem_cons_of_mem _ hp) ?peq37); (case peq37 => k_extra "objp")) | ((with_reducible refine' dbObj_sub (fun p hp => List.mem_append_right _ hp) ?peq37); (case peq37 => k_extra "objp")) | (refine' Ext.obj ?eq37 _ _ ?hq37; (case eq37 => with_reducible assumption); (case hq37 => k_extra "objp"))) | fail "no"
  k_with "obj" => first | (k_extra "objp") | fail "no"
  k_with "kin" => first | (first | assumption | (show Lsa.key _ ∈ _; assumption)) | fail "no"
  k_with "kkk" => first | (first | rfl | assumption) | fail "no"
  k_with "setItem ref" => first | ((k_here; (with_reducible show wpAny _ _ (setItem (Value.ref _) _ _) _ _ _); k_dflt (refine' rows_set2 ?Fq41 ?Nq41 ?dbq41 ?hvq41 ?hkq41 ?hkkq41 ?hrq41 ?huq41 ?_; (case Fq41 => k_asm); (case Nq41 => k_asm); (case dbq41 => k_extra "db"); (case hvq41 => k_extra "dat"); (case hkq41 => k_extra "dat"); (case hkkq41 => k_extra "kkk"); (case hrq41 => k_extra "kin"); (case huq41 => k_extra "units"); intro h' news' tk' F' N' e' db'); (try dsimp only); (try k_fold))) | fail "no"
  k_with "getMethod ref" => first | ((k_here; k_dflt (refine' rows_pop_meth ?Nq42 ?dbq42 ?_; (case Nq42 => k_asm); (case dbq42 => k_extra "db")))) | fail "no"
  k_with "call builtin:dict.pop" => first | ((k_here; k_dflt (first | (refine' rows_pop_some ?Fq43 ?Nq43 ?dbq43 ?hkq43 ?hrq43 ?huq43 ?_; (case Fq43 => k_asm); (case Nq43 => k_asm); (case dbq43 => k_extra "db"); (case hkq43 => k_extra "dat"); (case hrq43 => with_reducible assumption); (case huq43 => k_extra "units"); intro x' h' news' tk' F' N' e' db' dx'; obtain ⟨ax', ex'⟩ := tup_ref dx'; subst ex') | (refine' rows_pop_none ?Nq43 ?dbq43 ?hkq43 ?hrq43 ?huq43 ?_; (case Nq43 => k_asm); (case dbq43 => k_extra "db"); (case hkq43 => k_extra "dat"); (case hrq43 => with_reducible assumption); (case huq43 => k_extra "units"); intro tk')); (try dsimp only); (try k_fold))) | fail "no"
  trivial
theorem Ext.mid {P W : List Addr} {a b c d : Led} (e : Ext P W b c) (s1 : ∀ p ∈ a, p ∈ b) (s2 : ∀ p ∈ c, p ∈ d) : Ext P W a d :=
  Ext.trans (Ext.weak (Ext.of_sub s1) (fun _ h => nomatch h) fun _ h => nomatch h) (Ext.trans e (Ext.weak (Ext.of_sub s2) (fun _ h => nomatch h) fun _ h => nomatch h))
/-- what a call that turns the rows at d leaves -/
structure MutD (w : World) (news : Led) (d : Addr) (D' : List Rw) (rd : Dat) (r : Value) (news' : Led) : Prop where
  ext : Ext [] [d] news news'
  db : DbIs w news' d D'
  res : DatIn news' r rd
theorem Ext.sub0 {W : List Addr} {a b : Led} (h : ∀ p ∈ a, p ∈ b) : Ext [] W a b := Ext.weak (Ext.of_sub h) (fun _ h => h) fun _ h => nomatch h
theorem dropRow_none {D : List Rw} {k : Key} (h : rowAt D k = none) : dropRow D k = D := by
  unfold dropRow
  refine List.filter_eq_self.mpr fun r hr => ?_
  have := List.find?_eq_none.mp h r hr
  simpa using this
theorem drop_some_c (w : World) (news : Led) (x d : Addr) (kv : Value) (k : Key) (D : List Rw) (r : Rw) (ho : DbObj news x d) (hdb : DbIs w news d D) (hk : DatIn news kv (keyD k)) (hr : rowAt D k = some r) :
   Ctr PR w (hd.heap_39 w.params) 100 4 300 [.ref x, kv] news (MutD w news d (dropRow D k) (.bool true)) := by
  unfold Ctr
  have ho' := ho
  obtain ⟨dx, hs, t, n, hx, hdx⟩ := ho'
  obtain ⟨ka, rfl⟩ := tup_ref hk
  intros
  rename_i hret
  refine wpAny_call ?_
  walk_at "my enter"
  k_steps
  exact hret _ _ _ _ (by k_asm) (by k_asm) ⟨Ext.mid (by assumption) (by walk_at "sub") (by walk_at "sub"), by walk_at "db", .bool _⟩
theorem drop_none_c (w : World) (news : Led) (x d : Addr) (kv : Value) (k : Key) (D : List Rw) (ho : DbObj news x d) (hdb : DbIs w news d D) (hk : DatIn news kv (keyD k)) (hr : rowAt D k = none) :
   Ctr PR w (hd.heap_39 w.params) 100 4 300 [.ref x, kv] news (MutD w news d (dropRow D k) (.bool false)) := by
  unfold Ctr
  have ho' := ho
  obtain ⟨dx, hs, t, n, hx, hdx⟩ := ho'
  obtain ⟨ka, rfl⟩ := tup_ref hk
  intros
  rename_i hret
  refine wpAny_call ?_
  walk_at "my enter"
  k_steps
  rw [dropRow_none hr] at hret
  exact hret _ _ _ _ (by k_asm) (by k_asm) ⟨Ext.sub0 (by walk_at "sub"), by walk_at "db", .bool _⟩
theorem drop_c (w : World) (news : Led) (x d : Addr) (kv : Value) (k : Key) (D : List Rw) (ho : DbObj news x d) (hdb : DbIs w news d D) (hk : DatIn news kv (keyD k)) :
   Ctr PR w (hd.heap_39 w.params) 100 4 300 [.ref x, kv] news (MutD w news d (dropRow D k) (.bool (rowAt D k).isSome)) := by
  cases hr : rowAt D k with
  | none => exact drop_none_c w news x d kv k D ho hdb hk hr
  | some r => exact drop_some_c w news x d kv k D r ho hdb hk hr
end
section
example : True := by
  k_with_none
  k_with "my enter" => first | (k_dflt (first | (refine' code_def ?k1q0 ?k2q0 ?k3q0 ?k4q0 ?k5q0 ?kAq0 ?kFq0 ?kKq0 ?k6q0 ?k7q0 ?k8q0 ?k9q0 ?kBq0 ?_ ?c2q0 ?c3q0 ?c4q0 ?c5q0; (case kAq0 => exact rfl); (case kFq0 => exact rfl); (case kKq0 => assumption); (case k1q0 => k_asm); (case k2q0 => k_asm); (case k3q0 => k_asm); (case k4q0 => k_asm); (case k5q0 => k_asm); (case k6q0 => k_is); (case k7q0 => k_is); (case k8q0 => ktr_room); (case k9q0 => first | exact BindsTo.of_eq rfl | exact binds_K (by k_in) rfl (by k_is) rfl rfl rfl); (case c5q0 => decide); (case kBq0 => exact locs rfl); (case c2q0 => exact rfl); (case c3q0 => exact rfl); (case c4q0 => exact rfl); k_whole; intro g' L' h' FG' F' N' B' X' T'; (try dsimp only); (try k_lift B'); (try k_fold)) | (refine' code_defC ?k1q0 ?k2q0 ?k3q0 ?k4q0 ?k5q0 ?kAq0 ?kFq0 ?kKq0 ?k6q0 ?k7q0 ?k8q0 ?k9q0 ?kBq0 ?kDq0 ?_ ?c2q0 ?c3q0 ?c4q0; (case kAq0 => exact rfl); (case kFq0 => exact rfl); (case kKq0 => assumption); (case k1q0 => k_asm); (case k2q0 => k_asm); (case k3q0 => k_asm); (case k4q0 => k_asm); (case k5q0 => k_asm); (case k6q0 => k_is); (case k7q0 => k_is); (case k8q0 => ktr_room); (case k9q0 => first | exact BindsTo.of_eq rfl | exact binds_K (by k_in) rfl (by k_is) rfl rfl rfl); (case kBq0 => exact rfl); (case kDq0 => decide +kernel); (case c2q0 => exact rfl); (case c3q0 => exact rfl); (case c4q0 => exact rfl); k_whole; intro g' L' h' tk' cells' FG' F' N' Y' B' X' T' l1; (try k_lt l1); k_cells Y'; (try simp only [List.cons_append, List.nil_append] at N'); (try dsimp only); (try k_lift B'); (try k_fold)))) | fail "no"
  k_with "mem" => first | (first | with_reducible assumption | exact List.Mem.head _ | ((with_reducible refine List.mem_cons_of_mem _ ?_); k_extra "mem") | ((with_reducible refine List.mem_append_right _ ?_); k_extra "mem") | k_extra "memx") | fail "no"
  k_with "sub" => first | (first | with_reducible exact fun _ h => h | ((with_reducible refine fun p h => List.mem_cons_of_mem _ ?_); revert p h; k_extra "sub") | ((with_reducible refine fun p h => List.mem_append_right _ ?_); revert p h; k_extra "sub") | with_reducible assumption) | fail "no"
  k_with "suf" => first | (first | with_reducible exact List.suffix_refl _ | ((with_reducible refine List.IsSuffix.trans ?_ (List.suffix_cons _ _)); k_extra "suf") | ((with_reducible refine List.IsSuffix.trans ?_ (List.suffix_append _ _)); k_extra "suf")) | fail "no"
  k_with "inteq" => first | (first | rfl | omega | (split <;> omega) | ((simp only [Lsa.aged]); (first | rfl | omega | (split <;> omega)))) | fail "no"
  k_with "dat" => first | (first | exact DatIn.none | exact DatIn.bool _ | with_reducible assumption | (refine dat_int ?_; k_extra "inteq") | exact DatIn.str _ _ | (refine' DatIn.mono ?hsq5 ?hdq5; (case hdq5 => with_reducible assumption); (case hsq5 => k_extra "sub")) | (refine' DatIn.tuple ?hmq5 ?hdq5; (case hmq5 => k_extra "mem"); (case hdq5 => k_extra "datall")) | (refine' DatIn.list ?hmq5 ?hdq5; (case hmq5 => k_extra "mem"); (case hdq5 => k_extra "datall")) | (refine' DatIn.mono ?hsq5 ?hdq5; (case hdq5 => assumption); (case hsq5 => k_extra "sub"))) | fail "no"
  k_with "datall" => first | (first | exact DatAll.nil | (refine' DatAll.cons ?_ ?_; (next => k_extra "dat"); (next => k_extra "datall")) | (refine' datAll_mono ?hsq6 ?hdq6; (case hdq6 => with_reducible assumption); (case hsq6 => k_extra "sub")) | k_extra "datallx") | fail "no"
  k_with "room" => first | (((try simp only [depth_under_make, depth_under_kw, depth_in1, depth_deeper, depth_caller]); (try dsimp only); first | omega | ktr_room)) | fail "no"
  k_with "units" => first | (((try simp only [units_in1, units_deeper, Around.mark_units, units_caller]); (try dsimp only); first | omega | ktr_units)) | fail "no"
  k_with "subscriptTail Name Slice ref ref" => first | ((k_here; k_dflt (refine' tup_from1 ?Fq9 ?Nq9 ?lq9 ?_ ?sq9 ?tq9 ?zq9; (case Fq9 => k_asm); (case Nq9 => k_asm); (case lq9 => k_extra "mem"); (case sq9 => with_unfolding_all rfl); (case tq9 => (intro _; with_unfolding_all rfl)); (case zq9 => exact Nat.le_of_ble_eq_true rfl)); intro D' h' F' N' l1; (try k_sweep))) | fail "no"
  k_with "binaryOp Add ref ref" => first | ((k_here; k_dflt (refine' tup_add ?Fq10 ?Nq10 ?lq10 ?rq10 ?_ ?zq10; (case Fq10 => k_asm); (case Nq10 => k_asm); (case lq10 => k_extra "mem"); (case rq10 => k_extra "mem"); (case zq10 => exact Nat.le_of_ble_eq_true rfl)); intro D' h' F' N' l1; (try dsimp only [List.cons_append, List.nil_append] at N'); (try k_sweep))) | fail "no"
  k_with "kok" => first | (first | exact ok_cont _ _ | exact ok_head _ _ | exact ok_key _ _ | exact ok_lsa _ _) | fail "no"
  k_with "compareOp NotEq ref" => first | ((k_here; k_dflt (refine' dat_cmp_ne ?Nq12 ?aq12 ?bq12 ?kaq12 ?kbq12 ?huq12 ?_; (case Nq12 => k_asm); (case aq12 => k_extra "dat"); (case bq12 => k_extra "dat"); (case kaq12 => k_extra "kok"); (case kbq12 => k_extra "kok"); (case huq12 => ktr_units)))) | fail "no"
  k_with "ctr ends" => first | (( (case Bq13 => k_asm); (case Fq13 => k_asm); (case Xq13 => k_asm); (case Nq13 => k_asm); (case Tq13 => k_asm); (case hkq13 => first | exact rfl | assumption); (case hdq13 => ktr_room); (case huq13 => ktr_units))) | fail "no"
  k_with "call ref" => first | ((k_here; k_dflt (refine' Ctr.use (aged_head_c _ _ _ _ _ _ ?hDq14) ?Bq14 ?Fq14 ?Xq14 ?Nq14 ?Tq14 ?hkq14 ?hdq14 ?huq14 ?_; (case Bq14 => k_asm); (case Fq14 => k_asm); (case Xq14 => k_asm); (case Nq14 => k_asm); (case Tq14 => k_asm); (case hDq14 => k_extra "dat"); (case hkq14 => first | exact rfl | assumption); (case hdq14 => k_extra "room"); (case huq14 => k_extra "units"); k_whole; intro r' news' h' tk' F' N' P'; obtain ⟨⟨tl', e'⟩, d'⟩ := P'; subst e'); (try dsimp only); (try k_fold))) | fail "no"
  k_with "call ref" => first | ((k_here; k_dflt (refine' Ctr.use (key_of_c _ _ _ _ ?hDq15) ?Bq15 ?Fq15 ?Xq15 ?Nq15 ?Tq15 ?hkq15 ?hdq15 ?huq15 ?_; (case Bq15 => k_asm); (case Fq15 => k_asm); (case Xq15 => k_asm); (case Nq15 => k_asm); (case Tq15 => k_asm); (case hDq15 => k_extra "dat"); (case hkq15 => first | exact rfl | assumption); (case hdq15 => k_extra "room"); (case huq15 => k_extra "units"); k_whole; intro r' news' h' tk' F' N' P'; obtain ⟨⟨tl', e'⟩, d'⟩ := P'; subst e'); (try dsimp only); (try k_fold))) | fail "no"
  k_with "call ref" => first | ((k_here; k_dflt (refine' Ctr.use (aged_c _ _ _ _ _ _ ?hDq16) ?Bq16 ?Fq16 ?Xq16 ?Nq16 ?Tq16 ?hkq16 ?hdq16 ?huq16 ?_; (case Bq16 => k_asm); (case Fq16 => k_asm); (case Xq16 => k_asm); (case Nq16 => k_asm); (case Tq16 => k_asm); (case hDq16 => k_extra "dat"); (case hkq16 => first | exact rfl | assumption); (case hdq16 => k_extra "room"); (case huq16 => k_extra "units"); k_whole; intro r' news' h' tk' F' N' P'; obtain ⟨⟨tl', e'⟩, d'⟩ := P'; subst e'); (try dsimp only); (try k_fold))) | fail "no"
  k_with "call ref" => first | ((k_here; k_dflt (refine' Ctr.use (newer_of_c _ _ _ _ _ _ ?hDq17 ?hEq17) ?Bq17 ?Fq17 ?Xq17 ?Nq17 ?Tq17 ?hkq17 ?hdq17 ?huq17 ?_; (case Bq17 => k_asm); (case Fq17 => k_asm); (case Xq17 => k_asm); (case Nq17 => k_asm); (case Tq17 => k_asm); (case hDq17 => k_extra "dat"); (case hEq17 => k_extra "dat"); (case hkq17 => first | exact rfl | assumption); (case hdq17 => k_extra "room"); (case huq17 => k_extra "units"); k_whole; intro r' news' h' tk' F' N' P'; obtain ⟨⟨tl', e'⟩, d'⟩ := P'; subst e'; cases d'); (try dsimp only); (try k_fold))) | fail "no"
  k_with "call ref" => first | ((k_here; k_dflt (refine' Ctr.use (is_changed_c _ _ _ _ _ _ ?hDq18 ?hEq18) ?Bq18 ?Fq18 ?Xq18 ?Nq18 ?Tq18 ?hkq18 ?hdq18 ?huq18 ?_; (case Bq18 => k_asm); (case Fq18 => k_asm); (case Xq18 => k_asm); (case Nq18 => k_asm); (case Tq18 => k_asm); (case hDq18 => k_extra "dat"); (case hEq18 => k_extra "dat"); (case hkq18 => first | exact rfl | assumption); (case hdq18 => k_extra "room"); (case huq18 => k_extra "units"); k_whole; intro r' news' h' tk' F' N' P'; obtain ⟨⟨tl', e'⟩, d'⟩ := P'; subst e'; cases d'); (try dsimp only); (try k_fold))) | fail "no"
  k_with "call ref" => first | ((k_here; k_dflt (refine' Ctr.use (look_c _ _ _ _ _ _ _ _ _ ?hoq19 ?hdbq19 ?hk0q19) ?Bq19 ?Fq19 ?Xq19 ?Nq19 ?Tq19 ?hkq19 ?hdq19 ?huq19 ?_; (case Bq19 => k_asm); (case Fq19 => k_asm); (case Xq19 => k_asm); (case Nq19 => k_asm); (case Tq19 => k_asm); (case hk0q19 => k_extra "dat"); (case hoq19 => k_extra "obj"); (case hdbq19 => k_extra "db"); (case hkq19 => first | exact rfl | assumption); (case hdq19 => k_extra "room"); (case huq19 => k_extra "units"); k_whole; intro r' news' h' tk' F' N' P'; obtain ⟨⟨tl', e'⟩, d'⟩ := P'; subst e'); (try dsimp only); (try k_fold))) | fail "no"
  k_with "call ref" => first | ((k_here; k_dflt (refine' Ctr.use (keys_c _ _ _ _ _ ?hoq20 ?hdbq20) ?Bq20 ?Fq20 ?Xq20 ?Nq20 ?Tq20 ?hkq20 ?hdq20 ?huq20 ?_; (case Bq20 => k_asm); (case Fq20 => k_asm); (case Xq20 => k_asm); (case Nq20 => k_asm); (case Tq20 => k_asm); (case hoq20 => k_extra "obj"); (case hdbq20 => k_extra "db"); (case hkq20 => first | exact rfl | assumption); (case hdq20 => k_extra "room"); (case huq20 => k_extra "units"); k_whole; intro r' news' h' tk' F' N' P'; obtain ⟨⟨tl', e'⟩, d'⟩ := P'; subst e'; obtain ⟨la', vs', n', e', hm', da'⟩ := listD_open d'; subst e'); (try dsimp only); (try k_fold))) | fail "no"
  k_with "call ref" => first | ((k_here; k_dflt (refine' Ctr.use (rows_c _ _ _ _ _ _ _ ?hoq21 ?hdbq21) ?Bq21 ?Fq21 ?Xq21 ?Nq21 ?Tq21 ?hkq21 ?hdq21 ?huq21 ?_; (case Bq21 => k_asm); (case Fq21 => k_asm); (case Xq21 => k_asm); (case Nq21 => k_asm); (case Tq21 => k_asm); (case hoq21 => k_extra "obj"); (case hdbq21 => k_extra "db"); (case hkq21 => first | exact rfl | assumption); (case hdq21 => k_extra "room"); (case huq21 => k_extra "units"); k_whole; intro r' news' h' tk' F' N' P'; obtain ⟨⟨tl', e'⟩, d'⟩ := P'; subst e'; obtain ⟨la', vs', n', e', hm', da'⟩ := listD_open d'; subst e'); (try dsimp only); (try k_fold))) | fail "no"
  k_with "db" => first | (first | with_reducible assumption | (refine' DbIs.sub ?hsq22 ?hdq22; (case hdq22 => with_reducible assumption); (case hsq22 => k_extra "sub"))) | fail "no"
  k_with "compareOp NotIn" => first | ((k_here; (with_reducible show wpAny _ _ (compareOp CmpOp.NotIn (Value.ref _) (Value.ref _)) _ _ _); k_dflt (first | (refine' rows_notIn_some ?Nq23 ?dq23 ?kq23 ?uq23 ?bq23 ?_; (case Nq23 => k_asm); (case dq23 => k_extra "db"); (case kq23 => k_extra "dat"); (case uq23 => ktr_units); (case bq23 => with_reducible assumption)) | (refine' rows_notIn_none ?Nq23 ?dq23 ?kq23 ?uq23 ?bq23 ?_; (case Nq23 => k_asm); (case dq23 => k_extra "db"); (case kq23 => k_extra "dat"); (case uq23 => ktr_units); (case bq23 => with_reducible assumption))); intro tk')) | fail "no"
  k_with "subscriptTail" => first | ((k_here; (with_reducible show wpAny _ _ (subscriptTail _ _ (Value.ref _) (Value.ref _)) _ _ _); k_dflt (refine' rows_item ?Nq24 ?dq24 ?kq24 ?uq24 ?rq24 ?_ ?sq24 ?gq24; (case Nq24 => k_asm); (case dq24 => k_extra "db"); (case kq24 => k_extra "dat"); (case uq24 => ktr_units); (case rq24 => with_reducible assumption); (case sq24 => with_unfolding_all rfl); (case gq24 => (intro _; with_unfolding_all rfl))); intro v' tk' dv'; k_dflt (obtain ⟨a', n', lv', t', e', hm', dl'⟩ := rvD_open dv'; subst e'))) | fail "no"
  k_with "obj" => first | (first | with_reducible assumption | (refine' dbObj_sub ?hsq25 ?hdq25; (case hdq25 => with_reducible assumption); (case hsq25 => k_extra "sub")) | (refine' ⟨_, _, _, _, ?m1q25, ?m2q25⟩; (case m1q25 => k_extra "mem"); (case m2q25 => k_extra "mem"))) | fail "no"
  k_with "call builtin:sorted" => first | ((k_here; (with_reducible show wpAny _ _ (call (Value.builtin "sorted") [Value.ref _]) _ _ _); k_dflt (refine' rows_sorted ?hhq26 ?Fq26 ?Nq26 ?dq26 ?_; (case hhq26 => rfl); (case Fq26 => k_asm); (case Nq26 => k_asm); (case dq26 => k_extra "db")); intro B' h' c' tk' vs' F' N' l1 dv')) | fail "no"
  k_with "eval ListComp" => first | ((k_here; k_dflt (refine' lc_eval ?Fq27 ?c1q27 ?c2q27 ?c3q27 ?c4q27 ?c5q27 ?_; (case Fq27 => k_asm); (case c1q27 => with_unfolding_all rfl); (case c2q27 => decide); (case c3q27 => rfl); (case c4q27 => decide); (case c5q27 => rfl)))) | fail "no"
  k_with "exec Assign cons ListComp" => first | ((k_here; k_dflt (refine' lc_assign ?Fq28 ?c0q28 ?cwq28 ?c1q28 ?c2q28 ?c3q28 ?c4q28 ?c5q28 ?c6q28 ?c7q28 ?_; (case Fq28 => k_asm); (case c0q28 => rfl); (case cwq28 => with_unfolding_all rfl); (case c1q28 => with_unfolding_all rfl); (case c2q28 => decide); (case c3q28 => rfl); (case c4q28 => decide); (case c5q28 => rfl); (case c6q28 => rfl); (case c7q28 => rfl)))) | fail "no"
  k_with "exec For Name Call cons nil" => first | ((k_here; (rename Fr _ _ _ _ => lF'); (with_unfolding_all refine' for_my lF' ?k1q29 ?k2q29 ?_; (case k1q29 => exact rfl); (case k2q29 => exact rfl); k_whole))) | fail "no"
  k_with "exec For Name Name cons nil" => first | ((k_here; (rename Fr _ _ _ _ => lF'); (with_unfolding_all refine' for_my lF' ?k1q30 ?k2q30 ?_; (case k1q30 => exact rfl); (case k2q30 => exact rfl); k_whole))) | fail "no"
  k_with "exec For Name Attribute cons nil" => first | ((k_here; (rename Fr _ _ _ _ => lF'); (with_unfolding_all refine' for_my lF' ?k1q31 ?k2q31 ?_; (case k1q31 => exact rfl); (case k2q31 => exact rfl); k_whole))) | fail "no"
  k_with "call builtin:list.append" => first | ((k_here; k_dflt (refine' append_my ?Fq32 ?Nq32 ?mq32 ?zq32 ?_; (case Fq32 => k_asm); (case Nq32 => k_asm); (case mq32 => k_extra "mem"); (case zq32 => assumption); k_whole; intro h' F' N'); (try dsimp only); (try k_fold))) | fail "no"
  k_with "datp" => first | (first | with_reducible assumption | ((with_reducible refine' DatIn.mono (fun p hp => List.mem_cons_of_mem _ hp) ?peq33); (case peq33 => k_extra "datp")) | ((with_reducible refine' DatIn.mono (fun p hp => List.mem_append_right _ hp) ?peq33); (case peq33 => k_extra "datp")) | (refine' Ext.dat ?eq33 ?hq33 ?nq33; (case eq33 => with_reducible assumption); (case hq33 => k_extra "datp"); (case nq33 => first | exact optD_noList _ | rfl))) | fail "no"
  k_with "dat" => first | (first | with_reducible exact DatIn.int _ _ | k_extra "datp" | (refine' DatIn.tuple ?hmq34 ?hdq34; (case hmq34 => k_extra "mem"); (case hdq34 => k_extra "datall"))) | fail "no"
  k_with "dbp" => first | (first | with_reducible assumption | ((with_reducible refine' DbIs.sub (fun p hp => List.mem_cons_of_mem _ hp) ?peq35); (case peq35 => k_extra "dbp")) | ((with_reducible refine' DbIs.sub (fun p hp => List.mem_append_right _ hp) ?peq35); (case peq35 => k_extra "dbp")) | (refine' Ext.other ?eq35 _ _ _ ?nq35 ?hq35; (case eq35 => with_reducible assumption); (case hq35 => k_extra "dbp"); (case nq35 => first | assumption | simp; done | (simp; assumption)))) | fail "no"
  k_with "db" => first | (k_extra "dbp") | fail "no"
  k_with "objp" => first | (first | with_reducible assumption | ((with_reducible refine' dbObj_sub (fun p hp => List.mem_cons_of_mem _ hp) ?peq37); (case peq37 => k_extra "objp")) | ((with_reducible refine' dbObj_sub (fun p hp => List.mem_append_right _ hp) ?peq37); (case peq37 => k_extra "objp")) | (refine' Ext.obj ?eq37 _ _ ?hq37; (case eq37 => with_reducible assumption); (case hq37 => k_extra "objp"))) | fail "no"
  k_with "obj" => first | (k_extra "objp") | fail "no"
  k_with "kin" => first | (first | assumption | (show Lsa.key _ ∈ _; assumption)) | fail "no"
  k_with "kkk" => first | (first | rfl | assumption) | fail "no"
  k_with "setItem ref" => first | ((k_here; (with_reducible show wpAny _ _ (setItem (Value.ref _) _ _) _ _ _); k_dflt (refine' rows_set2 ?Fq41 ?Nq41 ?dbq41 ?hvq41 ?hkq41 ?hkkq41 ?hrq41 ?huq41 ?_; (case Fq41 => k_asm); (case Nq41 => k_asm); (case dbq41 => k_extra "db"); (case hvq41 => k_extra "dat"); (case hkq41 => k_extra "dat"); (case hkkq41 => k_extra "kkk"); (case hrq41 => k_extra "kin"); (case huq41 => k_extra "units"); intro h' news' tk' F' N' e' db'); (try dsimp only); (try k_fold))) | fail "no"
  k_with "getMethod ref" => first | ((k_here; k_dflt (refine' rows_pop_meth ?Nq42 ?dbq42 ?_; (case Nq42 => k_asm); (case dbq42 => k_extra "db")))) | fail "no"
  k_with "call builtin:dict.pop" => first | ((k_here; k_dflt (first | (refine' rows_pop_some ?Fq43 ?Nq43 ?dbq43 ?hkq43 ?hrq43 ?huq43 ?_; (case Fq43 => k_asm); (case Nq43 => k_asm); (case dbq43 => k_extra "db"); (case hkq43 => k_extra "dat"); (case hrq43 => with_reducible assumption); (case huq43 => k_extra "units"); intro x' h' news' tk' F' N' e' db' dx'; obtain ⟨ax', ex'⟩ := tup_ref dx'; subst ex') | (refine' rows_pop_none ?Nq43 ?dbq43 ?hkq43 ?hrq43 ?huq43 ?_; (case Nq43 => k_asm); (case dbq43 => k_extra "db"); (case hkq43 => k_extra "dat"); (case hrq43 => with_reducible assumption); (case huq43 => k_extra "units"); intro tk')); (try dsimp only); (try k_fold))) | fail "no"
  trivial
theorem put_c (w : World) (news : Led) (x d : Addr) (lv : Value) (l : Lsa) (D : List Rw) (now : Int) (ts : Tok) (ho : DbObj news x d) (hdb : DbIs w news d D) (hl : DatIn news lv (lsaD l)) (hk : l.key ∈ allKeys) :
   Ctr PR w (hd.heap_39 w.params) 79 8 600 [.ref x, lv, .int now ts] news (MutD w news d (putRow D (l, now)) (.bool (changedB (lookRow D l.key now) l))) := by
  unfold Ctr
  have ho' := ho
  obtain ⟨dx, hs, t, n, hx, hdx⟩ := ho'
  have hl' := hl
  obtain ⟨la, ln, hv, cv, rfl, hml, hH, hC⟩ := lsaD_open hl'
  intros
  rename_i hret
  refine wpAny_call ?_
  walk_at "my enter"
  k_steps
  exact hret _ _ _ _ (by k_asm) (by k_asm) ⟨Ext.mid (by assumption) (by walk_at "sub") (by walk_at "sub"), by walk_at "db", by walk_at "dat"⟩
end
section
example : True := by
  k_with_none
  k_with "my enter" => first | (k_dflt (first | (refine' code_def ?k1q0 ?k2q0 ?k3q0 ?k4q0 ?k5q0 ?kAq0 ?kFq0 ?kKq0 ?k6q0 ?k7q0 ?k8q0 ?k9q0 ?kBq0 ?_ ?c2q0 ?c3q0 ?c4q0 ?c5q0; (case kAq0 => exact rfl); (case kFq0 => exact rfl); (case kKq0 => assumption); (case k1q0 => k_asm); (case k2q0 => k_asm); (case k3q0 => k_asm); (case k4q0 => k_asm); (case k5q0 => k_asm); (case k6q0 => k_is); (case k7q0 => k_is); (case k8q0 => ktr_room); (case k9q0 => first | exact BindsTo.of_eq rfl | exact binds_K (by k_in) rfl (by k_is) rfl rfl rfl); (case c5q0 => decide); (case kBq0 => exact locs rfl); (case c2q0 => exact rfl); (case c3q0 => exact rfl); (case c4q0 => exact rfl); k_whole; intro g' L' h' FG' F' N' B' X' T'; (try dsimp only); (try k_lift B'); (try k_fold)) | (refine' code_defC ?k1q0 ?k2q0 ?k3q0 ?k4q0 ?k5q0 ?kAq0 ?kFq0 ?kKq0 ?k6q0 ?k7q0 ?k8q0 ?k9q0 ?kBq0 ?kDq0 ?_ ?c2q0 ?c3q0 ?c4q0; (case kAq0 => exact rfl); (case kFq0 => exact rfl); (case kKq0 => assumption); (case k1q0 => k_asm); (case k2q0 => k_asm); (case k3q0 => k_asm); (case k4q0 => k_asm); (case k5q0 => k_asm); (case k6q0 => k_is); (case k7q0 => k_is); (case k8q0 => ktr_room); (case k9q0 => first | exact BindsTo.of_eq rfl | exact binds_K (by k_in) rfl (by k_is) rfl rfl rfl); (case kBq0 => exact rfl); (case kDq0 => decide +kernel); (case c2q0 => exact rfl); (case c3q0 => exact rfl); (case c4q0 => exact rfl); k_whole; intro g' L' h' tk' cells' FG' F' N' Y' B' X' T' l1; (try k_lt l1); k_cells Y'; (try simp only [List.cons_append, List.nil_append] at N'); (try dsimp only); (try k_lift B'); (try k_fold)))) | fail "no"
  k_with "mem" => first | (first | with_reducible assumption | exact List.Mem.head _ | ((with_reducible refine List.mem_cons_of_mem _ ?_); k_extra "mem") | ((with_reducible refine List.mem_append_right _ ?_); k_extra "mem") | k_extra "memx") | fail "no"
  k_with "sub" => first | (first | with_reducible exact fun _ h => h | ((with_reducible refine fun p h => List.mem_cons_of_mem _ ?_); revert p h; k_extra "sub") | ((with_reducible refine fun p h => List.mem_append_right _ ?_); revert p h; k_extra "sub") | with_reducible assumption) | fail "no"
  k_with "suf" => first | (first | with_reducible exact List.suffix_refl _ | ((with_reducible refine List.IsSuffix.trans ?_ (List.suffix_cons _ _)); k_extra "suf") | ((with_reducible refine List.IsSuffix.trans ?_ (List.suffix_append _ _)); k_extra "suf")) | fail "no"
  k_with "inteq" => first | (first | rfl | omega | (split <;> omega) | ((simp only [Lsa.aged]); (first | rfl | omega | (split <;> omega)))) | fail "no"
  k_with "dat" => first | (first | exact DatIn.none | exact DatIn.bool _ | with_reducible assumption | (refine dat_int ?_; k_extra "inteq") | exact DatIn.str _ _ | (refine' DatIn.mono ?hsq5 ?hdq5; (case hdq5 => with_reducible assumption); (case hsq5 => k_extra "sub")) | (refine' DatIn.tuple ?hmq5 ?hdq5; (case hmq5 => k_extra "mem"); (case hdq5 => k_extra "datall")) | (refine' DatIn.list ?hmq5 ?hdq5; (case hmq5 => k_extra "mem"); (case hdq5 => k_extra "datall")) | (refine' DatIn.mono ?hsq5 ?hdq5; (case hdq5 => assumption); (case hsq5 => k_extra "sub"))) | fail "no"
  k_with "datall" => first | (first | exact DatAll.nil | (refine' DatAll.cons ?_ ?_; (next => k_extra "dat"); (next => k_extra "datall")) | (refine' datAll_mono ?hsq6 ?hdq6; (case hdq6 => with_reducible assumption); (case hsq6 => k_extra "sub")) | k_extra "datallx") | fail "no"
  k_with "room" => first | (((try simp only [depth_under_make, depth_under_kw, depth_in1, depth_deeper, depth_caller]); (try dsimp only); first | omega | ktr_room)) | fail "no"
  k_with "units" => first | (((try simp only [units_in1, units_deeper, Around.mark_units, units_caller]); (try dsimp only); first | omega | ktr_units)) | fail "no"
  k_with "subscriptTail Name Slice ref ref" => first | ((k_here; k_dflt (refine' tup_from1 ?Fq9 ?Nq9 ?lq9 ?_ ?sq9 ?tq9 ?zq9; (case Fq9 => k_asm); (case Nq9 => k_asm); (case lq9 => k_extra "mem"); (case sq9 => with_unfolding_all rfl); (case tq9 => (intro _; with_unfolding_all rfl)); (case zq9 => exact Nat.le_of_ble_eq_true rfl)); intro D' h' F' N' l1; (try k_sweep))) | fail "no"
  k_with "binaryOp Add ref ref" => first | ((k_here; k_dflt (refine' tup_add ?Fq10 ?Nq10 ?lq10 ?rq10 ?_ ?zq10; (case Fq10 => k_asm); (case Nq10 => k_asm); (case lq10 => k_extra "mem"); (case rq10 => k_extra "mem"); (case zq10 => exact Nat.le_of_ble_eq_true rfl)); intro D' h' F' N' l1; (try dsimp only [List.cons_append, List.nil_append] at N'); (try k_sweep))) | fail "no"
  k_with "kok" => first | (first | exact ok_cont _ _ | exact ok_head _ _ | exact ok_key _ _ | exact ok_lsa _ _) | fail "no"
  k_with "compareOp NotEq ref" => first | ((k_here; k_dflt (refine' dat_cmp_ne ?Nq12 ?aq12 ?bq12 ?kaq12 ?kbq12 ?huq12 ?_; (case Nq12 => k_asm); (case aq12 => k_extra "dat"); (case bq12 => k_extra "dat"); (case kaq12 => k_extra "kok"); (case kbq12 => k_extra "kok"); (case huq12 => ktr_units)))) | fail "no"
  k_with "ctr ends" => first | (( (case Bq13 => k_asm); (case Fq13 => k_asm); (case Xq13 => k_asm); (case Nq13 => k_asm); (case Tq13 => k_asm); (case hkq13 => first | exact rfl | assumption); (case hdq13 => ktr_room); (case huq13 => ktr_units))) | fail "no"
  k_with "call ref" => first | ((k_here; k_dflt (refine' Ctr.use (aged_head_c _ _ _ _ _ _ ?hDq14) ?Bq14 ?Fq14 ?Xq14 ?Nq14 ?Tq14 ?hkq14 ?hdq14 ?huq14 ?_; (case Bq14 => k_asm); (case Fq14 => k_asm); (case Xq14 => k_asm); (case Nq14 => k_asm); (case Tq14 => k_asm); (case hDq14 => k_extra "dat"); (case hkq14 => first | exact rfl | assumption); (case hdq14 => k_extra "room"); (case huq14 => k_extra "units"); k_whole; intro r' news' h' tk' F' N' P'; obtain ⟨⟨tl', e'⟩, d'⟩ := P'; subst e'); (try dsimp only); (try k_fold))) | fail "no"
  k_with "call ref" => first | ((k_here; k_dflt (refine' Ctr.use (key_of_c _ _ _ _ ?hDq15) ?Bq15 ?Fq15 ?Xq15 ?Nq15 ?Tq15 ?hkq15 ?hdq15 ?huq15 ?_; (case Bq15 => k_asm); (case Fq15 => k_asm); (case Xq15 => k_asm); (case Nq15 => k_asm); (case Tq15 => k_asm); (case hDq15 => k_extra "dat"); (case hkq15 => first | exact rfl | assumption); (case hdq15 => k_extra "room"); (case huq15 => k_extra "units"); k_whole; intro r' news' h' tk' F' N' P'; obtain ⟨⟨tl', e'⟩, d'⟩ := P'; subst e'); (try dsimp only); (try k_fold))) | fail "no"
  k_with "call ref" => first | ((k_here; k_dflt (refine' Ctr.use (aged_c _ _ _ _ _ _ ?hDq16) ?Bq16 ?Fq16 ?Xq16 ?Nq16 ?Tq16 ?hkq16 ?hdq16 ?huq16 ?_; (case Bq16 => k_asm); (case Fq16 => k_asm); (case Xq16 => k_asm); (case Nq16 => k_asm); (case Tq16 => k_asm); (case hDq16 => k_extra "dat"); (case hkq16 => first | exact rfl | assumption); (case hdq16 => k_extra "room"); (case huq16 => k_extra "units"); k_whole; intro r' news' h' tk' F' N' P'; obtain ⟨⟨tl', e'⟩, d'⟩ := P'; subst e'); (try dsimp only); (try k_fold))) | fail "no"
  k_with "call ref" => first | ((k_here; k_dflt (refine' Ctr.use (newer_of_c _ _ _ _ _ _ ?hDq17 ?hEq17) ?Bq17 ?Fq17 ?Xq17 ?Nq17 ?Tq17 ?hkq17 ?hdq17 ?huq17 ?_; (case Bq17 => k_asm); (case Fq17 => k_asm); (case Xq17 => k_asm); (case Nq17 => k_asm); (case Tq17 => k_asm); (case hDq17 => k_extra "dat"); (case hEq17 => k_extra "dat"); (case hkq17 => first | exact rfl | assumption); (case hdq17 => k_extra "room"); (case huq17 => k_extra "units"); k_whole; intro r' news' h' tk' F' N' P'; obtain ⟨⟨tl', e'⟩, d'⟩ := P'; subst e'; cases d'); (try dsimp only); (try k_fold))) | fail "no"
  k_with "call ref" => first | ((k_here; k_dflt (refine' Ctr.use (is_changed_c _ _ _ _ _ _ ?hDq18 ?hEq18) ?Bq18 ?Fq18 ?Xq18 ?Nq18 ?Tq18 ?hkq18 ?hdq18 ?huq18 ?_; (case Bq18 => k_asm); (case Fq18 => k_asm); (case Xq18 => k_asm); (case Nq18 => k_asm); (case Tq18 => k_asm); (case hDq18 => k_extra "dat"); (case hEq18 => k_extra "dat"); (case hkq18 => first | exact rfl | assumption); (case hdq18 => k_extra "room"); (case huq18 => k_extra "units"); k_whole; intro r' news' h' tk' F' N' P'; obtain ⟨⟨tl', e'⟩, d'⟩ := P'; subst e'; cases d'); (try dsimp only); (try k_fold))) | fail "no"
  k_with "call ref" => first | ((k_here; k_dflt (refine' Ctr.use (look_c _ _ _ _ _ _ _ _ _ ?hoq19 ?hdbq19 ?hk0q19) ?Bq19 ?Fq19 ?Xq19 ?Nq19 ?Tq19 ?hkq19 ?hdq19 ?huq19 ?_; (case Bq19 => k_asm); (case Fq19 => k_asm); (case Xq19 => k_asm); (case Nq19 => k_asm); (case Tq19 => k_asm); (case hk0q19 => k_extra "dat"); (case hoq19 => k_extra "obj"); (case hdbq19 => k_extra "db"); (case hkq19 => first | exact rfl | assumption); (case hdq19 => k_extra "room"); (case huq19 => k_extra "units"); k_whole; intro r' news' h' tk' F' N' P'; obtain ⟨⟨tl', e'⟩, d'⟩ := P'; subst e'); (try dsimp only); (try k_fold))) | fail "no"
  k_with "call ref" => first | ((k_here; k_dflt (refine' Ctr.use (keys_c _ _ _ _ _ ?hoq20 ?hdbq20) ?Bq20 ?Fq20 ?Xq20 ?Nq20 ?Tq20 ?hkq20 ?hdq20 ?huq20 ?_; (case Bq20 => k_asm); (case Fq20 => k_asm); (case Xq20 => k_asm); (case Nq20 => k_asm); (case Tq20 => k_asm); (case hoq20 => k_extra "obj"); (case hdbq20 => k_extra "db"); (case hkq20 => first | exact rfl | assumption); (case hdq20 => k_extra "room"); (case huq20 => k_extra "units"); k_whole; intro r' news' h' tk' F' N' P'; obtain ⟨⟨tl', e'⟩, d'⟩ := P'; subst e'; obtain ⟨la', vs', n', e', hm', da'⟩ := listD_open d'; subst e'); (try dsimp only); (try k_fold))) | fail "no"
  k_with "call ref" => first | ((k_here; k_dflt (refine' Ctr.use (rows_c _ _ _ _ _ _ _ ?hoq21 ?hdbq21) ?Bq21 ?Fq21 ?Xq21 ?Nq21 ?Tq21 ?hkq21 ?hdq21 ?huq21 ?_; (case Bq21 => k_asm); (case Fq21 => k_asm); (case Xq21 => k_asm); (case Nq21 => k_asm); (case Tq21 => k_asm); (case hoq21 => k_extra "obj"); (case hdbq21 => k_extra "db"); (case hkq21 => first | exact rfl | assumption); (case hdq21 => k_extra "room"); (case huq21 => k_extra "units"); k_whole; intro r' news' h' tk' F' N' P'; obtain ⟨⟨tl', e'⟩, d'⟩ := P'; subst e'; obtain ⟨la', vs', n', e', hm', da'⟩ := listD_open d'; subst e'); (try dsimp only); (try k_fold))) | fail "no"
  k_with "db" => first | (first | with_reducible assumption | (refine' DbIs.sub ?hsq22 ?hdq22; (case hdq22 => with_reducible assumption); (case hsq22 => k_extra "sub"))) | fail "no"
  k_with "compareOp NotIn" => first | ((k_here; (with_reducible show wpAny _ _ (compareOp CmpOp.NotIn (Value.ref _) (Value.ref _)) _ _ _); k_dflt (first | (refine' rows_notIn_some ?Nq23 ?dq23 ?kq23 ?uq23 ?bq23 ?_; (case Nq23 => k_asm); (case dq23 => k_extra "db"); (case kq23 => k_extra "dat"); (case uq23 => ktr_units); (case bq23 => with_reducible assumption)) | (refine' rows_notIn_none ?Nq23 ?dq23 ?kq23 ?uq23 ?bq23 ?_; (case Nq23 => k_asm); (case dq23 => k_extra "db"); (case kq23 => k_extra "dat"); (case uq23 => ktr_units); (case bq23 => with_reducible assumption))); intro tk')) | fail "no"
  k_with "subscriptTail" => first | ((k_here; (with_reducible show wpAny _ _ (subscriptTail _ _ (Value.ref _) (Value.ref _)) _ _ _); k_dflt (refine' rows_item ?Nq24 ?dq24 ?kq24 ?uq24 ?rq24 ?_ ?sq24 ?gq24; (case Nq24 => k_asm); (case dq24 => k_extra "db"); (case kq24 => k_extra "dat"); (case uq24 => ktr_units); (case rq24 => with_reducible assumption); (case sq24 => with_unfolding_all rfl); (case gq24 => (intro _; with_unfolding_all rfl))); intro v' tk' dv'; k_dflt (obtain ⟨a', n', lv', t', e', hm', dl'⟩ := rvD_open dv'; subst e'))) | fail "no"
  k_with "obj" => first | (first | with_reducible assumption | (refine' dbObj_sub ?hsq25 ?hdq25; (case hdq25 => with_reducible assumption); (case hsq25 => k_extra "sub")) | (refine' ⟨_, _, _, _, ?m1q25, ?m2q25⟩; (case m1q25 => k_extra "mem"); (case m2q25 => k_extra "mem"))) | fail "no"
  k_with "call builtin:sorted" => first | ((k_here; (with_reducible show wpAny _ _ (call (Value.builtin "sorted") [Value.ref _]) _ _ _); k_dflt (refine' rows_sorted ?hhq26 ?Fq26 ?Nq26 ?dq26 ?_; (case hhq26 => rfl); (case Fq26 => k_asm); (case Nq26 => k_asm); (case dq26 => k_extra "db")); intro B' h' c' tk' vs' F' N' l1 dv')) | fail "no"
  k_with "eval ListComp" => first | ((k_here; k_dflt (refine' lc_eval ?Fq27 ?c1q27 ?c2q27 ?c3q27 ?c4q27 ?c5q27 ?_; (case Fq27 => k_asm); (case c1q27 => with_unfolding_all rfl); (case c2q27 => decide); (case c3q27 => rfl); (case c4q27 => decide); (case c5q27 => rfl)))) | fail "no"
  k_with "exec Assign cons ListComp" => first | ((k_here; k_dflt (refine' lc_assign ?Fq28 ?c0q28 ?cwq28 ?c1q28 ?c2q28 ?c3q28 ?c4q28 ?c5q28 ?c6q28 ?c7q28 ?_; (case Fq28 => k_asm); (case c0q28 => rfl); (case cwq28 => with_unfolding_all rfl); (case c1q28 => with_unfolding_all rfl); (case c2q28 => decide); (case c3q28 => rfl); (case c4q28 => decide); (case c5q28 => rfl); (case c6q28 => rfl); (case c7q28 => rfl)))) | fail "no"
  k_with "exec For Name Call cons nil" => first | ((k_here; (rename Fr _ _ _ _ => lF'); (with_unfolding_all refine' for_my lF' ?k1q29 ?k2q29 ?_; (case k1q29 => exact rfl); (case k2q29 => exact rfl); k_whole))) | fail "no"
  k_with "exec For Name Name cons nil" => first | ((k_here; (rename Fr _ _ _ _ => lF'); (with_unfolding_all refine' for_my lF' ?k1q30 ?k2q30 ?_; (case k1q30 => exact rfl); (case k2q30 => exact rfl); k_whole))) | fail "no"
  k_with "exec For Name Attribute cons nil" => first | ((k_here; (rename Fr _ _ _ _ => lF'); (with_unfolding_all refine' for_my lF' ?k1q31 ?k2q31 ?_; (case k1q31 => exact rfl); (case k2q31 => exact rfl); k_whole))) | fail "no"
  k_with "call builtin:list.append" => first | ((k_here; k_dflt (refine' append_my ?Fq32 ?Nq32 ?mq32 ?zq32 ?_; (case Fq32 => k_asm); (case Nq32 => k_asm); (case mq32 => k_extra "mem"); (case zq32 => assumption); k_whole; intro h' F' N'); (try dsimp only); (try k_fold))) | fail "no"
  k_with "datp" => first | (first | with_reducible assumption | ((with_reducible refine' DatIn.mono (fun p hp => List.mem_cons_of_mem _ hp) ?peq33); (case peq33 => k_extra "datp")) | ((with_reducible refine' DatIn.mono (fun p hp => List.mem_append_right _ hp) ?peq33); (case peq33 => k_extra "datp")) | (refine' Ext.dat ?eq33 ?hq33 ?nq33; (case eq33 => with_reducible assumption); (case hq33 => k_extra "datp"); (case nq33 => first | exact optD_noList _ | rfl))) | fail "no"
  k_with "dat" => first | (first | with_reducible exact DatIn.int _ _ | k_extra "datp" | (refine' DatIn.tuple ?hmq34 ?hdq34; (case hmq34 => k_extra "mem"); (case hdq34 => k_extra "datall"))) | fail "no"
  k_with "dbp" => first | (first | with_reducible assumption | ((with_reducible refine' DbIs.sub (fun p hp => List.mem_cons_of_mem _ hp) ?peq35); (case peq35 => k_extra "dbp")) | ((with_reducible refine' DbIs.sub (fun p hp => List.mem_append_right _ hp) ?peq35); (case peq35 => k_extra "dbp")) | (refine' Ext.other ?eq35 _ _ _ ?nq35 ?hq35; (case eq35 => with_reducible assumption); (case hq35 => k_extra "dbp"); (case nq35 => first | assumption | simp; done | (simp; assumption)))) | fail "no"
  k_with "db" => first | (k_extra "dbp") | fail "no"
  k_with "objp" => first | (first | with_reducible assumption | ((with_reducible refine' dbObj_sub (fun p hp => List.mem_cons_of_mem _ hp) ?peq37); (case peq37 => k_extra "objp")) | ((with_reducible refine' dbObj_sub (fun p hp => List.mem_append_right _ hp) ?peq37); (case peq37 => k_extra "objp")) | (refine' Ext.obj ?eq37 _ _ ?hq37; (case eq37 => with_reducible assumption); (case hq37 => k_extra "objp"))) | fail "no"
  k_with "obj" => first | (k_extra "objp") | fail "no"
  k_with "kin" => first | (first | assumption | (show Lsa.key _ ∈ _; assumption)) | fail "no"
  k_with "kkk" => first | (first | rfl | assumption) | fail "no"
  k_with "setItem ref" => first | ((k_here; (with_reducible show wpAny _ _ (setItem (Value.ref _) _ _) _ _ _); k_dflt (refine' rows_set2 ?Fq41 ?Nq41 ?dbq41 ?hvq41 ?hkq41 ?hkkq41 ?hrq41 ?huq41 ?_; (case Fq41 => k_asm); (case Nq41 => k_asm); (case dbq41 => k_extra "db"); (case hvq41 => k_extra "dat"); (case hkq41 => k_extra "dat"); (case hkkq41 => k_extra "kkk"); (case hrq41 => k_extra "kin"); (case huq41 => k_extra "units"); intro h' news' tk' F' N' e' db'); (try dsimp only); (try k_fold))) | fail "no"
  k_with "getMethod ref" => first | ((k_here; k_dflt (refine' rows_pop_meth ?Nq42 ?dbq42 ?_; (case Nq42 => k_asm); (case dbq42 => k_extra "db")))) | fail "no"
  k_with "call builtin:dict.pop" => first | ((k_here; k_dflt (first | (refine' rows_pop_some ?Fq43 ?Nq43 ?dbq43 ?hkq43 ?hrq43 ?huq43 ?_; (case Fq43 => k_asm); (case Nq43 => k_asm); (case dbq43 => k_extra "db"); (case hkq43 => k_extra "dat"); (case hrq43 => with_reducible assumption); (case huq43 => k_extra "units"); intro x' h' news' tk' F' N' e' db' dx'; obtain ⟨ax', ex'⟩ := tup_ref dx'; subst ex') | (refine' rows_pop_none ?Nq43 ?dbq43 ?hkq43 ?hrq43 ?huq43 ?_; (case Nq43 => k_asm); (case dbq43 => k_extra "db"); (case hkq43 => k_extra "dat"); (case hrq43 => with_reducible assumption); (case huq43 => k_extra "units"); intro tk')); (try dsimp only); (try k_fold))) | fail "no"
  k_with "call ref" => first | ((k_here; k_dflt (refine' Ctr.use (look_some_c _ _ _ _ _ _ _ _ _ _ ?hoq44 ?hdbq44 ?hk0q44 ?hr0q44) ?Bq44 ?Fq44 ?Xq44 ?Nq44 ?Tq44 ?hkq44 ?hdq44 ?huq44 ?_; (case Bq44 => k_asm); (case Fq44 => k_asm); (case Xq44 => k_asm); (case Nq44 => k_asm); (case Tq44 => k_asm); (case hr0q44 => with_reducible assumption); (case hk0q44 => k_extra "dat"); (case hoq44 => k_extra "obj"); (case hdbq44 => k_extra "db"); (case hkq44 => first | exact rfl | assumption); (case hdq44 => k_extra "room"); (case huq44 => k_extra "units"); k_whole; intro r' news' h' tk' F' N' P'; obtain ⟨⟨tl', e'⟩, d'⟩ := P'; subst e'; (have d2' := d'); obtain ⟨la2', n2', hv2', cv2', e2', hm2', hH2', hC2'⟩ := lsaD_open d2'; subst e2'); (try dsimp only); (try k_fold))) | fail "no"
  k_with "call ref" => first | ((k_here; k_dflt (refine' Ctr.use (look_none_c _ _ _ _ _ _ _ _ _ ?hoq45 ?hdbq45 ?hk0q45 ?hr0q45) ?Bq45 ?Fq45 ?Xq45 ?Nq45 ?Tq45 ?hkq45 ?hdq45 ?huq45 ?_; (case Bq45 => k_asm); (case Fq45 => k_asm); (case Xq45 => k_asm); (case Nq45 => k_asm); (case Tq45 => k_asm); (case hr0q45 => with_reducible assumption); (case hk0q45 => k_extra "dat"); (case hoq45 => k_extra "obj"); (case hdbq45 => k_extra "db"); (case hkq45 => first | exact rfl | assumption); (case hdq45 => k_extra "room"); (case huq45 => k_extra "units"); k_whole; intro r' news' h' tk' F' N' P'; obtain ⟨⟨tl', e'⟩, d'⟩ := P'; subst e'; cases d'); (try dsimp only); (try k_fold))) | fail "no"
  trivial
theorem rowAt_key {D : List Rw} {k : Key} {r : Rw} (h : rowAt D k = some r) : r.1.key = k := by
  have := List.find?_some h
  simpa using this
theorem rowAt_in {D : List Rw} {k : Key} {r : Rw} (h : rowAt D k = some r) : k ∈ keysOf D := by
  rw [← rowAt_key h]
  exact List.mem_map.mpr ⟨r, List.mem_of_find?_eq_some h, rfl⟩
/-- the rows after an end -/
def endRow (D : List Rw) (k : Key) (now : Int) : List Rw := match lookRow D k now with
  | none => D
  | some l => putRow D (l.aged 3600, now)
theorem end_some_c (w : World) (news : Led) (x d : Addr) (kv : Value) (k : Key) (D : List Rw) (r : Rw) (now : Int) (ts : Tok) (ho : DbObj news x d) (hdb : DbIs w news d D) (hk : DatIn news kv (keyD k)) (hr : rowAt D k = some r) :
   Ctr PR w (hd.heap_39 w.params) 136 8 600 [.ref x, kv, .int now ts] news (MutD w news d (putRow D ((r.1.aged (now - r.2)).aged 3600, now)) (lsaD ((r.1.aged (now - r.2)).aged 3600))) := by
  unfold Ctr
  have ho' := ho
  obtain ⟨dx, hs, t, n, hx, hdx⟩ := ho'
  obtain ⟨ka, rfl⟩ := tup_ref hk
  have hkey : Lsa.key ((r.1.aged (now - r.2)).aged 3600) = k := rowAt_key hr
  have hin : k ∈ allKeys := by obtain ⟨xs, n, _, _, _, ha, _⟩ := id hdb; exact ha _ (rowAt_in hr)
  intros
  rename_i hret
  refine wpAny_call ?_
  walk_at "my enter"
  k_steps
  exact hret _ _ _ _ (by k_asm) (by k_asm) ⟨Ext.mid (by assumption) (by walk_at "sub") (by walk_at "sub"), by walk_at "db", by walk_at "dat"⟩
theorem end_none_c (w : World) (news : Led) (x d : Addr) (kv : Value) (k : Key) (D : List Rw) (now : Int) (ts : Tok) (ho : DbObj news x d) (hdb : DbIs w news d D) (hk : DatIn news kv (keyD k)) (hr : rowAt D k = none) :
   Ctr PR w (hd.heap_39 w.params) 136 8 600 [.ref x, kv, .int now ts] news (MutD w news d D .none) := by
  unfold Ctr
  have ho' := ho
  obtain ⟨dx, hs, t, n, hx, hdx⟩ := ho'
  obtain ⟨ka, rfl⟩ := tup_ref hk
  intros
  rename_i hret
  refine wpAny_call ?_
  walk_at "my enter"
  k_steps
  exact hret _ _ _ _ (by k_asm) (by k_asm) ⟨Ext.sub0 (by walk_at "sub"), by walk_at "db", .none⟩
theorem end_c (w : World) (news : Led) (x d : Addr) (kv : Value) (k : Key) (D : List Rw) (now : Int) (ts : Tok) (ho : DbObj news x d) (hdb : DbIs w news d D) (hk : DatIn news kv (keyD k)) :
   Ctr PR w (hd.heap_39 w.params) 136 8 600 [.ref x, kv, .int now ts] news (MutD w news d (endRow D k now) (optD ((lookRow D k now).map fun l => l.aged 3600))) := by
  unfold endRow lookRow
  cases hr : rowAt D k with
  | none => exact end_none_c w news x d kv k D now ts ho hdb hk hr
  | some r => exact end_some_c w news x d kv k D r now ts ho hdb hk hr
end
section
example : True := by
  k_with_none
  trivial
section
variable {w : World} {A : Around} {E : Value → Shared → Prop} {s : Shared} {h₀ : Heap} {L l : Addr} {m : Str → Option Value} {news : Led} {us : List Value} {n : Nat}
theorem litem {value slice : PySem.Expr} {k : Int} {u : Tok} {v : Value} {Q : Value → Shared → Prop} (N : News h₀ L s.heap news) (hm : (l, W.listOf us.toArray n) ∈ news)
    (h0 : 0 ≤ k) (hfit : k < 2 ^ 63) (hv : us[k.toNat]? = some v) (h : Q v s)
    (hs : subscripted slice false (.ref l) (.int k u) = operate [.ref l, .int k u] (getItem (.ref l) (.int k u))) :
    wpAny (model PR w) A (subscriptTail value slice (.ref l) (.int k u)) Q E s := by
  have hl : s.heap.IsList l us.toArray := ⟨_, (N _ hm).1, rfl, n, rfl⟩
  exact tail_any hl.typeIs slot_list_getitem.lookup (wpAny_getItem_list hl h0 hfit (by simpa using hv) h) hs
theorem litem_neg {value slice : PySem.Expr} {k : Int} {u : Tok} {v : Value} {Q : Value → Shared → Prop} (N : News h₀ L s.heap news) (hm : (l, W.listOf us.toArray n) ∈ news)
    (h0 : k < 0) (h1 : -(us.length : Int) ≤ k) (hfit : -(2 ^ 63) ≤ k) (hv : us[(k + us.length).toNat]? = some v) (h : Q v s)
    (hs : subscripted slice false (.ref l) (.int k u) = operate [.ref l, .int k u] (getItem (.ref l) (.int k u))) :
    wpAny (model PR w) A (subscriptTail value slice (.ref l) (.int k u)) Q E s := by
  have hl : s.heap.IsList l us.toArray := ⟨_, (N _ hm).1, rfl, n, rfl⟩
  exact tail_any hl.typeIs slot_list_getitem.lookup (wpAny_getItem_list_neg hl h0 (by simpa using h1) hfit (by simpa using hv) h) hs
theorem lset {k : Int} {u : Tok} {v : Value} {Q : Unit → Shared → Prop} (F : Fr h₀ L s.heap m) (N : News h₀ L s.heap news) (hm : (l, W.listOf us.toArray n) ∈ news)
    (h0 : 0 ≤ k) (hfit : k < 2 ^ 63) (hk : k < us.length)
    (h : ∀ h' news', Fr h₀ L h' m → News h₀ L h' news' → Ext [l] [] news news' → (l, W.listOf (us.set k.toNat v).toArray n) ∈ news' → (∀ p ∈ news, p.1 ≠ l → p ∈ news') → Q () { s with heap := h' }) :
    wpAny (model PR w) A (setItem (.ref l) (.int k u) v) Q E s := by
  have z := N _ hm
  refine PySem.W.ki_setAt z.1 h0 hfit (by simpa using hk) ?_
  have hs : Heap.SameBut l s.heap (s.heap.update l (Obj.mapSeq (·.setIfInBounds k.toNat v))) := Heap.SameBut.update ..
  have hg : (s.heap.update l (Obj.mapSeq (·.setIfInBounds k.toNat v))).get? l = some (W.listOf (us.set k.toNat v).toArray n) := by
    rw [Heap.get?_update_self _ z.1 (by rfl)]
    simp [Obj.mapSeq, W.listOf]
  have kept : ∀ p ∈ news, p.1 ≠ l → p ∈ news.map (fun p => if p.1 = l then (l, W.listOf (us.set k.toNat v).toArray n) else p) := fun p hp hne => List.mem_map.mpr ⟨p, hp, by rw [if_neg hne]⟩
  exact h _ _ (F.change hs z.2.1 z.2.2) (N.update hm hs hg) (Ext.list N hm kept) (List.mem_map.mpr ⟨_, hm, by simp⟩) kept
end
theorem llen {w : World} {A : Around} {E : Value → Shared → Prop} {s : Shared} {h₀ : Heap} {L l : Addr} {news : Led} {us : List Value} {n : Nat} {Q : Value → Shared → Prop} (N : News h₀ L s.heap news) (hm : (l, W.listOf us.toArray n) ∈ news) (hfit : (us.length : Int) < 2 ^ 63)
    (h : Q (.int (us.length : Int) (s.toks + 1)) { s with toks := s.toks + 1 + 1 }) : wpAny (model PR w) A (call (.builtin "len") [.ref l]) Q E s := by
  have hl : s.heap.IsList l us.toArray := ⟨_, (N _ hm).1, rfl, n, rfl⟩
  have e : us.toArray.size = us.length := by rw [List.size_toArray]
  exact len_list hl (by rw [e]; exact hfit) (by rw [e]; exact h)
theorem ints_get {vs : List Value} {ns : List Int} (h : IntsAre vs ns) : ∀ {k : Nat}, k < vs.length → ∃ z t, vs[k]? = some (.int z t) := by
  induction h with
  | nil => intro k hk; simp at hk
  | cons n t _ ih =>
    intro k hk
    cases k with
    | zero => exact ⟨n, t, rfl⟩
    | succ k => simpa using ih (by simpa using hk)
theorem ints_len {vs : List Value} {ns : List Int} (h : IntsAre vs ns) : vs.length = ns.length := by
  induction h with
  | nil => rfl
  | cons _ _ _ ih => simp [ih]
end
section
example : True := by
  k_with_none
  k_with "my enter" => first | (k_dflt (first | (refine' code_def ?k1q0 ?k2q0 ?k3q0 ?k4q0 ?k5q0 ?kAq0 ?kFq0 ?kKq0 ?k6q0 ?k7q0 ?k8q0 ?k9q0 ?kBq0 ?_ ?c2q0 ?c3q0 ?c4q0 ?c5q0; (case kAq0 => exact rfl); (case kFq0 => exact rfl); (case kKq0 => assumption); (case k1q0 => k_asm); (case k2q0 => k_asm); (case k3q0 => k_asm); (case k4q0 => k_asm); (case k5q0 => k_asm); (case k6q0 => k_is); (case k7q0 => k_is); (case k8q0 => ktr_room); (case k9q0 => first | exact BindsTo.of_eq rfl | exact binds_K (by k_in) rfl (by k_is) rfl rfl rfl); (case c5q0 => decide); (case kBq0 => exact locs rfl); (case c2q0 => exact rfl); (case c3q0 => exact rfl); (case c4q0 => exact rfl); k_whole; intro g' L' h' FG' F' N' B' X' T'; (try dsimp only); (try k_lift B'); (try k_fold)) | (refine' code_defC ?k1q0 ?k2q0 ?k3q0 ?k4q0 ?k5q0 ?kAq0 ?kFq0 ?kKq0 ?k6q0 ?k7q0 ?k8q0 ?k9q0 ?kBq0 ?kDq0 ?_ ?c2q0 ?c3q0 ?c4q0; (case kAq0 => exact rfl); (case kFq0 => exact rfl); (case kKq0 => assumption); (case k1q0 => k_asm); (case k2q0 => k_asm); (case k3q0 => k_asm); (case k4q0 => k_asm); (case k5q0 => k_asm); (case k6q0 => k_is); (case k7q0 => k_is); (case k8q0 => ktr_room); (case k9q0 => first | exact BindsTo.of_eq rfl | exact binds_K (by k_in) rfl (by k_is) rfl rfl rfl); (case kBq0 => exact rfl); (case kDq0 => decide +kernel); (case c2q0 => exact rfl); (case c3q0 => exact rfl); (case c4q0 => exact rfl); k_whole; intro g' L' h' tk' cells' FG' F' N' Y' B' X' T' l1; (try k_lt l1); k_cells Y'; (try simp only [List.cons_append, List.nil_append] at N'); (try dsimp only); (try k_lift B'); (try k_fold)))) | fail "no"
  k_with "mem" => first | (first | with_reducible assumption | exact List.Mem.head _ | ((with_reducible refine List.mem_cons_of_mem _ ?_); k_extra "mem") | ((with_reducible refine List.mem_append_right _ ?_); k_extra "mem") | k_extra "memx") | fail "no"
  k_with "sub" => first | (first | with_reducible exact fun _ h => h | ((with_reducible refine fun p h => List.mem_cons_of_mem _ ?_); revert p h; k_extra "sub") | ((with_reducible refine fun p h => List.mem_append_right _ ?_); revert p h; k_extra "sub") | with_reducible assumption) | fail "no"
  k_with "suf" => first | (first | with_reducible exact List.suffix_refl _ | ((with_reducible refine List.IsSuffix.trans ?_ (List.suffix_cons _ _)); k_extra "suf") | ((with_reducible refine List.IsSuffix.trans ?_ (List.suffix_append _ _)); k_extra "suf")) | fail "no"
  k_with "inteq" => first | (first | rfl | omega | (split <;> omega) | ((simp only [Lsa.aged]); (first | rfl | omega | (split <;> omega)))) | fail "no"
  k_with "dat" => first | (first | exact DatIn.none | exact DatIn.bool _ | with_reducible assumption | (refine dat_int ?_; k_extra "inteq") | exact DatIn.str _ _ | (refine' DatIn.mono ?hsq5 ?hdq5; (case hdq5 => with_reducible assumption); (case hsq5 => k_extra "sub")) | (refine' DatIn.tuple ?hmq5 ?hdq5; (case hmq5 => k_extra "mem"); (case hdq5 => k_extra "datall")) | (refine' DatIn.list ?hmq5 ?hdq5; (case hmq5 => k_extra "mem"); (case hdq5 => k_extra "datall")) | (refine' DatIn.mono ?hsq5 ?hdq5; (case hdq5 => assumption); (case hsq5 => k_extra "sub"))) | fail "no"
  k_with "datall" => first | (first | exact DatAll.nil | (refine' DatAll.cons ?_ ?_; (next => k_extra "dat"); (next => k_extra "datall")) | (refine' datAll_mono ?hsq6 ?hdq6; (case hdq6 => with_reducible assumption); (case hsq6 => k_extra "sub")) | k_extra "datallx") | fail "no"
  k_with "room" => first | (((try simp only [depth_under_make, depth_under_kw, depth_in1, depth_deeper, depth_caller]); (try dsimp only); first | omega | ktr_room)) | fail "no"
  k_with "units" => first | (((try simp only [units_in1, units_deeper, Around.mark_units, units_caller]); (try dsimp only); first | omega | ktr_units)) | fail "no"
  k_with "subscriptTail Name Slice ref ref" => first | ((k_here; k_dflt (refine' tup_from1 ?Fq9 ?Nq9 ?lq9 ?_ ?sq9 ?tq9 ?zq9; (case Fq9 => k_asm); (case Nq9 => k_asm); (case lq9 => k_extra "mem"); (case sq9 => with_unfolding_all rfl); (case tq9 => (intro _; with_unfolding_all rfl)); (case zq9 => exact Nat.le_of_ble_eq_true rfl)); intro D' h' F' N' l1; (try k_sweep))) | fail "no"
  k_with "binaryOp Add ref ref" => first | ((k_here; k_dflt (refine' tup_add ?Fq10 ?Nq10 ?lq10 ?rq10 ?_ ?zq10; (case Fq10 => k_asm); (case Nq10 => k_asm); (case lq10 => k_extra "mem"); (case rq10 => k_extra "mem"); (case zq10 => exact Nat.le_of_ble_eq_true rfl)); intro D' h' F' N' l1; (try dsimp only [List.cons_append, List.nil_append] at N'); (try k_sweep))) | fail "no"
  k_with "kok" => first | (first | exact ok_cont _ _ | exact ok_head _ _ | exact ok_key _ _ | exact ok_lsa _ _) | fail "no"
  k_with "compareOp NotEq ref" => first | ((k_here; k_dflt (refine' dat_cmp_ne ?Nq12 ?aq12 ?bq12 ?kaq12 ?kbq12 ?huq12 ?_; (case Nq12 => k_asm); (case aq12 => k_extra "dat"); (case bq12 => k_extra "dat"); (case kaq12 => k_extra "kok"); (case kbq12 => k_extra "kok"); (case huq12 => ktr_units)))) | fail "no"
  k_with "ctr ends" => first | (( (case Bq13 => k_asm); (case Fq13 => k_asm); (case Xq13 => k_asm); (case Nq13 => k_asm); (case Tq13 => k_asm); (case hkq13 => first | exact rfl | assumption); (case hdq13 => ktr_room); (case huq13 => ktr_units))) | fail "no"
  k_with "call ref" => first | ((k_here; k_dflt (refine' Ctr.use (aged_head_c _ _ _ _ _ _ ?hDq14) ?Bq14 ?Fq14 ?Xq14 ?Nq14 ?Tq14 ?hkq14 ?hdq14 ?huq14 ?_; (case Bq14 => k_asm); (case Fq14 => k_asm); (case Xq14 => k_asm); (case Nq14 => k_asm); (case Tq14 => k_asm); (case hDq14 => k_extra "dat"); (case hkq14 => first | exact rfl | assumption); (case hdq14 => k_extra "room"); (case huq14 => k_extra "units"); k_whole; intro r' news' h' tk' F' N' P'; obtain ⟨⟨tl', e'⟩, d'⟩ := P'; subst e'); (try dsimp only); (try k_fold))) | fail "no"
  k_with "call ref" => first | ((k_here; k_dflt (refine' Ctr.use (key_of_c _ _ _ _ ?hDq15) ?Bq15 ?Fq15 ?Xq15 ?Nq15 ?Tq15 ?hkq15 ?hdq15 ?huq15 ?_; (case Bq15 => k_asm); (case Fq15 => k_asm); (case Xq15 => k_asm); (case Nq15 => k_asm); (case Tq15 => k_asm); (case hDq15 => k_extra "dat"); (case hkq15 => first | exact rfl | assumption); (case hdq15 => k_extra "room"); (case huq15 => k_extra "units"); k_whole; intro r' news' h' tk' F' N' P'; obtain ⟨⟨tl', e'⟩, d'⟩ := P'; subst e'); (try dsimp only); (try k_fold))) | fail "no"
  k_with "call ref" => first | ((k_here; k_dflt (refine' Ctr.use (aged_c _ _ _ _ _ _ ?hDq16) ?Bq16 ?Fq16 ?Xq16 ?Nq16 ?Tq16 ?hkq16 ?hdq16 ?huq16 ?_; (case Bq16 => k_asm); (case Fq16 => k_asm); (case Xq16 => k_asm); (case Nq16 => k_asm); (case Tq16 => k_asm); (case hDq16 => k_extra "dat"); (case hkq16 => first | exact rfl | assumption); (case hdq16 => k_extra "room"); (case huq16 => k_extra "units"); k_whole; intro r' news' h' tk' F' N' P'; obtain ⟨⟨tl', e'⟩, d'⟩ := P'; subst e'); (try dsimp only); (try k_fold))) | fail "no"
  k_with "call ref" => first | ((k_here; k_dflt (refine' Ctr.use (newer_of_c _ _ _ _ _ _ ?hDq17 ?hEq17) ?Bq17 ?Fq17 ?Xq17 ?Nq17 ?Tq17 ?hkq17 ?hdq17 ?huq17 ?_; (case Bq17 => k_asm); (case Fq17 => k_asm); (case Xq17 => k_asm); (case Nq17 => k_asm); (case Tq17 => k_asm); (case hDq17 => k_extra "dat"); (case hEq17 => k_extra "dat"); (case hkq17 => first | exact rfl | assumption); (case hdq17 => k_extra "room"); (case huq17 => k_extra "units"); k_whole; intro r' news' h' tk' F' N' P'; obtain ⟨⟨tl', e'⟩, d'⟩ := P'; subst e'; cases d'); (try dsimp only); (try k_fold))) | fail "no"
  k_with "call ref" => first | ((k_here; k_dflt (refine' Ctr.use (is_changed_c _ _ _ _ _ _ ?hDq18 ?hEq18) ?Bq18 ?Fq18 ?Xq18 ?Nq18 ?Tq18 ?hkq18 ?hdq18 ?huq18 ?_; (case Bq18 => k_asm); (case Fq18 => k_asm); (case Xq18 => k_asm); (case Nq18 => k_asm); (case Tq18 => k_asm); (case hDq18 => k_extra "dat"); (case hEq18 => k_extra "dat"); (case hkq18 => first | exact rfl | assumption); (case hdq18 => k_extra "room"); (case huq18 => k_extra "units"); k_whole; intro r' news' h' tk' F' N' P'; obtain ⟨⟨tl', e'⟩, d'⟩ := P'; subst e'; cases d'); (try dsimp only); (try k_fold))) | fail "no"
  k_with "call ref" => first | ((k_here; k_dflt (refine' Ctr.use (look_c _ _ _ _ _ _ _ _ _ ?hoq19 ?hdbq19 ?hk0q19) ?Bq19 ?Fq19 ?Xq19 ?Nq19 ?Tq19 ?hkq19 ?hdq19 ?huq19 ?_; (case Bq19 => k_asm); (case Fq19 => k_asm); (case Xq19 => k_asm); (case Nq19 => k_asm); (case Tq19 => k_asm); (case hk0q19 => k_extra "dat"); (case hoq19 => k_extra "obj"); (case hdbq19 => k_extra "db"); (case hkq19 => first | exact rfl | assumption); (case hdq19 => k_extra "room"); (case huq19 => k_extra "units"); k_whole; intro r' news' h' tk' F' N' P'; obtain ⟨⟨tl', e'⟩, d'⟩ := P'; subst e'); (try dsimp only); (try k_fold))) | fail "no"
  k_with "call ref" => first | ((k_here; k_dflt (refine' Ctr.use (keys_c _ _ _ _ _ ?hoq20 ?hdbq20) ?Bq20 ?Fq20 ?Xq20 ?Nq20 ?Tq20 ?hkq20 ?hdq20 ?huq20 ?_; (case Bq20 => k_asm); (case Fq20 => k_asm); (case Xq20 => k_asm); (case Nq20 => k_asm); (case Tq20 => k_asm); (case hoq20 => k_extra "obj"); (case hdbq20 => k_extra "db"); (case hkq20 => first | exact rfl | assumption); (case hdq20 => k_extra "room"); (case huq20 => k_extra "units"); k_whole; intro r' news' h' tk' F' N' P'; obtain ⟨⟨tl', e'⟩, d'⟩ := P'; subst e'; obtain ⟨la', vs', n', e', hm', da'⟩ := listD_open d'; subst e'); (try dsimp only); (try k_fold))) | fail "no"
  k_with "call ref" => first | ((k_here; k_dflt (refine' Ctr.use (rows_c _ _ _ _ _ _ _ ?hoq21 ?hdbq21) ?Bq21 ?Fq21 ?Xq21 ?Nq21 ?Tq21 ?hkq21 ?hdq21 ?huq21 ?_; (case Bq21 => k_asm); (case Fq21 => k_asm); (case Xq21 => k_asm); (case Nq21 => k_asm); (case Tq21 => k_asm); (case hoq21 => k_extra "obj"); (case hdbq21 => k_extra "db"); (case hkq21 => first | exact rfl | assumption); (case hdq21 => k_extra "room"); (case huq21 => k_extra "units"); k_whole; intro r' news' h' tk' F' N' P'; obtain ⟨⟨tl', e'⟩, d'⟩ := P'; subst e'; obtain ⟨la', vs', n', e', hm', da'⟩ := listD_open d'; subst e'); (try dsimp only); (try k_fold))) | fail "no"
  k_with "db" => first | (first | with_reducible assumption | (refine' DbIs.sub ?hsq22 ?hdq22; (case hdq22 => with_reducible assumption); (case hsq22 => k_extra "sub"))) | fail "no"
  k_with "compareOp NotIn" => first | ((k_here; (with_reducible show wpAny _ _ (compareOp CmpOp.NotIn (Value.ref _) (Value.ref _)) _ _ _); k_dflt (first | (refine' rows_notIn_some ?Nq23 ?dq23 ?kq23 ?uq23 ?bq23 ?_; (case Nq23 => k_asm); (case dq23 => k_extra "db"); (case kq23 => k_extra "dat"); (case uq23 => ktr_units); (case bq23 => with_reducible assumption)) | (refine' rows_notIn_none ?Nq23 ?dq23 ?kq23 ?uq23 ?bq23 ?_; (case Nq23 => k_asm); (case dq23 => k_extra "db"); (case kq23 => k_extra "dat"); (case uq23 => ktr_units); (case bq23 => with_reducible assumption))); intro tk')) | fail "no"
  k_with "subscriptTail" => first | ((k_here; (with_reducible show wpAny _ _ (subscriptTail _ _ (Value.ref _) (Value.ref _)) _ _ _); k_dflt (refine' rows_item ?Nq24 ?dq24 ?kq24 ?uq24 ?rq24 ?_ ?sq24 ?gq24; (case Nq24 => k_asm); (case dq24 => k_extra "db"); (case kq24 => k_extra "dat"); (case uq24 => ktr_units); (case rq24 => with_reducible assumption); (case sq24 => with_unfolding_all rfl); (case gq24 => (intro _; with_unfolding_all rfl))); intro v' tk' dv'; k_dflt (obtain ⟨a', n', lv', t', e', hm', dl'⟩ := rvD_open dv'; subst e'))) | fail "no"
  k_with "obj" => first | (first | with_reducible assumption | (refine' dbObj_sub ?hsq25 ?hdq25; (case hdq25 => with_reducible assumption); (case hsq25 => k_extra "sub")) | (refine' ⟨_, _, _, _, ?m1q25, ?m2q25⟩; (case m1q25 => k_extra "mem"); (case m2q25 => k_extra "mem"))) | fail "no"
  k_with "call builtin:sorted" => first | ((k_here; (with_reducible show wpAny _ _ (call (Value.builtin "sorted") [Value.ref _]) _ _ _); k_dflt (refine' rows_sorted ?hhq26 ?Fq26 ?Nq26 ?dq26 ?_; (case hhq26 => rfl); (case Fq26 => k_asm); (case Nq26 => k_asm); (case dq26 => k_extra "db")); intro B' h' c' tk' vs' F' N' l1 dv')) | fail "no"
  k_with "eval ListComp" => first | ((k_here; k_dflt (refine' lc_eval ?Fq27 ?c1q27 ?c2q27 ?c3q27 ?c4q27 ?c5q27 ?_; (case Fq27 => k_asm); (case c1q27 => with_unfolding_all rfl); (case c2q27 => decide); (case c3q27 => rfl); (case c4q27 => decide); (case c5q27 => rfl)))) | fail "no"
  k_with "exec Assign cons ListComp" => first | ((k_here; k_dflt (refine' lc_assign ?Fq28 ?c0q28 ?cwq28 ?c1q28 ?c2q28 ?c3q28 ?c4q28 ?c5q28 ?c6q28 ?c7q28 ?_; (case Fq28 => k_asm); (case c0q28 => rfl); (case cwq28 => with_unfolding_all rfl); (case c1q28 => with_unfolding_all rfl); (case c2q28 => decide); (case c3q28 => rfl); (case c4q28 => decide); (case c5q28 => rfl); (case c6q28 => rfl); (case c7q28 => rfl)))) | fail "no"
  k_with "exec For Name Call cons nil" => first | ((k_here; (rename Fr _ _ _ _ => lF'); (with_unfolding_all refine' for_my lF' ?k1q29 ?k2q29 ?_; (case k1q29 => exact rfl); (case k2q29 => exact rfl); k_whole))) | fail "no"
  k_with "exec For Name Name cons nil" => first | ((k_here; (rename Fr _ _ _ _ => lF'); (with_unfolding_all refine' for_my lF' ?k1q30 ?k2q30 ?_; (case k1q30 => exact rfl); (case k2q30 => exact rfl); k_whole))) | fail "no"
  k_with "exec For Name Attribute cons nil" => first | ((k_here; (rename Fr _ _ _ _ => lF'); (with_unfolding_all refine' for_my lF' ?k1q31 ?k2q31 ?_; (case k1q31 => exact rfl); (case k2q31 => exact rfl); k_whole))) | fail "no"
  k_with "call builtin:list.append" => first | ((k_here; k_dflt (refine' append_my ?Fq32 ?Nq32 ?mq32 ?zq32 ?_; (case Fq32 => k_asm); (case Nq32 => k_asm); (case mq32 => k_extra "mem"); (case zq32 => assumption); k_whole; intro h' F' N'); (try dsimp only); (try k_fold))) | fail "no"
  k_with "datp" => first | (first | with_reducible assumption | ((with_reducible refine' DatIn.mono (fun p hp => List.mem_cons_of_mem _ hp) ?peq33); (case peq33 => k_extra "datp")) | ((with_reducible refine' DatIn.mono (fun p hp => List.mem_append_right _ hp) ?peq33); (case peq33 => k_extra "datp")) | (refine' Ext.dat ?eq33 ?hq33 ?nq33; (case eq33 => with_reducible assumption); (case hq33 => k_extra "datp"); (case nq33 => first | exact optD_noList _ | rfl))) | fail "no"
  k_with "dat" => first | (first | with_reducible exact DatIn.int _ _ | k_extra "datp" | (refine' DatIn.tuple ?hmq34 ?hdq34; (case hmq34 => k_extra "mem"); (case hdq34 => k_extra "datall"))) | fail "no"
  k_with "dbp" => first | (first | with_reducible assumption | ((with_reducible refine' DbIs.sub (fun p hp => List.mem_cons_of_mem _ hp) ?peq35); (case peq35 => k_extra "dbp")) | ((with_reducible refine' DbIs.sub (fun p hp => List.mem_append_right _ hp) ?peq35); (case peq35 => k_extra "dbp")) | (refine' Ext.other ?eq35 _ _ _ ?nq35 ?hq35; (case eq35 => with_reducible assumption); (case hq35 => k_extra "dbp"); (case nq35 => first | assumption | simp; done | (simp; assumption)))) | fail "no"
  k_with "db" => first | (k_extra "dbp") | fail "no"
  k_with "objp" => first | (first | with_reducible assumption | ((with_reducible refine' dbObj_sub (fun p hp => List.mem_cons_of_mem _ hp) ?peq37); (case peq37 => k_extra "objp")) | ((with_reducible refine' dbObj_sub (fun p hp => List.mem_append_right _ hp) ?peq37); (case peq37 => k_extra "objp")) | (refine' Ext.obj ?eq37 _ _ ?hq37; (case eq37 => with_reducible assumption); (case hq37 => k_extra "objp"))) | fail "no"
  k_with "obj" => first | (k_extra "objp") | fail "no"
  k_with "kin" => first | (first | assumption | (show Lsa.key _ ∈ _; assumption)) | fail "no"
  k_with "kkk" => first | (first | rfl | assumption) | fail "no"
  k_with "setItem ref" => first | ((k_here; (with_reducible show wpAny _ _ (setItem (Value.ref _) _ _) _ _ _); k_dflt (refine' rows_set2 ?Fq41 ?Nq41 ?dbq41 ?hvq41 ?hkq41 ?hkkq41 ?hrq41 ?huq41 ?_; (case Fq41 => k_asm); (case Nq41 => k_asm); (case dbq41 => k_extra "db"); (case hvq41 => k_extra "dat"); (case hkq41 => k_extra "dat"); (case hkkq41 => k_extra "kkk"); (case hrq41 => k_extra "kin"); (case huq41 => k_extra "units"); intro h' news' tk' F' N' e' db'); (try dsimp only); (try k_fold))) | fail "no"
  k_with "getMethod ref" => first | ((k_here; k_dflt (refine' rows_pop_meth ?Nq42 ?dbq42 ?_; (case Nq42 => k_asm); (case dbq42 => k_extra "db")))) | fail "no"
  k_with "call builtin:dict.pop" => first | ((k_here; k_dflt (first | (refine' rows_pop_some ?Fq43 ?Nq43 ?dbq43 ?hkq43 ?hrq43 ?huq43 ?_; (case Fq43 => k_asm); (case Nq43 => k_asm); (case dbq43 => k_extra "db"); (case hkq43 => k_extra "dat"); (case hrq43 => with_reducible assumption); (case huq43 => k_extra "units"); intro x' h' news' tk' F' N' e' db' dx'; obtain ⟨ax', ex'⟩ := tup_ref dx'; subst ex') | (refine' rows_pop_none ?Nq43 ?dbq43 ?hkq43 ?hrq43 ?huq43 ?_; (case Nq43 => k_asm); (case dbq43 => k_extra "db"); (case hkq43 => k_extra "dat"); (case hrq43 => with_reducible assumption); (case huq43 => k_extra "units"); intro tk')); (try dsimp only); (try k_fold))) | fail "no"
  k_with "subscriptTail" => first | ((k_here; (with_reducible show wpAny _ _ (subscriptTail _ _ (Value.ref _) (Value.int _ _)) _ _ _); k_dflt (refine' litem ?Nq44 ?mq44 ?aq44 ?bq44 ?vq44 ?_ ?sq44; (case Nq44 => k_asm); (case mq44 => k_extra "mem"); (case aq44 => first | decide | omega); (case bq44 => first | decide | omega); (case vq44 => first | exact rfl | assumption); (case sq44 => with_unfolding_all rfl); k_whole))) | fail "no"
  k_with "setItem ref int" => first | ((k_here; k_dflt (refine' lset ?Fq45 ?Nq45 ?mq45 ?aq45 ?bq45 ?cq45 ?_; (case Fq45 => k_asm); (case Nq45 => k_asm); (case mq45 => k_extra "mem"); (case aq45 => first | decide | omega); (case bq45 => first | decide | omega); (case cq45 => first | decide | omega | ((simp only [List.length_cons, List.length_nil]); omega)); k_whole; intro h' news' F' N' e' hm' kp'); (try dsimp only); (try k_fold))) | fail "no"
  k_with "call builtin:len" => first | ((k_here; (with_reducible show wpAny _ _ (call (Value.builtin "len") [Value.ref _]) _ _ _); k_dflt (refine' llen ?Nq46 ?mq46 ?fq46 ?_; (case Nq46 => k_asm); (case mq46 => k_extra "mem"); (case fq46 => first | decide | omega | ((simp only [List.length_cons, List.length_nil]); omega)); k_whole))) | fail "no"
  trivial
/-- the pool of drawn numbers at pa -/
def PoolIs (news : Led) (pa : Addr) : Prop := ∃ (la : Addr) (vs : List Value) (ns : List Int) (c : Int) (t : Tok) (n n2 : Nat), (pa, W.listOf #[.ref la, .int c t] n) ∈ news ∧ (la, W.listOf vs.toArray n2) ∈ news ∧ la ≠ pa ∧ IntsAre vs ns ∧ 0 ≤ c ∧ ns.length ≤ 56
structure DrawP (news : Led) (pa : Addr) (many : Int) (r : Value) (news' : Led) : Prop where
  ext : Ext [pa] [] news news'
  pool : PoolIs news' pa
  res : ∃ v t, r = .int v t ∧ 0 ≤ v ∧ v < many
theorem drawn_c (w : World) (news : Led) (pa : Addr) (many : Int) (tm : Tok) (hP : PoolIs news pa) (hm : 1 ≤ many) :
   Ctr PR w (hd.heap_39 w.params) 163 3 300 [.ref pa, .int many tm] news (DrawP news pa many) := by
  unfold Ctr
  obtain ⟨la, vs, ns, c, t, n, n2, hp, hl, hne, hi, hc, hlen⟩ := hP
  have hvl : vs.length ≤ 56 := ints_len hi ▸ hlen
  have hm0 : 0 < many := by omega
  intros
  rename_i hret
  refine wpAny_call ?_
  walk_at "my enter"
  k_steps
  rename ∀ (p : Addr × Obj), p ∈ news → p.fst ≠ pa → p ∈ _ => kp
  rename (pa, W.listOf (List.toArray (List.set _ _ _)) _) ∈ _ => hpa
  have hl2 := kp _ hl hne
  by_cases hB : c + 1 ≤ vs.length
  · obtain ⟨z, tz, hz⟩ := ints_get hi (k := (c + 1 - 1).toNat) (by omega)
    k_steps
    exact hret _ _ _ _ (by k_asm) (by k_asm) ⟨by assumption, ⟨la, vs, ns, c + 1, _, n, n2, hpa, hl2, hne, hi, by omega, hlen⟩, _, _, rfl, Int.fmod_nonneg_of_pos _ hm0, Int.fmod_lt_of_pos _ hm0⟩
  · k_steps
    exact hret _ _ _ _ (by k_asm) (by k_asm) ⟨by assumption, ⟨la, vs, ns, c + 1, _, n, n2, hpa, hl2, hne, hi, by omega, hlen⟩, _, _, rfl, Int.fmod_nonneg_of_pos _ hm0, Int.fmod_lt_of_pos _ hm0⟩
end
section
example : True := by
  k_with_none
  trivial
theorem XsAre.mono2 {news news' : Led} (ht : ∀ p ∈ news, (∃ vs n, p.2 = tupO vs n) → p ∈ news') : ∀ {xs D}, XsAre news xs D → XsAre news' xs D
  | _, _, .nil => .nil
  | _, _, .cons a b c => .cons (DatIn.upO ht rfl a) (DatIn.upO ht rfl b) (c.mono2 ht)
/-- a ledger whose junk entries go again -/
theorem Ext.off {h₀ h : Heap} {L : Addr} {P W : List Addr} {base ns all : Led} {q : Addr × Obj → Bool} (N : News h₀ L h all) (e : Ext P W base all) (hs : ∀ p ∈ ns, p ∈ base) (hq : ∀ p ∈ ns, ∀ o, q (p.1, o) = true) (ht : ∀ p ∈ all, (∃ vs n, p.2 = tupO vs n) → p ∈ all.filter q) : Ext P W ns (all.filter q) where
  tup := fun p hp hc => List.mem_filter.mpr ⟨e.tup p (hs p hp) hc, hq p hp p.2⟩
  inst := fun p hp hc => List.mem_filter.mpr ⟨e.inst p (hs p hp) hc, hq p hp p.2⟩
  lst := fun p hp hc hn => List.mem_filter.mpr ⟨e.lst p (hs p hp) hc hn, hq p hp p.2⟩
  tab := fun p hp hc hn => List.mem_filter.mpr ⟨e.tab p (hs p hp) hc hn, hq p hp p.2⟩
  kept := fun p hp h1 h2 => List.mem_filter.mpr ⟨e.kept p (hs p hp) h1 h2, hq p hp p.2⟩
  obj := by
    rintro x d ⟨dx, hh, t, n, a, b⟩
    obtain ⟨dx', hh', t', n', a', b'⟩ := e.obj x d ⟨dx, hh, t, n, hs _ a, hs _ b⟩
    have a2 := e.inst _ (hs _ a) rfl
    have e1 := (N.get a').symm.trans (N.get a2)
    have e2 : dx' = dx := by
      have := congrArg (fun o : Option Obj => match o with | some o => o.dict | _ => none) e1
      simpa [instObj] using this
    subst e2
    exact ⟨dx', hh', t', n', List.mem_filter.mpr ⟨a', hq _ a _⟩, List.mem_filter.mpr ⟨b', hq _ b _⟩⟩
  other := by
    rintro w d D hd ⟨xs, n, a, b⟩
    obtain ⟨xs', n', a', b', c'⟩ := e.other w d D hd (DbIs.sub hs ⟨xs, n, a, b⟩)
    refine ⟨xs', n', List.mem_filter.mpr ⟨a', hq _ a _⟩, ?_, c'⟩
    exact b'.mono2 ht
end
section
/-- what a call tells by a key -/
def TellsBy (w : World) (news : Led) (fa : Addr) (ow : Key → Bool) : Prop :=
  ∀ ns kv k, (∀ p ∈ news, p ∈ ns) → DatIn ns kv (keyD k) → Ctr PR w (hd.heap_39 w.params) fa 2 100 [kv] ns (PureD ns (.bool (ow k)))
theorem TellsBy.ctr {w : World} {news ns : Led} {fa : Addr} {ow : Key → Bool} {kv : Value} {k : Key} (hf : TellsBy w news fa ow) (hs : ∀ p ∈ news, p ∈ ns) (hk : DatIn ns kv (keyD k)) : Ctr PR w (hd.heap_39 w.params) fa 2 100 [kv] ns (PureD ns (.bool (ow k))) := hf ns kv k hs hk
def goneKeys (ow : Key → Bool) (D : List Rw) (now : Int) : List Key := (((rowsAt D now).filter ended?).map Lsa.key).filter fun k => !ow k
def dropAll (D : List Rw) (ks : List Key) : List Rw := ks.foldl dropRow D
structure SweptP (w : World) (news : Led) (d : Addr) (D' : List Rw) (ks : List Key) (r : Value) (news' : Led) : Prop where
  ext : Ext [] [d] news news'
  db : DbIs w news' d D'
  res : DatIn news' r (.list (ks.map keyD))
  fresh : ∃ a, r = .ref a ∧ ∀ p ∈ news, p.1 ≠ a
theorem fm_not (ow : Key → Bool) : ∀ l : List Lsa, (l.map fun l => keyD l.key).filterMap (fun d => if ow (keyOf d) = true then none else some d) = ((l.map Lsa.key).filter fun k => !ow k).map keyD
  | [] => rfl
  | l :: r => by
    rw [List.map_cons, List.filterMap_cons, List.map_cons, List.filter_cons]
    rw [show keyOf (keyD l.key) = l.key from rfl]
    cases ow l.key
    · simp only [Bool.false_eq_true, if_false, Bool.not_false, if_true, List.map_cons]
      rw [fm_not ow r]
    · simp only [if_true, Bool.not_true, Bool.false_eq_true, if_false]
      exact fm_not ow r
end
section
example : True := by
  k_with_none
  k_with "my enter" => first | (k_dflt (first | (refine' code_def ?k1q0 ?k2q0 ?k3q0 ?k4q0 ?k5q0 ?kAq0 ?kFq0 ?kKq0 ?k6q0 ?k7q0 ?k8q0 ?k9q0 ?kBq0 ?_ ?c2q0 ?c3q0 ?c4q0 ?c5q0; (case kAq0 => exact rfl); (case kFq0 => exact rfl); (case kKq0 => assumption); (case k1q0 => k_asm); (case k2q0 => k_asm); (case k3q0 => k_asm); (case k4q0 => k_asm); (case k5q0 => k_asm); (case k6q0 => k_is); (case k7q0 => k_is); (case k8q0 => ktr_room); (case k9q0 => first | exact BindsTo.of_eq rfl | exact binds_K (by k_in) rfl (by k_is) rfl rfl rfl); (case c5q0 => decide); (case kBq0 => exact locs rfl); (case c2q0 => exact rfl); (case c3q0 => exact rfl); (case c4q0 => exact rfl); k_whole; intro g' L' h' FG' F' N' B' X' T'; (try dsimp only); (try k_lift B'); (try k_fold)) | (refine' code_defC ?k1q0 ?k2q0 ?k3q0 ?k4q0 ?k5q0 ?kAq0 ?kFq0 ?kKq0 ?k6q0 ?k7q0 ?k8q0 ?k9q0 ?kBq0 ?kDq0 ?_ ?c2q0 ?c3q0 ?c4q0; (case kAq0 => exact rfl); (case kFq0 => exact rfl); (case kKq0 => assumption); (case k1q0 => k_asm); (case k2q0 => k_asm); (case k3q0 => k_asm); (case k4q0 => k_asm); (case k5q0 => k_asm); (case k6q0 => k_is); (case k7q0 => k_is); (case k8q0 => ktr_room); (case k9q0 => first | exact BindsTo.of_eq rfl | exact binds_K (by k_in) rfl (by k_is) rfl rfl rfl); (case kBq0 => exact rfl); (case kDq0 => decide +kernel); (case c2q0 => exact rfl); (case c3q0 => exact rfl); (case c4q0 => exact rfl); k_whole; intro g' L' h' tk' cells' FG' F' N' Y' B' X' T' l1; (try k_lt l1); k_cells Y'; (try simp only [List.cons_append, List.nil_append] at N'); (try dsimp only); (try k_lift B'); (try k_fold)))) | fail "no"
  k_with "mem" => first | (first | with_reducible assumption | exact List.Mem.head _ | ((with_reducible refine List.mem_cons_of_mem _ ?_); k_extra "mem") | ((with_reducible refine List.mem_append_right _ ?_); k_extra "mem") | k_extra "memx") | fail "no"
  k_with "sub" => first | (first | with_reducible exact fun _ h => h | ((with_reducible refine fun p h => List.mem_cons_of_mem _ ?_); revert p h; k_extra "sub") | ((with_reducible refine fun p h => List.mem_append_right _ ?_); revert p h; k_extra "sub") | with_reducible assumption) | fail "no"
  k_with "suf" => first | (first | with_reducible exact List.suffix_refl _ | ((with_reducible refine List.IsSuffix.trans ?_ (List.suffix_cons _ _)); k_extra "suf") | ((with_reducible refine List.IsSuffix.trans ?_ (List.suffix_append _ _)); k_extra "suf")) | fail "no"
  k_with "inteq" => first | (first | rfl | omega | (split <;> omega) | ((simp only [Lsa.aged]); (first | rfl | omega | (split <;> omega)))) | fail "no"
  k_with "dat" => first | (first | exact DatIn.none | exact DatIn.bool _ | with_reducible assumption | (refine dat_int ?_; k_extra "inteq") | exact DatIn.str _ _ | (refine' DatIn.mono ?hsq5 ?hdq5; (case hdq5 => with_reducible assumption); (case hsq5 => k_extra "sub")) | (refine' DatIn.tuple ?hmq5 ?hdq5; (case hmq5 => k_extra "mem"); (case hdq5 => k_extra "datall")) | (refine' DatIn.list ?hmq5 ?hdq5; (case hmq5 => k_extra "mem"); (case hdq5 => k_extra "datall")) | (refine' DatIn.mono ?hsq5 ?hdq5; (case hdq5 => assumption); (case hsq5 => k_extra "sub"))) | fail "no"
  k_with "datall" => first | (first | exact DatAll.nil | (refine' DatAll.cons ?_ ?_; (next => k_extra "dat"); (next => k_extra "datall")) | (refine' datAll_mono ?hsq6 ?hdq6; (case hdq6 => with_reducible assumption); (case hsq6 => k_extra "sub")) | k_extra "datallx") | fail "no"
  k_with "room" => first | (((try simp only [depth_under_make, depth_under_kw, depth_in1, depth_deeper, depth_caller]); (try dsimp only); first | omega | ktr_room)) | fail "no"
  k_with "units" => first | (((try simp only [units_in1, units_deeper, Around.mark_units, units_caller]); (try dsimp only); first | omega | ktr_units)) | fail "no"
  k_with "subscriptTail Name Slice ref ref" => first | ((k_here; k_dflt (refine' tup_from1 ?Fq9 ?Nq9 ?lq9 ?_ ?sq9 ?tq9 ?zq9; (case Fq9 => k_asm); (case Nq9 => k_asm); (case lq9 => k_extra "mem"); (case sq9 => with_unfolding_all rfl); (case tq9 => (intro _; with_unfolding_all rfl)); (case zq9 => exact Nat.le_of_ble_eq_true rfl)); intro D' h' F' N' l1; (try k_sweep))) | fail "no"
  k_with "binaryOp Add ref ref" => first | ((k_here; k_dflt (refine' tup_add ?Fq10 ?Nq10 ?lq10 ?rq10 ?_ ?zq10; (case Fq10 => k_asm); (case Nq10 => k_asm); (case lq10 => k_extra "mem"); (case rq10 => k_extra "mem"); (case zq10 => exact Nat.le_of_ble_eq_true rfl)); intro D' h' F' N' l1; (try dsimp only [List.cons_append, List.nil_append] at N'); (try k_sweep))) | fail "no"
  k_with "kok" => first | (first | exact ok_cont _ _ | exact ok_head _ _ | exact ok_key _ _ | exact ok_lsa _ _) | fail "no"
  k_with "compareOp NotEq ref" => first | ((k_here; k_dflt (refine' dat_cmp_ne ?Nq12 ?aq12 ?bq12 ?kaq12 ?kbq12 ?huq12 ?_; (case Nq12 => k_asm); (case aq12 => k_extra "dat"); (case bq12 => k_extra "dat"); (case kaq12 => k_extra "kok"); (case kbq12 => k_extra "kok"); (case huq12 => ktr_units)))) | fail "no"
  k_with "ctr ends" => first | (( (case Bq13 => k_asm); (case Fq13 => k_asm); (case Xq13 => k_asm); (case Nq13 => k_asm); (case Tq13 => k_asm); (case hkq13 => first | exact rfl | assumption); (case hdq13 => ktr_room); (case huq13 => ktr_units))) | fail "no"
  k_with "call ref" => first | ((k_here; k_dflt (refine' Ctr.use (aged_head_c _ _ _ _ _ _ ?hDq14) ?Bq14 ?Fq14 ?Xq14 ?Nq14 ?Tq14 ?hkq14 ?hdq14 ?huq14 ?_; (case Bq14 => k_asm); (case Fq14 => k_asm); (case Xq14 => k_asm); (case Nq14 => k_asm); (case Tq14 => k_asm); (case hDq14 => k_extra "dat"); (case hkq14 => first | exact rfl | assumption); (case hdq14 => k_extra "room"); (case huq14 => k_extra "units"); k_whole; intro r' news' h' tk' F' N' P'; obtain ⟨⟨tl', e'⟩, d'⟩ := P'; subst e'); (try dsimp only); (try k_fold))) | fail "no"
  k_with "call ref" => first | ((k_here; k_dflt (refine' Ctr.use (key_of_c _ _ _ _ ?hDq15) ?Bq15 ?Fq15 ?Xq15 ?Nq15 ?Tq15 ?hkq15 ?hdq15 ?huq15 ?_; (case Bq15 => k_asm); (case Fq15 => k_asm); (case Xq15 => k_asm); (case Nq15 => k_asm); (case Tq15 => k_asm); (case hDq15 => k_extra "dat"); (case hkq15 => first | exact rfl | assumption); (case hdq15 => k_extra "room"); (case huq15 => k_extra "units"); k_whole; intro r' news' h' tk' F' N' P'; obtain ⟨⟨tl', e'⟩, d'⟩ := P'; subst e'); (try dsimp only); (try k_fold))) | fail "no"
  k_with "call ref" => first | ((k_here; k_dflt (refine' Ctr.use (aged_c _ _ _ _ _ _ ?hDq16) ?Bq16 ?Fq16 ?Xq16 ?Nq16 ?Tq16 ?hkq16 ?hdq16 ?huq16 ?_; (case Bq16 => k_asm); (case Fq16 => k_asm); (case Xq16 => k_asm); (case Nq16 => k_asm); (case Tq16 => k_asm); (case hDq16 => k_extra "dat"); (case hkq16 => first | exact rfl | assumption); (case hdq16 => k_extra "room"); (case huq16 => k_extra "units"); k_whole; intro r' news' h' tk' F' N' P'; obtain ⟨⟨tl', e'⟩, d'⟩ := P'; subst e'); (try dsimp only); (try k_fold))) | fail "no"
  k_with "call ref" => first | ((k_here; k_dflt (refine' Ctr.use (newer_of_c _ _ _ _ _ _ ?hDq17 ?hEq17) ?Bq17 ?Fq17 ?Xq17 ?Nq17 ?Tq17 ?hkq17 ?hdq17 ?huq17 ?_; (case Bq17 => k_asm); (case Fq17 => k_asm); (case Xq17 => k_asm); (case Nq17 => k_asm); (case Tq17 => k_asm); (case hDq17 => k_extra "dat"); (case hEq17 => k_extra "dat"); (case hkq17 => first | exact rfl | assumption); (case hdq17 => k_extra "room"); (case huq17 => k_extra "units"); k_whole; intro r' news' h' tk' F' N' P'; obtain ⟨⟨tl', e'⟩, d'⟩ := P'; subst e'; cases d'); (try dsimp only); (try k_fold))) | fail "no"
  k_with "call ref" => first | ((k_here; k_dflt (refine' Ctr.use (is_changed_c _ _ _ _ _ _ ?hDq18 ?hEq18) ?Bq18 ?Fq18 ?Xq18 ?Nq18 ?Tq18 ?hkq18 ?hdq18 ?huq18 ?_; (case Bq18 => k_asm); (case Fq18 => k_asm); (case Xq18 => k_asm); (case Nq18 => k_asm); (case Tq18 => k_asm); (case hDq18 => k_extra "dat"); (case hEq18 => k_extra "dat"); (case hkq18 => first | exact rfl | assumption); (case hdq18 => k_extra "room"); (case huq18 => k_extra "units"); k_whole; intro r' news' h' tk' F' N' P'; obtain ⟨⟨tl', e'⟩, d'⟩ := P'; subst e'; cases d'); (try dsimp only); (try k_fold))) | fail "no"
  k_with "call ref" => first | ((k_here; k_dflt (refine' Ctr.use (look_c _ _ _ _ _ _ _ _ _ ?hoq19 ?hdbq19 ?hk0q19) ?Bq19 ?Fq19 ?Xq19 ?Nq19 ?Tq19 ?hkq19 ?hdq19 ?huq19 ?_; (case Bq19 => k_asm); (case Fq19 => k_asm); (case Xq19 => k_asm); (case Nq19 => k_asm); (case Tq19 => k_asm); (case hk0q19 => k_extra "dat"); (case hoq19 => k_extra "obj"); (case hdbq19 => k_extra "db"); (case hkq19 => first | exact rfl | assumption); (case hdq19 => k_extra "room"); (case huq19 => k_extra "units"); k_whole; intro r' news' h' tk' F' N' P'; obtain ⟨⟨tl', e'⟩, d'⟩ := P'; subst e'); (try dsimp only); (try k_fold))) | fail "no"
  k_with "call ref" => first | ((k_here; k_dflt (refine' Ctr.use (keys_c _ _ _ _ _ ?hoq20 ?hdbq20) ?Bq20 ?Fq20 ?Xq20 ?Nq20 ?Tq20 ?hkq20 ?hdq20 ?huq20 ?_; (case Bq20 => k_asm); (case Fq20 => k_asm); (case Xq20 => k_asm); (case Nq20 => k_asm); (case Tq20 => k_asm); (case hoq20 => k_extra "obj"); (case hdbq20 => k_extra "db"); (case hkq20 => first | exact rfl | assumption); (case hdq20 => k_extra "room"); (case huq20 => k_extra "units"); k_whole; intro r' news' h' tk' F' N' P'; obtain ⟨⟨tl', e'⟩, d'⟩ := P'; subst e'; obtain ⟨la', vs', n', e', hm', da'⟩ := listD_open d'; subst e'); (try dsimp only); (try k_fold))) | fail "no"
  k_with "call ref" => first | ((k_here; k_dflt (refine' Ctr.use (rows_c _ _ _ _ _ _ _ ?hoq21 ?hdbq21) ?Bq21 ?Fq21 ?Xq21 ?Nq21 ?Tq21 ?hkq21 ?hdq21 ?huq21 ?_; (case Bq21 => k_asm); (case Fq21 => k_asm); (case Xq21 => k_asm); (case Nq21 => k_asm); (case Tq21 => k_asm); (case hoq21 => k_extra "obj"); (case hdbq21 => k_extra "db"); (case hkq21 => first | exact rfl | assumption); (case hdq21 => k_extra "room"); (case huq21 => k_extra "units"); k_whole; intro r' news' h' tk' F' N' P'; obtain ⟨⟨tl', e'⟩, d'⟩ := P'; subst e'; obtain ⟨la', vs', n', e', hm', da'⟩ := listD_open d'; subst e'); (try dsimp only); (try k_fold))) | fail "no"
  k_with "call ref" => first | ((k_here; k_dflt (refine' Ctr.use (ended_c _ _ _ _ _ _ _ ?hoq22 ?hdbq22) ?Bq22 ?Fq22 ?Xq22 ?Nq22 ?Tq22 ?hkq22 ?hdq22 ?huq22 ?_; (case Bq22 => k_asm); (case Fq22 => k_asm); (case Xq22 => k_asm); (case Nq22 => k_asm); (case Tq22 => k_asm); (case hoq22 => k_extra "obj"); (case hdbq22 => k_extra "db"); (case hkq22 => first | exact rfl | assumption); (case hdq22 => k_extra "room"); (case huq22 => k_extra "units"); k_whole; intro r' news' h' tk' F' N' P'; obtain ⟨⟨tl', e'⟩, d'⟩ := P'; subst e'; obtain ⟨la', vs', n', e', hm', da'⟩ := listD_open d'; subst e'); (try dsimp only); (try k_fold))) | fail "no"
  k_with "call ref" => first | ((k_here; k_dflt (refine' Ctr.use (drop_c _ _ _ _ _ _ _ ?hoq23 ?hdbq23 ?hk0q23) ?Bq23 ?Fq23 ?Xq23 ?Nq23 ?Tq23 ?hkq23 ?hdq23 ?huq23 ?_; (case Bq23 => k_asm); (case Fq23 => k_asm); (case Xq23 => k_asm); (case Nq23 => k_asm); (case Tq23 => k_asm); (case hk0q23 => k_extra "dat"); (case hoq23 => k_extra "obj"); (case hdbq23 => k_extra "db"); (case hkq23 => first | exact rfl | assumption); (case hdq23 => k_extra "room"); (case huq23 => k_extra "units"); k_whole; intro r' news' h' tk' F' N' P'; obtain ⟨e', db', d'⟩ := P'; cases d'); (try dsimp only); (try k_fold))) | fail "no"
  k_with "db" => first | (first | with_reducible assumption | (refine' DbIs.sub ?hsq24 ?hdq24; (case hdq24 => with_reducible assumption); (case hsq24 => k_extra "sub"))) | fail "no"
  k_with "compareOp NotIn" => first | ((k_here; (with_reducible show wpAny _ _ (compareOp CmpOp.NotIn (Value.ref _) (Value.ref _)) _ _ _); k_dflt (first | (refine' rows_notIn_some ?Nq25 ?dq25 ?kq25 ?uq25 ?bq25 ?_; (case Nq25 => k_asm); (case dq25 => k_extra "db"); (case kq25 => k_extra "dat"); (case uq25 => ktr_units); (case bq25 => with_reducible assumption)) | (refine' rows_notIn_none ?Nq25 ?dq25 ?kq25 ?uq25 ?bq25 ?_; (case Nq25 => k_asm); (case dq25 => k_extra "db"); (case kq25 => k_extra "dat"); (case uq25 => ktr_units); (case bq25 => with_reducible assumption))); intro tk')) | fail "no"
  k_with "subscriptTail" => first | ((k_here; (with_reducible show wpAny _ _ (subscriptTail _ _ (Value.ref _) (Value.ref _)) _ _ _); k_dflt (refine' rows_item ?Nq26 ?dq26 ?kq26 ?uq26 ?rq26 ?_ ?sq26 ?gq26; (case Nq26 => k_asm); (case dq26 => k_extra "db"); (case kq26 => k_extra "dat"); (case uq26 => ktr_units); (case rq26 => with_reducible assumption); (case sq26 => with_unfolding_all rfl); (case gq26 => (intro _; with_unfolding_all rfl))); intro v' tk' dv'; k_dflt (obtain ⟨a', n', lv', t', e', hm', dl'⟩ := rvD_open dv'; subst e'))) | fail "no"
  k_with "obj" => first | (first | with_reducible assumption | (refine' dbObj_sub ?hsq27 ?hdq27; (case hdq27 => with_reducible assumption); (case hsq27 => k_extra "sub")) | (refine' ⟨_, _, _, _, ?m1q27, ?m2q27⟩; (case m1q27 => k_extra "mem"); (case m2q27 => k_extra "mem"))) | fail "no"
  k_with "call builtin:sorted" => first | ((k_here; (with_reducible show wpAny _ _ (call (Value.builtin "sorted") [Value.ref _]) _ _ _); k_dflt (refine' rows_sorted ?hhq28 ?Fq28 ?Nq28 ?dq28 ?_; (case hhq28 => rfl); (case Fq28 => k_asm); (case Nq28 => k_asm); (case dq28 => k_extra "db")); intro B' h' c' tk' vs' F' N' l1 dv')) | fail "no"
  k_with "eval ListComp" => first | ((k_here; k_dflt (refine' lc_eval ?Fq29 ?c1q29 ?c2q29 ?c3q29 ?c4q29 ?c5q29 ?_; (case Fq29 => k_asm); (case c1q29 => with_unfolding_all rfl); (case c2q29 => decide); (case c3q29 => rfl); (case c4q29 => decide); (case c5q29 => rfl)))) | fail "no"
  k_with "exec Assign cons ListComp" => first | ((k_here; k_dflt (refine' lc_assign ?Fq30 ?c0q30 ?cwq30 ?c1q30 ?c2q30 ?c3q30 ?c4q30 ?c5q30 ?c6q30 ?c7q30 ?_; (case Fq30 => k_asm); (case c0q30 => rfl); (case cwq30 => with_unfolding_all rfl); (case c1q30 => with_unfolding_all rfl); (case c2q30 => decide); (case c3q30 => rfl); (case c4q30 => decide); (case c5q30 => rfl); (case c6q30 => rfl); (case c7q30 => rfl)))) | fail "no"
  k_with "exec For Name Call cons nil" => first | ((k_here; (rename Fr _ _ _ _ => lF'); (with_unfolding_all refine' for_my lF' ?k1q31 ?k2q31 ?_; (case k1q31 => exact rfl); (case k2q31 => exact rfl); k_whole))) | fail "no"
  k_with "exec For Name Name cons nil" => first | ((k_here; (rename Fr _ _ _ _ => lF'); (with_unfolding_all refine' for_my lF' ?k1q32 ?k2q32 ?_; (case k1q32 => exact rfl); (case k2q32 => exact rfl); k_whole))) | fail "no"
  k_with "exec For Name Attribute cons nil" => first | ((k_here; (rename Fr _ _ _ _ => lF'); (with_unfolding_all refine' for_my lF' ?k1q33 ?k2q33 ?_; (case k1q33 => exact rfl); (case k2q33 => exact rfl); k_whole))) | fail "no"
  k_with "call builtin:list.append" => first | ((k_here; k_dflt (refine' append_my ?Fq34 ?Nq34 ?mq34 ?zq34 ?_; (case Fq34 => k_asm); (case Nq34 => k_asm); (case mq34 => k_extra "mem"); (case zq34 => assumption); k_whole; intro h' F' N'); (try dsimp only); (try k_fold))) | fail "no"
  k_with "datp" => first | (first | with_reducible assumption | ((with_reducible refine' DatIn.mono (fun p hp => List.mem_cons_of_mem _ hp) ?peq35); (case peq35 => k_extra "datp")) | ((with_reducible refine' DatIn.mono (fun p hp => List.mem_append_right _ hp) ?peq35); (case peq35 => k_extra "datp")) | (refine' Ext.dat ?eq35 ?hq35 ?nq35; (case eq35 => with_reducible assumption); (case hq35 => k_extra "datp"); (case nq35 => first | exact optD_noList _ | rfl))) | fail "no"
  k_with "dat" => first | (first | with_reducible exact DatIn.int _ _ | k_extra "datp" | (refine' DatIn.tuple ?hmq36 ?hdq36; (case hmq36 => k_extra "mem"); (case hdq36 => k_extra "datall"))) | fail "no"
  k_with "dbp" => first | (first | with_reducible assumption | ((with_reducible refine' DbIs.sub (fun p hp => List.mem_cons_of_mem _ hp) ?peq37); (case peq37 => k_extra "dbp")) | ((with_reducible refine' DbIs.sub (fun p hp => List.mem_append_right _ hp) ?peq37); (case peq37 => k_extra "dbp")) | (refine' Ext.other ?eq37 _ _ _ ?nq37 ?hq37; (case eq37 => with_reducible assumption); (case hq37 => k_extra "dbp"); (case nq37 => first | assumption | simp; done | (simp; assumption)))) | fail "no"
  k_with "db" => first | (k_extra "dbp") | fail "no"
  k_with "objp" => first | (first | with_reducible assumption | ((with_reducible refine' dbObj_sub (fun p hp => List.mem_cons_of_mem _ hp) ?peq39); (case peq39 => k_extra "objp")) | ((with_reducible refine' dbObj_sub (fun p hp => List.mem_append_right _ hp) ?peq39); (case peq39 => k_extra "objp")) | (refine' Ext.obj ?eq39 _ _ ?hq39; (case eq39 => with_reducible assumption); (case hq39 => k_extra "objp"))) | fail "no"
  k_with "obj" => first | (k_extra "objp") | fail "no"
  k_with "kin" => first | (first | assumption | (show Lsa.key _ ∈ _; assumption)) | fail "no"
  k_with "kkk" => first | (first | rfl | assumption) | fail "no"
  k_with "setItem ref" => first | ((k_here; (with_reducible show wpAny _ _ (setItem (Value.ref _) _ _) _ _ _); k_dflt (refine' rows_set2 ?Fq43 ?Nq43 ?dbq43 ?hvq43 ?hkq43 ?hkkq43 ?hrq43 ?huq43 ?_; (case Fq43 => k_asm); (case Nq43 => k_asm); (case dbq43 => k_extra "db"); (case hvq43 => k_extra "dat"); (case hkq43 => k_extra "dat"); (case hkkq43 => k_extra "kkk"); (case hrq43 => k_extra "kin"); (case huq43 => k_extra "units"); intro h' news' tk' F' N' e' db'); (try dsimp only); (try k_fold))) | fail "no"
  k_with "getMethod ref" => first | ((k_here; k_dflt (refine' rows_pop_meth ?Nq44 ?dbq44 ?_; (case Nq44 => k_asm); (case dbq44 => k_extra "db")))) | fail "no"
  k_with "call builtin:dict.pop" => first | ((k_here; k_dflt (first | (refine' rows_pop_some ?Fq45 ?Nq45 ?dbq45 ?hkq45 ?hrq45 ?huq45 ?_; (case Fq45 => k_asm); (case Nq45 => k_asm); (case dbq45 => k_extra "db"); (case hkq45 => k_extra "dat"); (case hrq45 => with_reducible assumption); (case huq45 => k_extra "units"); intro x' h' news' tk' F' N' e' db' dx'; obtain ⟨ax', ex'⟩ := tup_ref dx'; subst ex') | (refine' rows_pop_none ?Nq45 ?dbq45 ?hkq45 ?hrq45 ?huq45 ?_; (case Nq45 => k_asm); (case dbq45 => k_extra "db"); (case hkq45 => k_extra "dat"); (case hrq45 => with_reducible assumption); (case huq45 => k_extra "units"); intro tk')); (try dsimp only); (try k_fold))) | fail "no"
  k_with "subscriptTail" => first | ((k_here; (with_reducible show wpAny _ _ (subscriptTail _ _ (Value.ref _) (Value.int _ _)) _ _ _); k_dflt (refine' litem ?Nq46 ?mq46 ?aq46 ?bq46 ?vq46 ?_ ?sq46; (case Nq46 => k_asm); (case mq46 => k_extra "mem"); (case aq46 => first | decide | omega); (case bq46 => first | decide | omega); (case vq46 => first | exact rfl | assumption); (case sq46 => with_unfolding_all rfl); k_whole))) | fail "no"
  k_with "setItem ref int" => first | ((k_here; k_dflt (refine' lset ?Fq47 ?Nq47 ?mq47 ?aq47 ?bq47 ?cq47 ?_; (case Fq47 => k_asm); (case Nq47 => k_asm); (case mq47 => k_extra "mem"); (case aq47 => first | decide | omega); (case bq47 => first | decide | omega); (case cq47 => first | decide | omega | ((simp only [List.length_cons, List.length_nil]); omega)); k_whole; intro h' news' F' N' e' hm' kp'); (try dsimp only); (try k_fold))) | fail "no"
  k_with "call builtin:len" => first | ((k_here; (with_reducible show wpAny _ _ (call (Value.builtin "len") [Value.ref _]) _ _ _); k_dflt (refine' llen ?Nq48 ?mq48 ?fq48 ?_; (case Nq48 => k_asm); (case mq48 => k_extra "mem"); (case fq48 => first | decide | omega | ((simp only [List.length_cons, List.length_nil]); omega)); k_whole))) | fail "no"
  k_with "call ref" => first | ((k_here; k_dflt (refine' Ctr.use (TellsBy.ctr ?hf0q49 ?hs0q49 ?hk0q49) ?Bq49 ?Fq49 ?Xq49 ?Nq49 ?Tq49 ?hkq49 ?hdq49 ?huq49 ?_; (case Bq49 => k_asm); (case Fq49 => k_asm); (case Xq49 => k_asm); (case Nq49 => k_asm); (case Tq49 => k_asm); (case hf0q49 => with_reducible assumption); (case hs0q49 => k_extra "sub"); (case hk0q49 => k_extra "dat"); (case hkq49 => first | exact rfl | assumption); (case hdq49 => k_extra "room"); (case huq49 => k_extra "units"); k_whole; intro r' news' h' tk' F' N' P'; obtain ⟨⟨tl', e'⟩, d'⟩ := P'; subst e'; cases d'); (try dsimp only); (try k_fold))) | fail "no"
  k_with "FnAt" => first | ((k_dflt (refine' FnAt.of ?n1q50 ?m1q50; (case n1q50 => k_asm); (case m1q50 => k_extra "mem")))) | fail "no"
  k_with "callWith ref" => first | ((k_here; k_dflt (refine' callWith_F ?k1q51 ?_; (case k1q51 => (refine' FnAt.of ?n1q51 ?m1q51; (case n1q51 => k_asm); (case m1q51 => k_extra "mem"))); k_whole))) | fail "no"
  trivial
theorem off1_mem {D : Addr} : ∀ {l : Led}, LCg.Off1 D l → ∀ p ∈ l, p.1 ≠ D
  | [], _, _, h => nomatch h
  | q :: r, x, p, h => by
    rcases List.mem_cons.mp h with rfl | h
    · exact x.1
    · exact off1_mem x.2 p h
theorem DbIs.off {w : World} {all : Led} {d : Addr} {D : List Rw} {q : Addr × Obj → Bool} (h : DbIs w all d D) (hq : ∀ o, q (d, o) = true) (ht : ∀ p ∈ all, (∃ vs n, p.2 = tupO vs n) → p ∈ all.filter q) : DbIs w (all.filter q) d D := by
  obtain ⟨xs, n, a, b, c⟩ := h
  exact ⟨xs, n, List.mem_filter.mpr ⟨a, hq _⟩, b.mono2 ht, c⟩
theorem keysD_noLists : ∀ l : List Key, noList.noLists (l.map keyD) = true
  | [] => rfl
  | _ :: r => keysD_noLists r
theorem swept_c (w : World) (news : Led) (x d fa : Addr) (ow : Key → Bool) (D : List Rw) (now : Int) (ts : Tok) (ho : DbObj news x d) (hdb : DbIs w news d D) (hf : TellsBy w news fa ow) (oc : Value) (od : Option Addr) (fd : FuncData) (sl : Array (Option Value)) (hfo : (fa, (⟨oc, od, .func fd, sl⟩ : Obj)) ∈ news) :
   Ctr PR w (hd.heap_39 w.params) 141 12 1200 [.ref x, .int now ts, .ref fa, .bool false] news (SweptP w news d (dropAll D (goneKeys ow D now)) (goneKeys ow D now)) := by
  unfold Ctr
  have ho' := ho
  obtain ⟨dx, hs, t, n, hx, hdx⟩ := ho'
  intros
  rename_i hret
  refine wpAny_call ?_
  walk_at "my enter"
  k_steps
  refine' CSrc.pure (src := ((rowsAt D now).filter ended?).map fun l => keyD l.key) (fun d => if ow (keyOf d) = true then none else some d) ?h1 ?h2 ?h3 ?h4 ?h5 ?h6 ?h7 ?turn ?fin
  case h1 => exact rfl
  case h2 => k_asm
  case h3 => k_asm
  case h4 => walk_at "mem"
  case h5 => walk_at "datall"
  case h6 => exact Nat.le_trans (by rw [List.length_map]; exact Nat.le_trans (List.length_filter_le _ _) rowsAt_len) (by decide)
  case h7 =>
    intro d hd d' e
    split at e
    · cases e
    · cases e
      obtain ⟨l, _, rfl⟩ := List.mem_map.mp hd
      rfl
  case turn =>
    intro tl ys v dk I oI C oC Da m₂ h tk E' hm hv hC hx' F' N'
    obtain ⟨l, hk, rfl⟩ := List.mem_map.mp hm
    obtain ⟨ka, rfl⟩ := tup_ref hv
    refine wpAny_tests_one ?_
    by_cases hA : ow l.key = true
    · k_steps
      all_goals first | contradiction | exact PSkip.mk (by k_asm) (by k_asm) (by walk_at "suf") (if_pos hA) | exact PEnd.mk (by k_asm) (by k_asm) (by walk_at "suf") (if_neg hA) (by walk_at "dat")
    · k_steps
      all_goals first | contradiction | exact PSkip.mk (by k_asm) (by k_asm) (by walk_at "suf") (if_pos hA) | exact PEnd.mk (by k_asm) (by k_asm) (by walk_at "suf") (if_neg hA) (by walk_at "dat")
  case fin =>
    intro ys tl hY
    rw [fm_not ow] at hY
    k_steps
    rename LCg.Off1 _ _ => o1
    have o1' := off1_mem o1
    rename_i Df h3 tk3 N3
    revert tl' N' la' vs' n' hm' da' d' hY lF' N3 o1 o1'
    intro t1 N1 la vs nn hla hda hdi hY lF N3 o1 o1'
    obtain ⟨B, hsB, N4, hY4, o4⟩ : ∃ B : Led, (∀ p ∈ news, p ∈ B) ∧ News _ _ h3 ((Df, W.listOf ys.toArray ys.length) :: B) ∧ DatAll B ys ((goneKeys ow D now).map keyD) ∧ (∀ p ∈ B, p.1 ≠ Df) := ⟨_, by walk_at "sub", N3, hY, o1'⟩
    clear hY o1 o1' hla hda hdi
    have hx4 := hsB _ hx
    have hdb4 := DbIs.sub hsB hdb
    have ho4 := dbObj_sub hsB ho
    refine' over_list (σ := Unit) [] (fun _ => []) (fun i _ ns => Ext [] [d] B ns ∧ DbIs w ns d (dropAll D ((goneKeys ow D now).take i)) ∧ (Df, W.listOf ys.toArray ys.length) ∈ ns) () ?g1 ?g2 ?g3 ?g4 ?g5 ?g6 ?g7 ?turn ?done
    case g1 => exact rfl
    case g2 => k_asm
    case g3 => exact N4
    case g4 => exact .head _
    case g5 => exact ⟨Ext.sub0 fun p hp => .tail _ hp, DbIs.sub (fun p hp => .tail _ hp) hdb4, .head _⟩
    case g6 => intro p hp; exact nomatch hp
    case g7 => exact fun i c ns h => h.2.2
    case turn =>
      rintro i v _ u ns h tk I oI hv ⟨eB, hdbn, kD⟩ hoffI hcI F' N'
      obtain ⟨dd, hdd, hDv⟩ := datAll_get i hY4 hv
      obtain ⟨k, hk, rfl⟩ : ∃ k, (goneKeys ow D now)[i]? = some k ∧ dd = keyD k := by
        rw [List.getElem?_map] at hdd
        cases e : (goneKeys ow D now)[i]? with
        | none => rw [e] at hdd; cases hdd
        | some k => rw [e] at hdd; exact ⟨k, rfl, (Option.some.inj hdd).symm⟩
      have hDn := eB.dat hDv rfl
      obtain ⟨ka, rfl⟩ := tup_ref hDn
      have hon := eB.obj _ _ ho4
      obtain ⟨dx2, hs2, tt2, nn2, hx2, hdx2⟩ := id hon
      have htk : dropAll D ((goneKeys ow D now).take (i + 1)) = dropRow (dropAll D ((goneKeys ow D now).take i)) k := by
        rw [List.take_add_one, hk]; simp [dropAll]
      (try dsimp only [envOfC] at N' F')
      have hdI : d ≠ I := by obtain ⟨xs, n, hm, _⟩ := id hdbn; exact hoffI _ hm
      k_steps
      rename Ext [] [d] ((I, oI) :: ns) _ => eN
      rename DbIs w _ d (dropRow _ _) => dN
      rename News _ _ _ _ => NN
      have iI := eN.kept _ (.head _) (by simp) (by simpa using hdI.symm)
      have ht := off_tup1 NN iI (by rw [hcI]; decide)
      refine FEnd.mk (by k_asm) NN iI () ⟨Ext.trans eB (Ext.off NN eN (fun p hp => .tail _ hp) (fun p hp o => by simpa using hoffI p hp) ht), ?_, ?_⟩ (fun p hp => nomatch hp) (fun z hz _ _ => if_neg hz)
      · rw [htk]
        exact dN.off (fun o => by simpa using hdI) ht
      · exact List.mem_filter.mpr ⟨eN.lst _ (.tail _ kD) rfl (by simp), by simpa using hoffI _ kD⟩
    case done =>
      rintro _ u ns h tk ⟨eB, hdbn, kD⟩ F' N'
      have hyl : ys.length = (goneKeys ow D now).length := by rw [datAll_len hY4, List.length_map]
      rw [hyl, List.take_length] at hdbn
      k_steps
      exact hret _ _ _ _ (by k_asm) (by k_asm) ⟨Ext.mid eB hsB (fun _ h => h), hdbn, .list kD (DatAll.upT eB.tup (keysD_noLists _) hY4), Df, rfl, fun p hp => o4 p (hsB p hp)⟩
end
section
example : True := by
  k_with_none
  trivial
structure Base where
  x : Addr
  d : Addr
  D : List Rw
abbrev refs (bs : List Base) : List Value := bs.map fun b => .ref b.x
/-- the databases bs stand in the ledger -/
def Stand (w : World) (ns : Led) (bs : List Base) : Prop := ∀ b ∈ bs, DbObj ns b.x b.d ∧ DbIs w ns b.d b.D
def Apart (bs : List Base) : Prop := (bs.map (·.d)).Nodup
def Base.upd (g : Base → List Rw) (b : Base) : Base := { b with D := g b }
abbrev dsOf (bs : List Base) : List Addr := bs.map (·.d)
mutual
theorem DatIn.upL {news news' : Led} (ht : ∀ p ∈ news, p.2.cls = .type "tuple" → p ∈ news') (hl : ∀ p ∈ news, p.2.cls = .type "list" → p ∈ news') : ∀ {v : Value} {d : Dat}, DatIn news v d → DatIn news' v d
  | _, _, .none => .none
  | _, _, .bool b => .bool b
  | _, _, .int i t => .int i t
  | _, _, .str x t => .str x t
  | _, _, .bytes b t => .bytes b t
  | _, _, .tuple h r => .tuple (ht _ h rfl) (DatAll.upL ht hl r)
  | _, _, .list h r => .list (hl _ h rfl) (DatAll.upL ht hl r)
theorem DatAll.upL {news news' : Led} (ht : ∀ p ∈ news, p.2.cls = .type "tuple" → p ∈ news') (hl : ∀ p ∈ news, p.2.cls = .type "list" → p ∈ news') : ∀ {vs : List Value} {ds : List Dat}, DatAll news vs ds → DatAll news' vs ds
  | _, _, .nil => .nil
  | _, _, .cons h r => .cons (DatIn.upL ht hl h) (DatAll.upL ht hl r)
end
theorem Ext.datL {W : List Addr} {a b : Led} (e : Ext [] W a b) {v : Value} {d : Dat} (h : DatIn a v d) : DatIn b v d := DatIn.upL e.tup (fun p hp hc => e.lst p hp hc (by simp)) h
theorem Ext.datAllL {W : List Addr} {a b : Led} (e : Ext [] W a b) {vs : List Value} {ds : List Dat} (h : DatAll a vs ds) : DatAll b vs ds := DatAll.upL e.tup (fun p hp hc => e.lst p hp hc (by simp)) h
/-- what a turn of a comprehension leaves that turns the rows at d -/
def MEnd (h₀ : Heap) (L : Addr) (m : Str → Option Value) (s₁ : Shared) (base : Led) (W : List Addr) (R : Led → Prop) (rd : Dat) (y : Value) (s₂ : Shared) : Prop :=
  ∃ h' tk all, s₂ = { s₁ with heap := h', toks := tk } ∧ Fr h₀ L h' m ∧ News h₀ L h' all ∧ Ext [] W base all ∧ R all ∧ DatIn all y rd ∧ (noList rd = true ∨ ∃ a ks, y = .ref a ∧ (∀ p ∈ base, p.1 ≠ a) ∧ rd = .list ks ∧ noList.noLists ks = true)
theorem MEnd.mk {h₀ : Heap} {L : Addr} {m : Str → Option Value} {s₁ : Shared} {base all : Led} {W : List Addr} {R : Led → Prop} {rd : Dat} {y : Value} {h' : Heap} {tk : Nat} (F : Fr h₀ L h' m) (N : News h₀ L h' all) (e : Ext [] W base all) (r : R all) (hd : DatIn all y rd)
    (hr : noList rd = true ∨ ∃ a ks, y = .ref a ∧ (∀ p ∈ base, p.1 ≠ a) ∧ rd = .list ks ∧ noList.noLists ks = true) : MEnd h₀ L m s₁ base W R rd y { s₁ with heap := h', toks := tk } := ⟨h', tk, all, rfl, F, N, e, r, hd, hr⟩
theorem dat_off {base all : Led} {q : Addr × Obj → Bool} {rd : Dat} {y : Value} (ht : ∀ p ∈ all, (∃ vs n, p.2 = tupO vs n) → p ∈ all.filter q) (hq : ∀ a o, (∀ p ∈ base, p.1 ≠ a) → q (a, o) = true) (hd : DatIn all y rd)
    (hr : noList rd = true ∨ ∃ a ks, y = .ref a ∧ (∀ p ∈ base, p.1 ≠ a) ∧ rd = .list ks ∧ noList.noLists ks = true) : DatIn (all.filter q) y rd := by
  rcases hr with hr | ⟨a, ks, rfl, hf, rfl, hn⟩
  · exact DatIn.upO ht hr hd
  · cases hd with
    | list hm r => exact .list (List.mem_filter.mpr ⟨hm, hq _ _ hf⟩) (DatAll.upO ht hn r)
/-- a comprehension over databases, each of which is turned -/
theorem CSrc.mut {w : World} {A : Around} {s : Shared} {h₀ : Heap} {L ax : Addr} {m : Str → Option Value} {env : Env} {elt : Expr} {x : Str} {scope : Scope} {cl : List (Str × Addr)}
    {news : Led} {k : Nat} {Fin : Shared → List Value → Led → Prop} (src : List Base) (g : Base → List Rw) (rd : Base → Dat)
    (hh : A.handled = none) (F : Fr h₀ L s.heap m) (N : News h₀ L s.heap news) (hax : (ax, W.listOf (refs src).toArray k) ∈ news) (hS : Stand w news src) (hA : Apart src) (hsz : src.length ≤ sizeLine)
    (turn : ∀ ns b ys I oI C oC Da m₂ h tk (E' : Value → Shared → Prop), b ∈ src → Ext [] (dsOf src) news ns → DbObj ns b.x b.d → DbIs w ns b.d b.D → (b.d ≠ I ∧ b.d ≠ C ∧ b.d ≠ Da) → oI.cls = .type "list_iterator" → LCg.NsObj oC m₂ → m₂ x = some (.ref b.x) → Fr h₀ L h m → News h₀ L h ((I, oI) :: (C, oC) :: (Da, lstO ys) :: ns) →
      wpAny (model PR w) A (eval elt (compEnvC scope cl C env)) (MEnd h₀ L m { s with heap := h, toks := tk } ((I, oI) :: (C, oC) :: (Da, lstO ys) :: ns) [b.d] (fun all => DbIs w all b.d (g b)) (rd b)) E' { s with heap := h, toks := tk })
    (fin : ∀ ys ns, Ext [] (dsOf src) news ns → Stand w ns (src.map (Base.upd g)) → DatAll ns ys (src.map rd) → (ax, W.listOf (refs src).toArray k) ∈ ns → Fin s ys ns) :
    CSrc PR w A h₀ L m env [] elt x scope cl Fin (.ref ax) s := by
  refine ⟨ax, (refs src).toArray, k, news, fun i ys ns => (ax, W.listOf (refs src).toArray k) ∈ ns ∧ Ext [] (dsOf src) news ns ∧ Stand w ns ((src.take i).map (Base.upd g) ++ src.drop i) ∧ DatAll ns ys ((src.take i).map rd), rfl, hh, F, N, hax, by simpa using hsz, ?_, ⟨hax, Ext.sub0 fun p hp => hp, by simpa using hS, .nil⟩, ?_, ?_⟩
  · rintro i ys ns ⟨h, _⟩
    exact ⟨k, h⟩
  · rintro i ys ns v I oI C oC Da m₂ h tk E' hv ⟨hx1, e1, S1, d1⟩ hI hC hx F' N' off'
    obtain ⟨b, hb, rfl⟩ : ∃ b, src[i]? = some b ∧ v = .ref b.x := by
      have hv' : (refs src)[i]? = some v := by simpa using hv
      rw [List.getElem?_map] at hv'
      cases e : src[i]? with
      | none => rw [e] at hv'; cases hv'
      | some b => rw [e] at hv'; exact ⟨b, rfl, (Option.some.inj hv').symm⟩
    have hbm : b ∈ src := List.mem_of_getElem? hb
    have htake : src.take (i + 1) = src.take i ++ [b] := by rw [List.take_add_one, hb]; rfl
    have hdrop : src.drop i = b :: src.drop (i + 1) := by
      have hi : i < src.length := (List.getElem?_eq_some_iff.mp hb).1
      rw [List.drop_eq_getElem_cons hi]
      rw [List.getElem?_eq_getElem hi] at hb
      rw [Option.some.inj hb]
    obtain ⟨ob, dbb⟩ := S1 b (List.mem_append_right _ (by rw [hdrop]; exact .head _))
    have off3 := off'.mem
    have hbd : b.d ≠ I ∧ b.d ≠ C ∧ b.d ≠ Da := by
      obtain ⟨xs, n, hm, _⟩ := id dbb
      exact off3 _ hm
    refine wpAny_tests_nil ?_
    simp only [if_true]
    refine wpAny_mono (turn ns b ys I oI C oC Da m₂ h tk E' hbm e1 ob dbb hbd hI hC hx F' N') (fun y s' h' => ?_) fun _ _ e => e
    obtain ⟨h2, tk2, all, rfl, F2, N2, e2, dN, dy, hr⟩ := h'
    have kI := e2.kept _ (.head _) (by simp) (by simpa using hbd.1.symm)
    have kC := e2.kept _ (.tail _ (.head _)) (by simp) (by simpa using hbd.2.1.symm)
    have kD := e2.kept _ (.tail _ (.tail _ (.head _))) (by simp) (by simpa using hbd.2.2.symm)
    have ht := off_tup N2 kI kC kD hI hC
    have e3 : Ext [] [b.d] ns (all.filter fun p => decide (p.1 ≠ I ∧ p.1 ≠ C ∧ p.1 ≠ Da)) := Ext.off N2 e2 (fun p hp => .tail _ (.tail _ (.tail _ hp))) (fun p hp o => decide_eq_true (off3 p hp)) ht
    refine ⟨h2, tk2, all, rfl, F2, N2, ?_, ?_, ?_, ?_, ?_⟩
    · intro p hp
      simp only [List.mem_cons, List.not_mem_nil, or_false] at hp
      rcases hp with rfl | rfl | rfl <;> assumption
    · exact e3.lst _ hx1 rfl (by simp)
    · exact Ext.trans e1 (Ext.weak e3 (fun _ h => h) fun a ha => by rw [List.mem_singleton.mp ha]; exact List.mem_map.mpr ⟨b, hbm, rfl⟩)
    · have apart : ∀ c ∈ src.take i ++ src.drop (i + 1), c.d ≠ b.d := by
        have e : src = src.take i ++ b :: src.drop (i + 1) := by rw [← hdrop, List.take_append_drop]
        have hn : ((src.take i).map (·.d) ++ b.d :: (src.drop (i + 1)).map (·.d)).Nodup := by
          have := hA
          unfold Apart at this
          rw [e, List.map_append, List.map_cons] at this
          exact this
        intro c hc
        have hn2 := List.nodup_append.mp hn
        rcases List.mem_append.mp hc with hc | hc
        · exact hn2.2.2 _ (List.mem_map.mpr ⟨c, hc, rfl⟩) _ (.head _)
        · have := (List.nodup_cons.mp hn2.2.1).1
          intro e
          exact this (e ▸ List.mem_map.mpr ⟨c, hc, rfl⟩)
      intro c hc
      rw [htake, List.map_append, List.append_assoc] at hc
      rcases List.mem_append.mp hc with hc | hc
      · obtain ⟨o, hd⟩ := S1 c (List.mem_append_left _ hc)
        obtain ⟨c0, hc0, rfl⟩ := List.mem_map.mp hc
        exact ⟨e3.obj _ _ o, e3.other _ _ _ (by simpa [Base.upd] using apart c0 (List.mem_append_left _ hc0)) hd⟩
      · rcases List.mem_append.mp hc with hc | hc
        · rw [List.map_cons, List.map_nil, List.mem_singleton] at hc
          subst hc
          exact ⟨e3.obj _ _ ob, dN.off (fun o => decide_eq_true hbd) ht⟩
        · obtain ⟨o, hd⟩ := S1 c (List.mem_append_right _ (by rw [hdrop]; exact .tail _ hc))
          exact ⟨e3.obj _ _ o, e3.other _ _ _ (by simpa using apart c (List.mem_append_right _ hc)) hd⟩
    · rw [htake, List.map_append]
      refine datAll_snoc (e3.datAllL d1) ?_
      refine dat_off ht (fun a o ha => decide_eq_true ?_) dy hr
      exact ⟨fun e => ha _ (.head _) e.symm, fun e => ha _ (.tail _ (.head _)) e.symm, fun e => ha _ (.tail _ (.tail _ (.head _))) e.symm⟩
  · rintro ys ns ⟨hx1, e1, S1, d1⟩
    have hl : (refs src).toArray.size = src.length := by simp
    rw [hl, List.take_length, List.drop_length, List.append_nil] at S1
    rw [hl, List.take_length] at d1
    exact fin ys ns e1 S1 d1 hx1
end
section
theorem init_slice (us : List Value) (v : Value) : kms_pick (us ++ [v]) none (some (-1)) = us := by
  unfold kms_pick kms_lo kms_hi
  simp
theorem one_slice (us : List Value) : kms_pick us none (some 1) = us.take 1 := by
  unfold kms_pick kms_lo kms_hi
  cases us with
  | nil => rfl
  | cons a l => simp
section
variable {w : World} {A : Around} {E : Value → Shared → Prop} {s : Shared} {h₀ : Heap} {L l a b : Addr} {m : Str → Option Value} {news : Led} {us ys : List Value} {v : Value} {n k : Nat} {value slice : PySem.Expr} {u : Tok} {Q : Value → Shared → Prop}
theorem slice_init (F : Fr h₀ L s.heap m) (N : News h₀ L s.heap news) (hm : (l, W.listOf (us ++ [v]).toArray n) ∈ news)
    (h : ∀ D h', Fr h₀ L h' m → News h₀ L h' ((D, W.listOf us.toArray 0) :: news) → (∀ p ∈ news, p.1 < D) → Q (.ref D) { s with heap := h' })
    (hs : subscripted slice false (.ref l) (.ref s.heap.objs.size) = operate [.ref s.heap.objs.size, .ref l] (getItem (.ref l) (.ref s.heap.objs.size))) (ht : ∀ r, letTemporaryGo value (.ref l) r = pure ()) (hz : us.length ≤ 3) :
    wpAny (model PR w) A (subscriptTail value slice (.ref l) (.ref s.heap.objs.size)) Q E { s with heap := s.heap.push { cls := .type "slice", data := .fields #[.none, .int (-1) u, .none] } } := by
  have hl : s.heap.IsList l (us ++ [v]).toArray := ⟨_, (N _ hm).1, rfl, n, rfl⟩
  exact kms_slice_lit F N hl .none (.int _ _) (init_slice us v) h hs ht (by simp [sizeLine_eq]; omega)
theorem slice_one (F : Fr h₀ L s.heap m) (N : News h₀ L s.heap news) (hm : (l, W.listOf us.toArray n) ∈ news)
    (h : ∀ D h', Fr h₀ L h' m → News h₀ L h' ((D, W.listOf (us.take 1).toArray 0) :: news) → (∀ p ∈ news, p.1 < D) → Q (.ref D) { s with heap := h' })
    (hs : subscripted slice false (.ref l) (.ref s.heap.objs.size) = operate [.ref s.heap.objs.size, .ref l] (getItem (.ref l) (.ref s.heap.objs.size))) (ht : ∀ r, letTemporaryGo value (.ref l) r = pure ()) (hz : us.length ≤ 3) :
    wpAny (model PR w) A (subscriptTail value slice (.ref l) (.ref s.heap.objs.size)) Q E { s with heap := s.heap.push { cls := .type "slice", data := .fields #[.none, .int 1 u, .none] } } := by
  have hl : s.heap.IsList l us.toArray := ⟨_, (N _ hm).1, rfl, n, rfl⟩
  exact kms_slice_lit F N hl .none (.int _ _) (one_slice us) h hs ht (by simp [sizeLine_eq]; omega)
theorem last_item (N : News h₀ L s.heap news) (hm : (l, W.listOf (us ++ [v]).toArray n) ∈ news) (hz : us.length ≤ 3) (h : Q v s)
    (hs : subscripted slice false (.ref l) (.int (-1) u) = operate [.ref l, .int (-1) u] (getItem (.ref l) (.int (-1) u))) :
    wpAny (model PR w) A (subscriptTail value slice (.ref l) (.int (-1) u)) Q E s := by
  refine litem_neg N hm (by decide) (by simp; omega) (by decide) ?_ h hs
  have : ((-1 : Int) + ((us ++ [v]).length : Int)).toNat = us.length := by simp; omega
  rw [this]
  simp
abbrev repL (k : Nat) (us : List Value) : List Value := (List.replicate k us).flatten
theorem mul_my (F : Fr h₀ L s.heap m) (N : News h₀ L s.heap news) (hm : (l, W.listOf us.toArray n) ∈ news) (hv : us.length ≤ 1) (hk : k ≤ 3)
    (h : ∀ D h', Fr h₀ L h' m → News h₀ L h' ((D, W.listOf (repL k us).toArray 0) :: news) → (∀ p ∈ news, p.1 < D) → Q (.ref D) { s with heap := h' }) :
    wpAny (model PR w) A (binaryOp .Mult (.ref l) (.int ((k : Nat) : Int) u)) Q E s := by
  have hl : s.heap.IsList l us.toArray := ⟨_, (N _ hm).1, rfl, n, rfl⟩
  refine KMa.mul F N hl (by omega) (by omega) ?_ (by simp) h
  have : us.length * ((k : Nat) : Int).toNat ≤ 1 * 3 := Nat.mul_le_mul hv (by simpa using hk)
  omega
end
theorem datAll_rep1 {ns : Led} {v : Value} {d : Dat} (h : DatIn ns v d) : ∀ n : Nat, DatAll ns (repL n [v]) (List.replicate n d)
  | 0 => .nil
  | n + 1 => by
    show DatAll ns (v :: repL n [v]) (d :: List.replicate n d)
    exact .cons h (datAll_rep1 h n)
theorem datAll_repT {ns : Led} {ys : List Value} {d : Dat} {n : Nat} (h : DatAll ns ys (List.replicate n d)) : DatAll ns (repL ys.length (ys.take 1)) (List.replicate n d) := by
  have hl := datAll_len h
  rw [List.length_replicate] at hl
  subst hl
  cases ys with
  | nil => exact .nil
  | cons y r =>
    cases h with
    | cons h1 _ => exact datAll_rep1 h1 _
/-- a datum that is compared with its like -/
def okD : Nat → Dat → Bool
  | _, .none => true
  | _, .bool _ => true
  | _, .int _ => true
  | _, .str x => PyData.strOk x
  | n + 1, .tuple ds => ds.all (okD n)
  | n + 1, .list ds => ds.all (okD n)
  | _, _ => false
section
variable {h₀ h : Heap} {L : Addr} {news : Led}
mutual
theorem okd_in (N : News h₀ L h news) : ∀ {v : Value} {d : Dat} (n : Nat), DatIn news v d → okD n d = true → ∃ as, Reads h v (kqdP d) as
  | _, _, _, .none, _ => ⟨_, Reads.none⟩
  | _, _, _, .bool b, _ => ⟨_, Reads.bool b⟩
  | _, _, _, .int i t, _ => ⟨_, Reads.int i t⟩
  | _, _, _, .str x t, _ => ⟨_, Reads.str x t⟩
  | _, _, n, .bytes _ _, hk => by cases n <;> simp [okD] at hk
  | _, _, 0, .tuple _ _, hk => by simp [okD] at hk
  | _, _, 0, .list _ _, hk => by simp [okD] at hk
  | _, _, n + 1, .tuple hm r, hk => by
    obtain ⟨as, q⟩ := okd_all N n r (by simpa [okD] using hk)
    rw [kqdP]
    exact ⟨as, reads_tuple_at (N.get hm) rfl rfl (by simpa using q)⟩
  | _, _, n + 1, .list hm r, hk => by
    obtain ⟨as, q⟩ := okd_all N n r (by simpa [okD] using hk)
    rw [kqdP]
    exact ⟨_, reads_list_at (N.get hm) rfl rfl (by simpa [W.listOf] using q)⟩
theorem okd_all (N : News h₀ L h news) : ∀ {vs : List Value} {ds : List Dat} (n : Nat), DatAll news vs ds → (∀ d ∈ ds, okD n d = true) → ∃ as, ReadsAll h vs (kqdPs ds) as
  | _, _, _, .nil, _ => ⟨_, ReadsAll.nil⟩
  | _, _, n, .cons hd r, hk => by
    obtain ⟨as, q⟩ := okd_in N n hd (hk _ (.head _))
    obtain ⟨bs, p⟩ := okd_all N n r fun d hm => hk d (.tail _ hm)
    rw [kqdPs]
    exact ⟨_, ReadsAll.cons q p⟩
end
end
theorem okd_facts : ∀ (n : Nat) (d : Dat), okD n d = true → (kqdP d).canLay0 = true ∧ (kqdP d).depth ≤ n ∧ PyData.eqv (kqdP d) (kqdP d) = true := by
  have all : ∀ (n : Nat), (∀ d, okD n d = true → (kqdP d).canLay0 = true ∧ (kqdP d).depth ≤ n ∧ PyData.eqv (kqdP d) (kqdP d) = true) → ∀ ds : List Dat, (∀ d ∈ ds, okD n d = true) → PyData.canLayAll0 (kqdPs ds) = true ∧ PyData.depthAll (kqdPs ds) ≤ n ∧ PyData.eqvAll (kqdPs ds) (kqdPs ds) = true := by
    intro n ih ds
    induction ds with
    | nil => intro _; simp [kqdPs, PyData.canLayAll0, PyData.depthAll, PyData.eqvAll]
    | cons d ds hi =>
      intro h
      have h1 := ih d (h d (.head _))
      have h2 := hi fun e he => h e (.tail _ he)
      simp only [kqdPs, PyData.canLayAll0, PyData.depthAll, PyData.eqvAll, h1.1, h2.1, h1.2.2, h2.2.2, Bool.and_self, true_and, and_true]
      have a1 := h1.2.1
      have a2 := h2.2.1
      omega
  intro n
  induction n with
  | zero =>
    intro d h
    cases d <;> simp_all [okD, kqdP, PyData.canLay0, PyData.depth, PyData.eqv]
  | succ n ih =>
    intro d h
    cases d with
    | none => simp [kqdP, PyData.canLay0, PyData.depth, PyData.eqv]
    | bool b => simp [kqdP, PyData.canLay0, PyData.depth, PyData.eqv]
    | int i => simp [kqdP, PyData.canLay0, PyData.depth, PyData.eqv]
    | str x => simp [okD] at h; simp [kqdP, PyData.canLay0, PyData.depth, PyData.eqv, h]
    | bytes b => simp [okD] at h
    | tuple ds =>
      have q := all n ih ds (by simpa [okD] using h)
      have q2 := q.2.1
      simp only [kqdP, PyData.canLay0, PyData.depth, PyData.eqv, q.1, q.2.2, true_and, and_true]
      omega
    | list ds =>
      have q := all n ih ds (by simpa [okD] using h)
      have q2 := q.2.1
      simp only [kqdP, PyData.canLay0, PyData.depth, PyData.eqv, q.1, q.2.2, true_and, and_true]
      omega
section
variable {prog : Program} {w : World} {A : Around} {E : Value → Shared → Prop} {s : Shared} {h₀ : Heap} {L : Addr} {news : Led} {a b : Value} {Q : Value → Shared → Prop}
theorem cmp_same {d : Dat} (N : News h₀ L s.heap news) (ha : DatIn news a d) (hb : DatIn news b d) (ka : okD 8 d = true) (hu : A.units + 64 < cLine)
    (h : Q (.bool true) s) : wpAny (model prog w) A (compareOp .Eq a b) Q E s := by
  obtain ⟨as, ra⟩ := okd_in N 8 ha ka
  obtain ⟨bs, rb⟩ := okd_in N 8 hb ka
  have la := okd_facts 8 d ka
  have sh : SeqAt.shaped (kqdP d) = true := by unfold SeqAt.shaped; rw [la.1, Bool.true_and]; exact decide_eq_true (Nat.le_trans la.2.1 (by decide))
  exact SeqAt.compareEq_shaped ra rb sh sh hu (by rw [la.2.2]; exact h)
theorem cmp_same_ne {d : Dat} (N : News h₀ L s.heap news) (ha : DatIn news a d) (hb : DatIn news b d) (ka : okD 8 d = true) (hu : A.units + 64 < cLine)
    (h : Q (.bool false) s) : wpAny (model prog w) A (compareOp .NotEq a b) Q E s := by
  obtain ⟨as, ra⟩ := okd_in N 8 ha ka
  obtain ⟨bs, rb⟩ := okd_in N 8 hb ka
  have la := okd_facts 8 d ka
  have sh : SeqAt.shaped (kqdP d) = true := by unfold SeqAt.shaped; rw [la.1, Bool.true_and]; exact decide_eq_true (Nat.le_trans la.2.1 (by decide))
  exact SeqAt.compareNe_shaped ra rb sh sh hu (by rw [la.2.2]; exact h)
end
theorem okd_cont (c : Int) (n : Nat) : okD (n + 1) (contD c) = true := by simp [okD, strOk_summary]
theorem okd_head (l : Lsa) (n : Nat) : okD (n + 1) (headD l) = true := by simp [okD]
theorem okd_key (k : Key) (n : Nat) : okD (n + 1) (keyD k) = true := by simp [okD]
theorem okd_lsa (l : Lsa) (n : Nat) : okD (n + 2) (lsaD l) = true := by
  show ([headD l, contD l.c].all (okD (n + 1))) = true
  rw [List.all_cons, okd_head, List.all_cons, okd_cont]; rfl
theorem okd_optD (o : Option Lsa) (n : Nat) : okD (n + 2) (optD o) = true := by
  cases o with
  | none => rfl
  | some l => exact okd_lsa l n
theorem okd_optI (o : Option Int) (n : Nat) : okD n (optI o) = true := by cases o <;> cases n <;> rfl
theorem okd_map {α : Type} {f : α → Dat} {n : Nat} (h : ∀ a, okD n (f a) = true) (l : List α) : okD (n + 1) (.list (l.map f)) = true := by
  simp [okD, h]
theorem okd_rep {d : Dat} {n : Nat} (k : Nat) (h : okD k d = true) : okD (k + 1) (.list (List.replicate n d)) = true := by
  simp [okD, h]
theorem map_const {α : Type} {f : α → Dat} {d : Dat} : ∀ (l : List α), (∀ b ∈ l, f b = d) → l.map f = List.replicate l.length d
  | [], _ => rfl
  | a :: l, h => by rw [List.map_cons, h a (.head _), map_const l fun b hb => h b (.tail _ hb)]; rfl
theorem refs_len (bs : List Base) : (refs bs).length = bs.length := by simp
theorem refs_snoc (bs : List Base) (b : Base) : refs (bs ++ [b]) = refs bs ++ [.ref b.x] := by simp
theorem take1_le (us : List Value) : (us.take 1).length ≤ 1 := by rw [List.length_take]; exact Nat.min_le_left _ _
abbrev allR (init : List Base) (last : Base) : List Value := refs init ++ [Value.ref last.x]
theorem Stand.sub {w : World} {a b : Led} {bs : List Base} (h : Stand w a bs) (hs : ∀ p ∈ a, p ∈ b) : Stand w b bs := fun x hx => ⟨dbObj_sub hs (h x hx).1, DbIs.sub hs (h x hx).2⟩
theorem Stand.part {w : World} {a : Led} {bs cs : List Base} (h : Stand w a bs) (hs : ∀ b ∈ cs, b ∈ bs) : Stand w a cs := fun x hx => h x (hs x hx)
theorem Stand.app {w : World} {a : Led} {bs cs : List Base} (h : Stand w a bs) (h' : Stand w a cs) : Stand w a (bs ++ cs) := fun x hx => (List.mem_append.mp hx).elim (h x) (h' x)
theorem Stand.ext {w : World} {a b : Led} {P W : List Addr} {bs : List Base} (h : Stand w a bs) (e : Ext P W a b) (hd : ∀ x ∈ bs, x.d ∉ W) : Stand w b bs := fun x hx => ⟨e.obj _ _ (h x hx).1, e.other _ _ _ (hd x hx) (h x hx).2⟩
theorem Stand.lt {w : World} {ns : Led} {bs : List Base} (h : Stand w ns bs) {B : Addr} (hl : ∀ p ∈ ns, p.1 < B) : ∀ a ∈ dsOf bs, a < B := by
  intro a ha
  obtain ⟨b, hb, rfl⟩ := List.mem_map.mp ha
  obtain ⟨xs, n, hm, _⟩ := (h b hb).2
  exact hl _ hm
theorem Apart.init {init : List Base} {last : Base} (h : Apart (init ++ [last])) : Apart init ∧ last.d ∉ dsOf init := by
  unfold Apart at h
  rw [List.map_append] at h
  have := List.nodup_append.mp h
  exact ⟨this.1, fun hm => this.2.2 _ hm _ (.head _) rfl⟩
theorem upd_ds (g : Base → List Rw) (bs : List Base) : dsOf (bs.map (Base.upd g)) = dsOf bs := by
  simp [dsOf, Base.upd]
theorem Ext.up {P W W' : List Addr} {a b : Led} (e : Ext P W a b) (h : ∀ x ∈ W, x ∈ W') : Ext P W' a b := Ext.weak e (fun _ h => h) h
theorem okd_bool (n : Nat) (b : Bool) : okD n (.bool b) = true := by cases n <;> rfl
theorem okd_int (n : Nat) (b : Int) : okD n (.int b) = true := by cases n <;> rfl
theorem okd_none (n : Nat) : okD n .none = true := by cases n <;> rfl
theorem first_item {w : World} {A : Around} {E : Value → Shared → Prop} {s : Shared} {h₀ : Heap} {L l : Addr} {news : Led} {us : List Value} {v : Value} {n : Nat} {value slice : PySem.Expr} {u : Tok} {Q : Value → Shared → Prop} (N : News h₀ L s.heap news) (hm : (l, W.listOf (v :: us).toArray n) ∈ news) (h : Q v s)
    (hs : subscripted slice false (.ref l) (.int 0 u) = operate [.ref l, .int 0 u] (getItem (.ref l) (.int 0 u))) :
    wpAny (model PR w) A (subscriptTail value slice (.ref l) (.int 0 u)) Q E s := litem N hm (by decide) (by decide) rfl h hs
theorem PoolIs.sub {a b : Led} {pa : Addr} (hs : ∀ p ∈ a, p ∈ b) (h : PoolIs a pa) : PoolIs b pa := by
  obtain ⟨la, vs, ns, c, t, n, n2, h1, h2, h3⟩ := h
  exact ⟨la, vs, ns, c, t, n, n2, hs _ h1, hs _ h2, h3⟩
end
section
theorem ne4 {b B : Nat} (h : b < B) : b ≠ B + 1 + 1 + 1 + 1 ∧ b ≠ B + 1 + 1 + 1 ∧ b ≠ B + 1 + 1 ∧ b ≠ B + 1 := by omega
section
variable {rest : Led} {B : Addr} {o1 o2 o3 o4 : Obj}
end
theorem pool_ne {news : Led} {h₀ h : Heap} {L pa b : Addr} {o : Obj} (N : News h₀ L h news) (hP : PoolIs news pa) (hb : (b, o) ∈ news) (hc : o.cls ≠ .type "list") : b ≠ pa := by
  rintro rfl
  obtain ⟨la, vs, ns, c, t, n, n2, hp, _⟩ := hP
  have := (N.get hb).symm.trans (N.get hp)
  cases this
  exact hc rfl
theorem key_in : ∀ {a b : Int}, 0 ≤ a → a < 3 → 0 ≤ b → b < 2 → (a, 1 + b) ∈ allKeys := by
  intro a b h0 h1 h2 h3
  have ha : a = 0 ∨ a = 1 ∨ a = 2 := by omega
  have hb : b = 0 ∨ b = 1 := by omega
  rcases ha with rfl | rfl | rfl <;> rcases hb with rfl | rfl <;> decide
theorem menu_item {w : World} {A : Around} {E : Value → Shared → Prop} {s : Shared} {h₀ : Heap} {L l : Addr} {news : Led} {us : List Value} {v : Int} {n : Nat} {value slice : PySem.Expr} {u : Tok} {Q : Value → Shared → Prop} (N : News h₀ L s.heap news) (hm : (l, W.listOf us.toArray n) ∈ news)
    (hb : ∀ x ∈ us, ∃ a t, x = .int a t ∧ 0 ≤ a ∧ a ≤ 3600) (h0 : 0 ≤ v) (h5 : v < (us.length : Int)) (hl : us.length ≤ 8) (h : ∀ a t, 0 ≤ a → a ≤ 3600 → Q (.int a t) s)
    (hs : subscripted slice false (.ref l) (.int v u) = operate [.ref l, .int v u] (getItem (.ref l) (.int v u))) :
    wpAny (model PR w) A (subscriptTail value slice (.ref l) (.int v u)) Q E s := by
  have hi : v.toNat < us.length := by omega
  obtain ⟨a, t, e, ha, hb'⟩ := hb _ (List.getElem_mem hi)
  refine litem N hm h0 (by omega) (v := .int a t) ?_ (h a t ha hb') hs
  rw [List.getElem?_eq_getElem hi, e]
theorem not_mem1 {a b : Addr} (h : a ≠ b) : a ∉ [b] := fun e => h (List.mem_singleton.mp e)
theorem menu_ok : ∀ {a b c d e : Int} {ta tb tc td te : Tok}, (0 ≤ a ∧ a ≤ 3600) → (0 ≤ b ∧ b ≤ 3600) → (0 ≤ c ∧ c ≤ 3600) → (0 ≤ d ∧ d ≤ 3600) → (0 ≤ e ∧ e ≤ 3600) → ∀ x ∈ [Value.int a ta, .int b tb, .int c tc, .int d td, .int e te], ∃ a t, x = .int a t ∧ 0 ≤ a ∧ a ≤ 3600 := by
  intro a b c d e ta tb tc td te h1 h2 h3 h4 h5 x hx
  simp only [List.mem_cons, List.not_mem_nil, or_false] at hx
  rcases hx with rfl | rfl | rfl | rfl | rfl
  · exact ⟨_, _, rfl, h1⟩
  · exact ⟨_, _, rfl, h2⟩
  · exact ⟨_, _, rfl, h3⟩
  · exact ⟨_, _, rfl, h4⟩
  · exact ⟨_, _, rfl, h5⟩
theorem put_hc {bs : List Base} {D0 : List Rw} {l : Lsa} {now : Int} (h : ∀ b ∈ bs, ∀ k, lookRow b.D k now = lookRow D0 k now) : ∀ b ∈ bs, changedB (lookRow b.D l.key now) l = changedB (lookRow D0 l.key now) l := fun b hb => by rw [h b hb]
theorem Ext.refl (P W : List Addr) (a : Led) : Ext P W a a := Ext.weak (Ext.of_sub fun _ h => h) (fun _ h => nomatch h) fun _ h => nomatch h
theorem Ext.tail {P W : List Addr} {a b : Led} {x : Addr × Obj} (h : Ext P W a b) : Ext P W a (x :: b) := h.trans (Ext.weak (Ext.of_sub fun _ h => .tail _ h) (fun _ h => nomatch h) fun _ h => nomatch h)
theorem Ext.step {P W P' W' : List Addr} {a b c : Led} (h : Ext P W a b) (e : Ext P' W' b c) (hP : ∀ x ∈ P', x ∈ P) (hW : ∀ x ∈ W', x ∈ W) : Ext P W a c := h.trans (e.weak hP hW)
theorem PoolIs.ext {a b : Led} {pa : Addr} {W : List Addr} (e : Ext [] W a b) (h : PoolIs a pa) : PoolIs b pa := by
  obtain ⟨la, vs, ns, c, t, n, n2, h1, h2, h3⟩ := h
  exact ⟨la, vs, ns, c, t, n, n2, e.lst _ h1 rfl List.not_mem_nil, e.lst _ h2 rfl List.not_mem_nil, h3⟩
theorem titem {w : World} {A : Around} {E : Value → Shared → Prop} {s : Shared} {h₀ : Heap} {L l : Addr} {news : Led} {us : List Value} {k : Int} {v : Value} {n : Nat} {value slice : PySem.Expr} {u : Tok} {Q : Value → Shared → Prop} (N : News h₀ L s.heap news) (hm : (l, tupO us n) ∈ news)
    (h0 : 0 ≤ k) (hfit : k < 2 ^ 63) (hv : us[k.toNat]? = some v) (h : Q v s)
    (hs : subscripted slice false (.ref l) (.int k u) = operate [.ref l, .int k u] (getItem (.ref l) (.int k u))) :
    wpAny (model PR w) A (subscriptTail value slice (.ref l) (.int k u)) Q E s := by
  have ht : IsTup s.heap l us.toArray := News.isTup N hm
  have hi : k.toNat < us.length := (List.getElem?_eq_some_iff.mp hv).1
  exact tail_any ht.typeIs slot_tuple_getitem.lookup (PyProof.Rows.getItem_tuple ht (by omega) hfit (seqIndex_of h0 (by rw [List.size_toArray]; omega)) (by simpa using hv) h) hs
theorem ladd {w : World} {A : Around} {E : Value → Shared → Prop} {s : Shared} {h₀ : Heap} {L l b : Addr} {m : Str → Option Value} {news : Led} {us vs : List Value} {n k : Nat} {Q : Value → Shared → Prop} (F : Fr h₀ L s.heap m) (N : News h₀ L s.heap news) (hm : (l, W.listOf us.toArray n) ∈ news) (hm2 : (b, W.listOf vs.toArray k) ∈ news)
    (hz : us.length ≤ 3) (hz2 : vs.length ≤ 3)
    (h : ∀ D h', Fr h₀ L h' m → News h₀ L h' ((D, W.listOf (us ++ vs).toArray 0) :: news) → (∀ p ∈ news, p.1 < D) → Q (.ref D) { s with heap := h' }) : wpAny (model PR w) A (binaryOp .Add (.ref l) (.ref b)) Q E s :=
  PyProof.Rows.add_lists F N ⟨_, (N _ hm).1, rfl, n, rfl⟩ ⟨_, (N _ hm2).1, rfl, k, rfl⟩ (fun h' F' N' => h _ h' F' N' (fun p hp => Heap.lt_size (N p hp).1)) (by rw [sizeLine_eq]; omega)
theorem rep1_le {k : Nat} {v : Value} (h : k ≤ 3) : (repL k [v]).length ≤ 3 := by
  have : (repL k [v]).length = k := by simp [repL]
  omega
theorem okd_app {n : Nat} {ds es : List Dat} (h : okD (n + 1) (.list ds) = true) (h' : okD (n + 1) (.list es) = true) : okD (n + 1) (.list (ds ++ es)) = true := by
  simp only [okD, List.all_append, Bool.and_eq_true] at *
  exact ⟨h, h'⟩
end
section
/-- a call in progress -/
structure Cx where
  A : Around
  h₀ : Heap
  L : Addr
  s0 : Shared
  E : Value → Shared → Prop
abbrev Loc := List (Str × Value)
def lk (l : Loc) (y : Str) : Option Value := l.lookup y
structure At (c : Cx) (l : Loc) (n : Led) (s : Shared) : Prop where
  F : Fr c.h₀ c.L s.heap (lk l)
  N : News c.h₀ c.L s.heap n
  g : s.gens = c.s0.gens
  d : s.drawn = c.s0.drawn
  o : s.os = c.s0.os
/-- t ends with v and the ledger n', of which f v n' holds -/
def G (w : World) (c : Cx) (l : Loc) (n : Led) {α : Type} (t : Sem α) (f : α → Led → Prop) : Prop :=
  ∀ s, At c l n s → wpAny (model PR w) c.A t (fun v s' => ∃ n', f v n' ∧ At c l n' s') c.E s
def GS (w : World) (c : Cx) (l : Loc) (n : Led) (t : Sem Flow) (f : Flow → Loc → Led → Prop) : Prop :=
  ∀ s, At c l n s → wpAny (model PR w) c.A t (fun v s' => ∃ l' n', f v l' n' ∧ At c l' n' s') c.E s
abbrev Cx.withE (c : Cx) (E : Value → Shared → Prop) : Cx := { c with E := E }
structure Ok (w : World) (K : Frag) (c : Cx) (D U : Nat) : Prop where
  X : K.In c.h₀
  T : ∃ p loose mean mg mb, Top p loose mean mg mb c.h₀
  canE : ∀ (E : Value → Shared → Prop) {f d u vs n l Post}, Ctr PR w K f d u vs n Post → d ≤ D → u ≤ U → ∀ {fp : Value → Led → Prop}, (∀ r n', Post r n' → fp r n') → G w (c.withE E) l n (call (.ref f) vs) fp
  hh : c.A.handled = none
  un : c.A.units + U < cLine
  dep : c.A.depth + D < recursionLimit
theorem Ok.can {w : World} {K : Frag} {c : Cx} {D U : Nat} (ok : Ok w K c D U) {f : Addr} {d u : Nat} {vs : List Value} {n : Led} {l : Loc} {Post : Value → Led → Prop} (C : Ctr PR w K f d u vs n Post) (hd : d ≤ D) (hu : u ≤ U) {fp : Value → Led → Prop} (h : ∀ r n', Post r n' → fp r n') : G w c l n (call (.ref f) vs) fp := ok.canE c.E C hd hu h
theorem Ok.withE {w : World} {K : Frag} {c : Cx} {D U : Nat} (ok : Ok w K c D U) (E : Value → Shared → Prop) : Ok w K (c.withE E) D U := ⟨ok.X, ok.T, ok.canE, ok.hh, ok.un, ok.dep⟩
/-- the exception's end -/
abbrev Pe (w : World) (c : Cx) (env : Env) : Prop := PassesOwn (model PR w) c.A env c.E
def retV : Flow → Value
  | .ret v => v
  | _ => .none
theorem At.eta {c : Cx} {l : Loc} {n : Led} {s : Shared} {s1 : Shared} (a : At c l n s) (h : c.s0 = s1) : s = { s1 with heap := s.heap, toks := s.toks } := by
  subst h
  cases s with
  | mk h g d t o =>
    have := a.g; have := a.d; have := a.o
    simp_all
theorem Ctr.start {w : World} {K : Frag} {f : Addr} {d u D U : Nat} {vs : List Value} {news : Led} {Post : Value → Led → Prop} {oc : Value} {od : Option Addr} {osl : Array (Option Value)} {name qual : Str} {params : Arguments} {body : List Stmt} {scope : Scope} {dV kV doc pm cdv ct : Value} {an : Option Addr} {binds l₀ : List (Str × Value)}
    (ho : K.lookup f = some ⟨oc, od, .func (fnOf name qual params body scope dV kV doc pm an cdv ct), osl⟩) (hcd : codeIn K cdv qual = true) (hbind : ∀ s : Shared, K.In s.heap → BindsTo s (fnOf name qual params body scope dV kV doc pm an cdv ct) ⟨vs, []⟩ binds) (hloc : ∀ y ∈ binds, scope.names.lookup y.1 = some .local)
    (hco : scope.isCoroutine = false) (hgen : scope.isGenerator = false) (hk : scope.kind = .function) (hcell : ∀ x ∈ scope.names, x.2 ≠ .cell) (hd : D + 1 ≤ d) (hu : U + 3 ≤ u)
    (hl0 : binds.reverse = l₀) (hb : ∀ c : Cx, Ok w K c D U → Pe w c (envX qual scope c.L f cdv []) → GS w c l₀ news (execs body (envX qual scope c.L f cdv [])) (fun fl _ n => Post (retV fl) n)) : Ctr PR w K f d u vs news Post := by
  subst hl0
  unfold Ctr
  intro p loose mean mg mb dp un gd cn cs a ccd cl outer A₀ base h₀ L m s Q E B F X N T hks hdp hun ret
  refine wpAny_call (code_def B F X N T rfl rfl hks ho hcd ?room (hbind s (X.keeps F.keep)) hloc ?_ hco hgen hk hcell)
  case room => show dp < recursionLimit; omega
  intro g L' h₁ FG F' N' B' X' T'
  have ok : ∀ Eo, PassesOwn (model PR w) ((ktrTop dp un gd cn cs L a ccd cl outer).deeper (envOf qual scope L' f cdv)) (envX qual scope L' f cdv []) Eo → Ok w K ⟨(ktrTop dp un gd cn cs L a ccd cl outer).deeper (envOf qual scope L' f cdv), g, L', s, Eo⟩ D U := by
    intro Eo _
    refine ⟨X', ⟨_, _, _, _, _, T'⟩, ?_, rfl, ?_, ?_⟩
    · intro _ f' d' u' vs' n' l' Post' C hd' hu' fp hfp s1 a1
      exact Ctr.use (cn := qual) (cs := scope) (a := f) (ccd := cdv) (cl := []) C B' a1.F X' a1.N T' hk (by show dp + 1 + d' < _; omega) (by show un + 3 + u' < _; omega) (fun r news' h' tk' F2 N2 P2 => ⟨news', hfp _ _ P2, F2, N2, a1.g, a1.d, a1.o⟩)
    · show un + 3 + U < _; omega
    · show dp + 1 + D < _; omega
  refine wpAny_mono (hb _ (ok _ (by passes_own)) (by passes_own) _ ⟨F', N', rfl, rfl, rfl⟩) ?_ (fun _ _ e => e)
  rintro fl s' ⟨l', n', hp, a'⟩
  refine leaveK_ a'.F a'.N fun kF kN => ?_
  have e := a'.eta rfl
  have q := ret (retV fl) n' s'.heap s'.toks kF kN hp
  rw [← e] at q
  cases fl <;> exact q
theorem At.tok {c : Cx} {l : Loc} {n : Led} {s : Shared} (a : At c l n s) (k : Nat) : At c l n { s with toks := k } := ⟨a.F, a.N, a.g, a.d, a.o⟩
theorem At.heap {c : Cx} {l l' : Loc} {n n' : Led} {s : Shared} (a : At c l n s) {h' : Heap} {k : Nat} (F : Fr c.h₀ c.L h' (lk l')) (N : News c.h₀ c.L h' n') : At c l' n' { s with heap := h', toks := k } := ⟨F, N, a.g, a.d, a.o⟩
theorem lk_cons {x : Str} {v : Value} {l : Loc} : (fun y => if y = x then some v else lk l y) = lk ((x, v) :: l) := by
  funext y
  unfold lk
  rw [List.lookup_cons]
  by_cases h : y = x
  · rw [if_pos h, show (y == x) = true from by simpa using h]
  · rw [if_neg h, show (y == x) = false from by simpa using h]
section
variable {w : World} {c : Cx} {l : Loc} {n : Led} {K : Frag} {ev : Env} {D U : Nat}
theorem G.mono {α : Type} {t : Sem α} {f f' : α → Led → Prop} (h : G w c l n t f) (hf : ∀ v n', f v n' → f' v n') : G w c l n t f' := fun s a => wpAny_mono (h s a) (fun _ _ ⟨n', p, q⟩ => ⟨n', hf _ _ p, q⟩) fun _ _ e => e
theorem GS.mono {t : Sem Flow} {f f' : Flow → Loc → Led → Prop} (h : GS w c l n t f) (hf : ∀ v l' n', f v l' n' → f' v l' n') : GS w c l n t f' := fun s a => wpAny_mono (h s a) (fun _ _ ⟨l', n', p, q⟩ => ⟨l', n', hf _ _ _ p, q⟩) fun _ _ e => e
section
variable {cn : Str} {cs : Scope} {a : Addr} {ccd : Value} {cl : List (Str × Addr)} {f : Value → Led → Prop} {x : Str} {pos : Pos}
theorem g_name {v : Value} (hv : lk l x = some v) (hc : cs.kind = .function) (hk : (envX cn cs c.L a ccd cl).kindOf x = some .local) (hb : (x == Str.ofString "__debug__") = false) (h : f v n) : G w c l n (eval (.Name x pos) (envX cn cs c.L a ccd cl)) f :=
  fun _ at_ => nameX_L at_.F hv ⟨n, h, at_⟩ hc hk hb
theorem g_glob {v : Value} (ok : Ok w K c D U) (hv : nsIn K mainGlobals x = some (some v)) (hc : cs.kind = .function) (hk : (envX cn cs c.L a ccd cl).kindOf x = some .globalImplicit) (hb : (x == Str.ofString "__debug__") = false) (h : f v n) : G w c l n (eval (.Name x pos) (envX cn cs c.L a ccd cl)) f := fun _ at_ => by
  obtain ⟨p, lo, _, mg, mb, T⟩ := ok.T; replace T := topRead_of T
  exact nameX_K at_.F ok.X T hv ⟨n, h, at_⟩ hc hk hb
theorem g_built {v : Value} (ok : Ok w K c D U) (hv : nsIn K mainGlobals x = some none) (hbt : bootBuiltins x = some v) (hnm : x ≠ Str.ofString "__name__") (hc : cs.kind = .function) (hk : (envX cn cs c.L a ccd cl).kindOf x = some .globalImplicit) (hb : (x == Str.ofString "__debug__") = false) (h : f v n) : G w c l n (eval (.Name x pos) (envX cn cs c.L a ccd cl)) f := fun _ at_ => by
  obtain ⟨p, lo, _, mg, mb, T⟩ := ok.T; replace T := topRead_of T
  exact nameX_B at_.F ok.X T hv hbt hnm ⟨n, h, at_⟩ hc hk hb
end
variable {env : Env} {pos : Pos}
theorem g_int {i : Int} {k : Nat} {f : Value → Led → Prop} (h : ∀ tk, f (.int i tk) n) : G w c l n (eval (.Constant (.int i) k pos) env) f := fun _ at_ => wpAny_Constant_int ⟨n, h _, at_.tok _⟩
theorem g_str {i : Str} {k : Nat} {f : Value → Led → Prop} (h : ∀ tk, f (.str i tk) n) : G w c l n (eval (.Constant (.str i) k pos) env) f := fun _ at_ => wpAny_Constant_str ⟨n, h _, at_.tok _⟩
theorem g_none {k : Nat} {f : Value → Led → Prop} (h : f .none n) : G w c l n (eval (.Constant .none k pos) env) f := fun _ at_ => wpAny_Constant_none ⟨n, h, at_⟩
theorem g_bool {b : Bool} {k : Nat} {f : Value → Led → Prop} (h : f (.bool b) n) : G w c l n (eval (.Constant (.bool b) k pos) env) f := fun _ at_ => wpAny_Constant_bool ⟨n, h, at_⟩
theorem g_subs {v i : PySem.Expr} {f : Value → Led → Prop} (h : G w c l n (eval v env) fun o n1 => G w c l n1 (eval i env) fun k n2 => G w c l n2 (subscriptTail v i o k) f) : G w c l n (eval (.Subscript v i pos) env) f := fun s at_ =>
  Subscript_ (wpAny_mono (h s at_) (fun _ _ ⟨_, p, q⟩ => wpAny_mono (p _ q) (fun _ _ ⟨_, p, q⟩ => p _ q) fun _ _ e => e) fun _ _ e => e)
theorem g_bin {x y : PySem.Expr} {op : Operator} {f : Value → Led → Prop} (h : G w c l n (eval x env) fun o n1 => G w c l n1 (eval y env) fun k n2 => G w c l n2 (binaryOp op o k) f) : G w c l n (eval (.BinOp x op y pos) env) f := fun s at_ =>
  wpAny_BinOp (wpAny_mono (h s at_) (fun _ _ ⟨_, p, q⟩ => wpAny_mono (p _ q) (fun _ _ ⟨_, p, q⟩ => p _ q) fun _ _ e => e) fun _ _ e => e)
/-- an item of a tuple -/
theorem g_tup {v i : PySem.Expr} {t : Addr} {us : List Value} {nn : Nat} {k : Int} {u : Tok} {x : Value} {f : Value → Led → Prop} (hm : (t, tupO us nn) ∈ n) (h0 : 0 ≤ k) (hf : k < 2 ^ 63) (hv : us[k.toNat]? = some x) (hs : subscripted i false (.ref t) (.int k u) = operate [.ref t, .int k u] (getItem (.ref t) (.int k u))) (h : f x n) : G w c l n (subscriptTail v i (.ref t) (.int k u)) f :=
  fun _ at_ => titem at_.N hm h0 hf hv ⟨n, h, at_⟩ hs
/-- the arguments -/
theorem ga_nil {f : List Value → Led → Prop} (h : f [] n) : G w c l n (spliced (backTo pos (starEach [] env))) f := fun _ at_ => args_nil ⟨n, h, at_⟩
theorem ga_cons {e : PySem.Expr} {es : List PySem.Expr} {f : List Value → Led → Prop} (hst : starEach (e :: es) env = (false, eval e env) :: starEach es env) (h : G w c l n (eval e env) fun v n1 => G w c l n1 (spliced (backTo pos (starEach es env))) fun vs n2 => f (v :: vs) n2) : G w c l n (spliced (backTo pos (starEach (e :: es) env))) f := fun s at_ =>
  args_cons (wpAny_mono (h s at_) (fun _ _ ⟨_, p, q⟩ => wpAny_mono (p _ q) (fun _ _ ⟨_, p, q⟩ => ⟨_, p, q⟩) fun _ _ e => e) fun _ _ e => e) hst
theorem g_callW {fv : Value} {first : List Value} {e : PySem.Expr} {es : List PySem.Expr} {f : Value → Led → Prop} (ok : Ok w K c D U) (hk : keepIn K fv = true) (hst : starEach (e :: es) env = (false, eval e env) :: starEach es env) (han : (backTo pos (starEach es env)).any (fun x => x.1) = false) (h : G w c l n (spliced (backTo pos (starEach (e :: es) env))) fun vs n2 => G w c l n2 (call fv (first ++ vs)) f) :
    G w c l n (callWith pos fv first (backTo pos (starEach (e :: es) env)) []) f := fun s at_ =>
  callWith_K (ok.X.keeps at_.F.keep) hk (wpAny_mono (h s at_) (fun _ _ ⟨_, p, q⟩ => ⟨ok.X.keeps q.F.keep, p _ q⟩) fun _ _ e => e) hst han
theorem g_callW0 {fv : Value} {first : List Value} {f : Value → Led → Prop} (ok : Ok w K c D U) (hk : keepIn K fv = true) (h : G w c l n (call fv (first ++ [])) f) : G w c l n (callWith pos fv first (backTo pos (starEach [] env)) []) f := fun s at_ =>
  callWith_K0 (ok.X.keeps at_.F.keep) hk (h s at_)
theorem g_call {fe : PySem.Expr} {es : List PySem.Expr} {f : Value → Led → Prop} (ac : eval (.Call fe es [] pos) env = (do let f ← eval fe env; callWith pos f [] (backTo pos (starEach es env)) (backToKw pos (keywordEach [] env)))) (h : G w c l n (eval fe env) fun fv n1 => G w c l n1 (callWith pos fv [] (backTo pos (starEach es env)) []) f) : G w c l n (eval (.Call fe es [] pos) env) f := fun s at_ =>
  Call_ (wpAny_mono (h s at_) (fun _ _ ⟨_, p, q⟩ => p _ q) fun _ _ e => e) ac
/-- a method is looked up -/
def GM (w : World) (c : Cx) (l : Loc) (n : Led) (t : Sem (Value × List Value)) (f : Value → List Value → Led → Prop) : Prop := G w c l n t fun x n' => f x.1 x.2 n'
theorem g_meth {oe : PySem.Expr} {es : List PySem.Expr} {name : Str} {apos : Pos} {pl : Sem Bool} {f : Value → Led → Prop} (ac : eval ((oe.Attribute name apos).Call es [] pos) env = (do let ov ← eval oe env; standAt apos.atName; let (f, first) ← holding [ov] (getMethod ov name pl); callWith pos f first (backTo pos (starEach es env)) []))
    (h : G w c l n (eval oe env) fun ov n1 => GM w c l n1 (getMethod ov name pl) fun fv first n2 => G w c l n2 (callWith pos fv first (backTo pos (starEach es env)) []) f) : G w c l n (eval ((oe.Attribute name apos).Call es [] pos) env) f := fun s at_ =>
  MethodCall_ (wpAny_mono (h s at_) (fun _ _ ⟨_, p, q⟩ => wpAny_mono (p _ q) (fun _ _ ⟨_, p, q⟩ => p _ q) fun _ _ e => e) fun _ _ e => e) ac
theorem g_dbmeth {x d : Addr} {name : Str} {pl : Sem Bool} {fa : Addr} {f : Value → List Value → Led → Prop} (ok : Ok w K c D U) (ho : DbObj n x d) (c1 : plainGet K 152 name = true) (c2 : findIn K (.ref 152) name = some (some (.ref fa))) (c3 : isFn K (.ref fa) = true) (c4 : ∀ hs t, getL name [⟨hs, .str (Str.ofString "rows") t, .ref d⟩] = some none) (h : f (.ref fa) [.ref x] n) :
    GM w c l n (getMethod (.ref x) name pl) f := fun _ at_ => by
  obtain ⟨dx, hs, t, nn, m1, m2⟩ := ho
  exact method_inst at_.F ok.X (InstAt.of_news at_.N m1 m2) c1 c2 c3 (c4 _ _) ⟨n, h, at_⟩
theorem g_tuple {es : List PySem.Expr} {k : Nat} {f : Value → Led → Prop} (h : G w c l n (spliced (backTo pos (starEach es env))) fun vs n1 => vs.length ≤ sizeLine ∧ ∀ D, (∀ p ∈ n1, p.1 < D) → let n' := (D, tupO vs 0) :: n1; f (.ref D) n') : G w c l n (eval (.Tuple es k pos) env) f := fun s at_ =>
  Tuple_ (wpAny_mono (h s at_) (fun _ _ ⟨_, p, q⟩ => kup_newTuple q.F q.N (fun D h' F' N' lt => ⟨_, p.2 D lt, q.heap F' N'⟩) p.1) fun _ _ e => e)
/-- statements -/
theorem gs_nil {f : Flow → Loc → Led → Prop} (h : f .next l n) : GS w c l n (execs [] env) f := fun _ at_ => wpAny_execs_nil ⟨l, n, h, at_⟩
/-- what is left to do behind a statement -/
def thenF (w : World) (c : Cx) (rest : List Stmt) (env : Env) (f : Flow → Loc → Led → Prop) : Flow → Loc → Led → Prop
  | .next, l, n => GS w c l n (execs rest env) f
  | fl, l, n => f fl l n
theorem gs_cons {st : Stmt} {rest : List Stmt} {f : Flow → Loc → Led → Prop} (h : GS w c l n (exec st env) (thenF w c rest env f)) : GS w c l n (execs (st :: rest) env) f := fun s at_ =>
  wpAny_execs_cons (wpAny_mono (h s at_) (fun fl _ ⟨_, _, p, q⟩ => by cases fl <;> first | exact p _ q | exact ⟨_, _, p, q⟩) fun _ _ e => e)
theorem gs_ret {e : PySem.Expr} {rest : List Stmt} {f : Flow → Loc → Led → Prop} (h : G w c l n (eval e env) fun v n' => f (.ret v) l n') : GS w c l n (execs (.Return (some e) pos :: rest) env) f :=
  gs_cons fun s at_ => wpAny_Return_some (wpAny_mono (h s at_) (fun _ _ ⟨_, p, q⟩ => ⟨_, _, p, q⟩) fun _ _ e => e)
theorem gs_assign {cn : Str} {cs : Scope} {a : Addr} {ccd : Value} {cl : List (Str × Addr)} {x : Str} {pos' : Pos} {e : PySem.Expr} {rest : List Stmt} {f : Flow → Loc → Led → Prop} (hc : cs.kind = .function) (hk : (envX cn cs c.L a ccd cl).kindOf x = some .local) (hsw : swapsWith e (some (.Name x pos')) pos.line (envX cn cs c.L a ccd cl) = pure false)
    (h : G w c l n (eval e (envX cn cs c.L a ccd cl)) fun v n' => GS w c ((x, v) :: l) n' (execs rest (envX cn cs c.L a ccd cl)) f) : GS w c l n (execs (.Assign [.Name x pos'] e pos :: rest) (envX cn cs c.L a ccd cl)) f :=
  gs_cons fun s at_ => wpAny_Assign_Name (wpAny_mono (h s at_) (fun _ _ ⟨_, p, q⟩ => storeX_L q.F q.N (fun h' F' N' => ⟨_, _, p, q.heap (lk_cons ▸ F') N'⟩) hc hk) fun _ _ e => e) hsw
theorem gs_if {test : PySem.Expr} {body orelse rest : List Stmt} {f : Flow → Loc → Led → Prop} (h : G w c l n (PySem.isTrue test env (eval test env)) fun b n' => (b = true → GS w c l n' (execs body env) (thenF w c rest env f)) ∧ (b = false → GS w c l n' (execs orelse env) (thenF w c rest env f))) : GS w c l n (execs (.If test body orelse pos :: rest) env) f :=
  gs_cons fun s at_ => wpAny_If (wpAny_mono (h s at_) (fun b _ ⟨_, p, q⟩ => by
    cases b
    · rw [if_neg (by decide)]; exact p.2 rfl _ q
    · rw [if_pos rfl]; exact p.1 rfl _ q) fun _ _ e => e)
theorem gs_if1 {test : PySem.Expr} {body rest : List Stmt} {f : Flow → Loc → Led → Prop} (h : G w c l n (PySem.isTrue test env (eval test env)) fun b n' => (b = true → GS w c l n' (execs body env) (thenF w c rest env f)) ∧ (b = false → GS w c l n' (execs rest env) f)) : GS w c l n (execs (.If test body [] pos :: rest) env) f :=
  gs_if (h.mono fun _ _ p => ⟨p.1, fun e => gs_nil (p.2 e)⟩)
/-- truth -/
theorem gb_cmp {x y : PySem.Expr} {op : CmpOp} {whole : Sem Value} {f : Bool → Led → Prop} (hb : behindInMarks op y = false) (h : G w c l n (eval x env) fun a n1 => G w c l n1 (eval y env) fun b n2 => G w c l n2 (compareOp op a b) fun v n3 => G w c l n3 (truthy v) f) : G w c l n (PySem.isTrue (.Compare x [op] [y] pos) env whole) f := fun s at_ =>
  wpAny_isTrue_Compare1 (wpAny_mono (h s at_) (fun _ _ ⟨_, p, q⟩ => wpAny_mono (p _ q) (fun _ _ ⟨_, p, q⟩ => wpAny_mono (p _ q) (fun _ _ ⟨_, p, q⟩ => p _ q) fun _ _ e => e) fun _ _ e => e) fun _ _ e => e) hb
theorem gt_bool {b : Bool} {f : Bool → Led → Prop} (h : f b n) : G w c l n (truthy (.bool b)) f := fun _ at_ => wpAny_truthy_bool ⟨n, h, at_⟩
end
section
variable {w : World} {c : Cx} {l : Loc} {n : Led} {K : Frag} {ev env : Env} {D U : Nat} {pos : Pos}
theorem g_add {a b : Int} {t u : Tok} {f : Value → Led → Prop} (h : ∀ tk, f (.int (a + b) tk) n) : G w c l n (binaryOp .Add (.int a t) (.int b u)) f := fun _ at_ => add_int ⟨n, h _, at_.tok _⟩
theorem g_sub {a b : Int} {t u : Tok} {f : Value → Led → Prop} (h : ∀ tk, f (.int (a - b) tk) n) : G w c l n (binaryOp .Sub (.int a t) (.int b u)) f := fun _ at_ => sub_int ⟨n, h _, at_.tok _⟩
theorem g_neg {a : Int} {t : Tok} {f : Value → Led → Prop} (h : ∀ tk, f (.int (-a) tk) n) : G w c l n (unaryOp .USub (.int a t)) f := fun _ at_ => neg_int ⟨n, h _, at_.tok _⟩
theorem g_un {x : PySem.Expr} {op : UnaryOp} {f : Value → Led → Prop} (h : G w c l n (eval x env) fun v n1 => G w c l n1 (unaryOp op v) f) : G w c l n (eval (.UnaryOp op x pos) env) f := fun s at_ =>
  UnaryOp_ (wpAny_mono (h s at_) (fun _ _ ⟨_, p, q⟩ => p _ q) fun _ _ e => e)
theorem g_ifexp {test x y : PySem.Expr} {f : Value → Led → Prop} (h : G w c l n (PySem.isTrue test env (eval test env)) fun b n1 => (b = true → G w c l n1 (eval x env) f) ∧ (b = false → G w c l n1 (eval y env) f)) : G w c l n (eval (.IfExp test x y pos) env) f := fun s at_ =>
  IfExp_ (wpAny_mono (h s at_) (fun b _ ⟨_, p, q⟩ => by
    cases b
    · rw [if_neg (by decide)]; exact p.2 rfl _ q
    · rw [if_pos rfl]; exact p.1 rfl _ q) fun _ _ e => e)
theorem gb_and {x : PySem.Expr} {rest : List PySem.Expr} {whole : Sem Value} {f : Bool → Led → Prop} (h : G w c l n (PySem.isTrue x env (eval x env)) fun b n1 => (b = true → G w c l n1 (PySem.isTrue (.BoolOp .And rest pos) env whole) f) ∧ (b = false → f false n1)) : G w c l n (PySem.isTrue (.BoolOp .And (x :: rest) pos) env whole) f := fun s at_ =>
  isTrue_and (wpAny_mono (h s at_) (fun b _ ⟨_, p, q⟩ => by
    cases b
    · rw [if_neg (by decide)]; exact ⟨_, p.2 rfl, q⟩
    · rw [if_pos rfl]; exact p.1 rfl _ q) fun _ _ e => e)
theorem gb_and0 {whole : Sem Value} {f : Bool → Led → Prop} (h : f true n) : G w c l n (PySem.isTrue (.BoolOp .And [] pos) env whole) f := fun _ at_ => isTrue_and_nil ⟨n, h, at_⟩
theorem gb_or {x : PySem.Expr} {rest : List PySem.Expr} {whole : Sem Value} {f : Bool → Led → Prop} (h : G w c l n (PySem.isTrue x env (eval x env)) fun b n1 => (b = true → f true n1) ∧ (b = false → G w c l n1 (PySem.isTrue (.BoolOp .Or rest pos) env whole) f)) : G w c l n (PySem.isTrue (.BoolOp .Or (x :: rest) pos) env whole) f := fun s at_ =>
  isTrue_or (wpAny_mono (h s at_) (fun b _ ⟨_, p, q⟩ => by
    cases b
    · rw [if_neg (by decide)]; exact p.2 rfl _ q
    · rw [if_pos rfl]; exact ⟨_, p.1 rfl, q⟩) fun _ _ e => e)
theorem gb_or0 {whole : Sem Value} {f : Bool → Led → Prop} (h : f false n) : G w c l n (PySem.isTrue (.BoolOp .Or [] pos) env whole) f := fun _ at_ => isTrue_or_nil ⟨n, h, at_⟩
section
variable {a b : Int} {t u : Tok} {f : Value → Led → Prop}
theorem gc_lt (h : f (.bool (decide (a < b))) n) : G w c l n (compareOp .Lt (.int a t) (.int b u)) f := fun _ at_ => lt_int ⟨n, h, at_⟩
theorem gc_le (h : f (.bool (decide (a ≤ b))) n) : G w c l n (compareOp .LtE (.int a t) (.int b u)) f := fun _ at_ => le_int ⟨n, h, at_⟩
theorem gc_gt (h : f (.bool (decide (b < a))) n) : G w c l n (compareOp .Gt (.int a t) (.int b u)) f := fun _ at_ => gt_int ⟨n, h, at_⟩
theorem gc_ge (h : f (.bool (decide (b ≤ a))) n) : G w c l n (compareOp .GtE (.int a t) (.int b u)) f := fun _ at_ => ge_int ⟨n, h, at_⟩
theorem gc_eq (h : f (.bool (a == b)) n) : G w c l n (compareOp .Eq (.int a t) (.int b u)) f := fun _ at_ => eq_int ⟨n, h, at_⟩
theorem gc_ne (h : f (.bool (a != b)) n) : G w c l n (compareOp .NotEq (.int a t) (.int b u)) f := fun _ at_ => ne_int ⟨n, h, at_⟩
theorem g_min (ok : Ok w K c D U) (h : ∀ tk, f (.int (if b < a then b else a) tk) n) : G w c l n (call (.builtin "min") [.int a t, .int b u]) f := fun _ at_ => min_two_N ok.hh at_.F at_.N fun _ _ F' N' => ⟨n, h _, at_.heap F' N'⟩
end
/-- data like and unlike -/
theorem gc_same_ne {x y : Value} {d : Dat} {f : Value → Led → Prop} (ok : Ok w K c D U) (ha : DatIn n x d) (hb : DatIn n y d) (ka : okD 8 d = true) (hU : 64 ≤ U) (h : f (.bool false) n) : G w c l n (compareOp .NotEq x y) f := fun _ at_ => cmp_same_ne at_.N ha hb ka (by have := ok.un; omega) ⟨n, h, at_⟩
open Classical in
/-- a tuple but for its first item; two tuples after each other -/
theorem g_rest {v : PySem.Expr} {k1 : Nat} {p1 p2 p3 : Pos} {f : Value → Led → Prop} (hs : ∀ t H : Addr, subscripted (.Slice (some (.Constant (.int 1) k1 p1)) none none p2) false (.ref t) (.ref H) = operate [.ref H, .ref t] (getItem (.ref t) (.ref H)))
    (h : G w c l n (eval v env) fun o n1 => ∃ t x xs nn, o = .ref t ∧ (t, tupO (x :: xs) nn) ∈ n1 ∧ (x :: xs).length ≤ sizeLine ∧ ∀ D, (∀ p ∈ n1, p.1 < D) → let n' := (D, tupO xs 0) :: n1; f (.ref D) n') : G w c l n (eval (.Subscript v (.Slice (some (.Constant (.int 1) k1 p1)) none none p2) p3) env) f := fun s at_ =>
  Subscript_ (wpAny_mono (h s at_) (fun _ s1 ⟨n1, ⟨t, x, xs, nn, e, hm, hz, p⟩, q⟩ => by
    subst e
    exact wpAny_Slice (evalPart_some_step (wpAny_Constant_int (evalPart_none_step (evalPart_none_step
      (kba_turn (value' := PySem.Expr.Name (Str.ofString "_") ⟨0, 0, 0, 0⟩) (fun _ => rfl) <| tup_from1 (s := { s1 with toks := s1.toks + 1 }) q.F q.N hm (fun D h' F' N' lt => ⟨_, p D lt, q.heap F' N'⟩) (hs _ _) (fun _ => by with_unfolding_all rfl) hz))))) ) fun _ _ e => e)
theorem g_cat {t b : Addr} {x y : Value} {xs ys : List Value} {i k : Nat} {f : Value → Led → Prop} (ht : (t, tupO (x :: xs) i) ∈ n) (hb : (b, tupO (y :: ys) k) ∈ n) (hz : (x :: xs).length + (y :: ys).length ≤ sizeLine) (h : ∀ D, (∀ p ∈ n, p.1 < D) → let n' := (D, tupO ((x :: xs) ++ (y :: ys)) 0) :: n; f (.ref D) n') : G w c l n (binaryOp .Add (.ref t) (.ref b)) f := fun _ at_ =>
  tup_add at_.F at_.N ht hb (fun D h' F' N' lt => ⟨_, h D lt, at_.heap F' N'⟩) hz
end
/-- what a turn of a loop leaves -/
def loopF (w : World) (c : Cx) (rest : List Stmt) (env : Env) (I : Addr) (oI : Obj) (J : Loc → Led → Prop) (f : Flow → Loc → Led → Prop) : Flow → Loc → Led → Prop
  | .ret v, l, n => f (.ret v) l n
  | .brk, l, n => GS w c l n (execs rest env) f
  | _, l, n => (I, oI) ∈ n ∧ ∃ n0 : Led, (∀ p ∈ n0, p ∈ n ∧ p.1 ≠ I) ∧ J l n0
theorem News.less {h₀ h : Heap} {L : Addr} {n n0 : Led} (N : News h₀ L h n) (hs : ∀ p ∈ n0, p ∈ n) : News h₀ L h n0 := fun p hp => N p (hs p hp)
section
variable {w : World} {c : Cx} {l : Loc} {n : Led} {K : Frag} {D U : Nat} {pos : Pos}
theorem gs_for_list {cn : Str} {cs : Scope} {a : Addr} {ccd : Value} {cl : List (Str × Addr)} {x : Str} {px : Pos} {iter : PySem.Expr} {body rest : List Stmt} {f : Flow → Loc → Led → Prop} (ok : Ok w K c D U) (hpe : Pe w c (envX cn cs c.L a ccd cl)) (hx : (envX cn cs c.L a ccd cl).kindOf x = some .local) (hp : ((envX cn cs c.L a ccd cl).scope.kind == .class || ((envX cn cs c.L a ccd cl).scope.kind == .module && (envX cn cs c.L a ccd cl).locals != (envX cn cs c.L a ccd cl).globals)) = false) (hs : ∀ v, foldedSetIterable iter (envX cn cs c.L a ccd cl) v = pure v)
    (h : G w c l n (eval iter (envX cn cs c.L a ccd cl)) fun v n1 => ∃ (la : Addr) (vs : List Value) (nn : Nat) (J : Nat → Loc → Led → Prop), v = .ref la ∧ (la, W.listOf vs.toArray nn) ∈ n1 ∧ J 0 l n1 ∧ (∀ i l' n', J i l' n' → (la, W.listOf vs.toArray nn) ∈ n') ∧
      (∀ i v l' ns I oI, vs[i]? = some v → J i l' ns → (∀ p ∈ ns, p.1 ≠ I) → oI.cls = .type "list_iterator" → GS w c ((x, v) :: l') ((I, oI) :: ns) (execs body (envX cn cs c.L a ccd cl)) (loopF w c rest (envX cn cs c.L a ccd cl) I oI (J (i + 1)) f)) ∧
      (∀ l' n', J vs.length l' n' → GS w c l' n' (execs rest (envX cn cs c.L a ccd cl)) f)) : GS w c l n (execs (.For (.Name x px) iter body [] pos :: rest) (envX cn cs c.L a ccd cl)) f :=
  gs_cons fun s at_ => by
    refine for_my (h₀ := c.h₀) (m := lk l) at_.F hx hp ?_ hs hpe
    refine wpAny_mono (h s at_) (fun v s1 ⟨n1, ⟨la, vs, nn, J, e, hm, hj, hK, turn, done⟩, q⟩ => ?_) fun _ _ e => e
    subst e
    refine loop_list (vs := vs) (nn := nn) (m₀ := lk l) (news := n1) (fun i m ns => ∃ l', m = lk l' ∧ J i l' ns) ok.hh hm q.F q.N ⟨l, rfl, hj⟩ (fun i m ns ⟨l', _, hJ⟩ => hK i l' ns hJ) ?_ ?_
    · rintro i v m₁ ns h' tk I oI hv ⟨l', rfl, hJ⟩ hoff hcI F' N'
      refine wpAny_mono (turn i v l' ns I oI hv hJ hoff hcI _ ⟨lk_cons ▸ F', N', q.g, q.d, q.o⟩) (fun fl s2 ⟨l2, n2, p2, q2⟩ => ?_) fun _ _ e => e
      have e2 : s2 = { s1 with heap := s2.heap, toks := s2.toks } := by
        have e3 := q2.eta rfl
        rw [e3]; show Shared.mk _ _ _ _ _ = Shared.mk _ _ _ _ _
        rw [q.g, q.d, q.o]
      have fin : ((I, oI) ∈ n2 ∧ ∃ n0 : Led, (∀ p ∈ n0, p ∈ n2 ∧ p.1 ≠ I) ∧ J (i + 1) l2 n0) → ∃ h' tk m' all, s2 = { s1 with heap := h', toks := tk } ∧ Fr c.h₀ c.L h' m' ∧ News c.h₀ c.L h' all ∧ (I, oI) ∈ all ∧ ∃ l', m' = lk l' ∧ J (i + 1) l' (all.filter fun p => decide (p.1 ≠ I)) := by
        rintro ⟨hI, n0, hn0, hJ2⟩
        refine ⟨s2.heap, s2.toks, lk l2, (I, oI) :: n0, e2, q2.F, News.less q2.N (fun p hp => by
          rcases List.mem_cons.mp hp with rfl | hp
          · exact hI
          · exact (hn0 p hp).1), .head _, l2, rfl, ?_⟩
        rw [show ((I, oI) :: n0).filter (fun p => decide (p.1 ≠ I)) = n0 from off_suf1 (tl := []) fun p hp => (hn0 p hp).2]
        exact hJ2
      cases fl with
      | ret v => exact ⟨l2, n2, p2, q2⟩
      | brk => exact ⟨l2, n2, p2, q2⟩
      | next => exact fin p2
      | cont => exact fin p2
    · rintro m₁ ns h' tk ⟨l', rfl, hJ⟩ F' N'
      exact ⟨l', ns, done l' ns hJ, ⟨F', N', q.g, q.d, q.o⟩⟩
end
section
variable {w : World} {c : Cx} {l : Loc} {n : Led} {K : Frag} {D U : Nat} {pos : Pos}
theorem gs_assign2 {cn : Str} {cs : Scope} {a : Addr} {ccd : Value} {cl : List (Str × Addr)} {x y : Str} {elts : List PySem.Expr} {k : Nat} {tpos : Pos} {e : PySem.Expr} {rest : List Stmt} {f : Flow → Loc → Led → Prop} (ok : Ok w K c D U) (hc : cs.kind = .function) (hx : (envX cn cs c.L a ccd cl).kindOf x = some .local) (hy : (envX cn cs c.L a ccd cl).kindOf y = some .local)
    (hs1 : swapsWithSole [.Tuple elts k tpos] e pos.line (envX cn cs c.L a ccd cl) = pure false) (hs2 : swappedStores [.Tuple elts k tpos] e (envX cn cs c.L a ccd cl) = pure (some [x, y]))
    (h : G w c l n (eval e (envX cn cs c.L a ccd cl)) fun v n1 => ∃ (t : Addr) (u1 u2 : Value) (nn : Nat), v = .ref t ∧ (t, tupO [u1, u2] nn) ∈ n1 ∧ GS w c ((x, u1) :: (y, u2) :: l) n1 (execs rest (envX cn cs c.L a ccd cl)) f) : GS w c l n (execs (.Assign [.Tuple elts k tpos] e pos :: rest) (envX cn cs c.L a ccd cl)) f :=
  gs_cons fun s at_ => Assign_Tuple_swapped (wpAny_mono (h s at_) (fun _ s1 ⟨n1, ⟨t, u1, u2, nn, e, hm, p⟩, q⟩ => by
    subst e
    refine unpackItemsN_ q.F q.N (News.isTup q.N hm) ok.hh rfl (fun h' F' N' => ?_)
    refine wpAny_assignInOrder_more (bindName_ (storeX_L (s := { s1 with heap := h' }) F' N' (fun h2 F2 N2 => ?_) hc hy))
    refine wpAny_assignInOrder_more (bindName_ (storeX_L (m := lk ((y, u2) :: l)) (lk_cons ▸ F2) N2 (fun h3 F3 N3 => ?_) hc hx))
    exact wpAny_assignInOrder_none ⟨_, _, p, ⟨lk_cons ▸ F3, N3, q.g, q.d, q.o⟩⟩) fun _ _ e => e) hs1 hs2
end
theorem lk_skip {x y : Str} {v : Value} {l : Loc} {r : Option Value} (h : (x == y) = false) (e : lk l x = r) : lk ((y, v) :: l) x = r := by
  unfold lk at *
  rw [List.lookup_cons, h]
  exact e
theorem suf_sub {a b : Led} (h : a <:+ b) : ∀ p ∈ a, p ∈ b := fun _ hp => h.subset hp
theorem g_callB {w : World} {c : Cx} {l : Loc} {n : Led} {env : Env} {pos : Pos} {id : String} {e : PySem.Expr} {es : List PySem.Expr} {f : Value → Led → Prop} (hst : starEach (e :: es) env = (false, eval e env) :: starEach es env) (han : (backTo pos (starEach es env)).any (fun x => x.1) = false) (h : G w c l n (spliced (backTo pos (starEach (e :: es) env))) fun vs n2 => G w c l n2 (call (.builtin id) vs) f) :
    G w c l n (callWith pos (.builtin id) [] (backTo pos (starEach (e :: es) env)) []) f := fun s at_ =>
  callWith_builtin1 (wpAny_mono (h s at_) (fun _ _ ⟨_, p, q⟩ => p _ q) fun _ _ e => e) hst han
theorem sub_chain {a b c : Led} (h : b <:+ c) (k : ∀ p ∈ a, p ∈ b) : ∀ p ∈ a, p ∈ c := fun p hp => h.subset (k p hp)
theorem gs_let {w : World} {c : Cx} {l : Loc} {n : Led} {t : Sem Flow} {f : Flow → Loc → Led → Prop} (k : let l' := l; let n' := n; let f' := f; GS w c l' n' t f') : GS w c l n t f := k
section
variable {w : World} {c : Cx} {l : Loc} {n : Led} {K : Frag} {D U : Nat} {pos : Pos}
theorem At.like {c : Cx} {l l2 : Loc} {n n2 : Led} {s1 s2 : Shared} (q : At c l n s1) (q2 : At c l2 n2 s2) : s2 = { s1 with heap := s2.heap, toks := s2.toks } := by
  have e3 := q2.eta rfl
  rw [e3]; show Shared.mk _ _ _ _ _ = Shared.mk _ _ _ _ _
  rw [q.g, q.d, q.o]
theorem gs_for_rows {cn : Str} {cs : Scope} {a : Addr} {ccd : Value} {cl : List (Str × Addr)} {x : Str} {px : Pos} {iter : PySem.Expr} {body rest : List Stmt} {f : Flow → Loc → Led → Prop} (ok : Ok w K c D U) (hpe : Pe w c (envX cn cs c.L a ccd cl)) (hx : (envX cn cs c.L a ccd cl).kindOf x = some .local) (hp : ((envX cn cs c.L a ccd cl).scope.kind == .class || ((envX cn cs c.L a ccd cl).scope.kind == .module && (envX cn cs c.L a ccd cl).locals != (envX cn cs c.L a ccd cl).globals)) = false) (hs : ∀ v, foldedSetIterable iter (envX cn cs c.L a ccd cl) v = pure v)
    (h : G w c l n (eval iter (envX cn cs c.L a ccd cl)) fun v n1 => ∃ (d : Addr) (R : List Rw) (J : Nat → Loc → Led → Prop), v = .ref d ∧ DbIs w n1 d R ∧ J 0 l n1 ∧ (∀ i l' n', J i l' n' → ∀ p ∈ n1, p ∈ n') ∧
      (∀ i r ka l' ns I oI, R[i]? = some r → rowAt R r.1.key = some r → DatIn ns (.ref ka) (keyD r.1.key) → DbIs w ns d R → J i l' ns → (∀ p ∈ ns, p.1 ≠ I) → oI.cls ≠ .type "tuple" → GS w c ((x, .ref ka) :: l') ((I, oI) :: ns) (execs body (envX cn cs c.L a ccd cl)) (loopF w c rest (envX cn cs c.L a ccd cl) I oI (J (i + 1)) f)) ∧
      (∀ l' n', J R.length l' n' → GS w c l' n' (execs rest (envX cn cs c.L a ccd cl)) f)) : GS w c l n (execs (.For (.Name x px) iter body [] pos :: rest) (envX cn cs c.L a ccd cl)) f :=
  gs_cons fun s at_ => by
    refine for_my (h₀ := c.h₀) (m := lk l) at_.F hx hp ?_ hs hpe
    refine wpAny_mono (h s at_) (fun v s1 ⟨n1, ⟨d, R, J, e, hdb, hj, hK, turn, done⟩, q⟩ => ?_) fun _ _ e => e
    subst e
    obtain ⟨xs, nn, hm, hx', hn, hk, lo⟩ := hdb
    have N := q.N
    have F := q.F
    have hR : RawD s1.heap d (xs.map (entryOfKey (TK w))) nn := N.get hm
    have hlt := Heap.lt_size (N.get hm)
    have hne : d ≠ s1.heap.objs.size := Nat.ne_of_lt hlt
    have Wk := raw_walks (prog := PR) (w := w) (A := c.A) (I := s1.heap.objs.size) (d := d) (es := xs.map (entryOfKey (TK w))) (ep := nn) ok.hh hne
    refine raw_iter lo hR ?_
    have hlen : (xs.map (entryOfKey (TK w))).length = R.length := by rw [List.length_map, hx'.length]
    refine loop_rule (K := [(d, rowsO w xs nn)]) (ic := "dict_keyiterator") (fun i m ns => ∃ l', m = lk l' ∧ J i l' ns) Wk (fun i h st => ?_) (fun i m ns hJ p hp => ?_) (Nat.ne_of_lt F.ns.lt) (next_is_new F) (fun p hp => Nat.ne_of_lt (Heap.lt_size (N p hp).1))
      ⟨⟨_, Heap.get?_push_size _ rfl, rfl, rfl⟩, Heap.get?_push_of_some _ hR⟩ (F.push _) (fun p hp => ⟨Heap.get?_push_of_some _ (N p hp).1, (N p hp).2⟩) ⟨l, rfl, hj⟩ ?_ ?_
    · obtain ⟨o, e, hc, _⟩ := st.1
      exact ⟨o, e, hc⟩
    · obtain ⟨l', _, hJ⟩ := hJ
      rw [List.mem_singleton.mp hp]; exact hK _ _ _ hJ _ hm
    · rintro i v m₁ ns h' tk oI hi ⟨e, he, rfl⟩ ⟨l', rfl, hJ⟩ hoff hc F₁ N₁
      obtain ⟨r, ka, hr, hek, hD⟩ := xs_get hx' he
      rw [hek] at F₁
      have hs' := hK _ _ _ hJ
      refine wpAny_mono (turn i r ka l' ns _ oI hr (rowAt_get hn hr) (DatIn.mono hs' hD) (DbIs.sub hs' ⟨xs, nn, hm, hx', hn, hk, lo⟩) hJ hoff (by rw [hc]; decide) _ ⟨lk_cons ▸ F₁, N₁, q.g, q.d, q.o⟩) (fun fl s2 ⟨l2, n2, p2, q2⟩ => ?_) fun _ _ e => e
      have e2 := At.like q q2
      have fin : ((s1.heap.objs.size, oI) ∈ n2 ∧ ∃ n0 : Led, (∀ p ∈ n0, p ∈ n2 ∧ p.1 ≠ s1.heap.objs.size) ∧ J (i + 1) l2 n0) → ∃ h' tk m' all, s2 = { s1 with heap := h', toks := tk } ∧ Fr c.h₀ c.L h' m' ∧ News c.h₀ c.L h' all ∧ (s1.heap.objs.size, oI) ∈ all ∧ ∃ l', m' = lk l' ∧ J (i + 1) l' (all.filter fun p => decide (p.1 ≠ s1.heap.objs.size)) := by
        rintro ⟨hI, n0, hn0, hJ2⟩
        refine ⟨s2.heap, s2.toks, lk l2, (s1.heap.objs.size, oI) :: n0, e2, q2.F, News.less q2.N (fun p hp => by
          rcases List.mem_cons.mp hp with rfl | hp
          · exact hI
          · exact (hn0 p hp).1), .head _, l2, rfl, ?_⟩
        rw [show ((s1.heap.objs.size, oI) :: n0).filter (fun p => decide (p.1 ≠ s1.heap.objs.size)) = n0 from off_suf1 (tl := []) fun p hp => (hn0 p hp).2]
        exact hJ2
      cases fl with
      | ret v => exact ⟨l2, n2, p2, q2⟩
      | brk => exact ⟨l2, n2, p2, q2⟩
      | next => exact fin p2
      | cont => exact fin p2
    · rintro m₁ ns h' tk ⟨l', rfl, hJ⟩ F' N'
      rw [hlen] at hJ
      exact ⟨l', ns, done l' ns hJ, ⟨F', N', q.g, q.d, q.o⟩⟩
end
section
variable {w : World} {c : Cx} {l : Loc} {n : Led} {K : Frag} {ev env : Env} {D U : Nat} {pos : Pos}
theorem g_attr {x attr : Str} {xp : Pos} {f : Value → Led → Prop} (ac : eval ((PySem.Expr.Name x xp).Attribute attr pos) env = (do let o ← eval (PySem.Expr.Name x xp) env; standAt pos.atName; let r ← holding [o] (getAttr o attr true); letTemporaryGo (PySem.Expr.Name x xp) o r; pure r)) (h : G w c l n (eval (.Name x xp) env) fun o n1 => G w c l n1 (getAttr o attr true) f) : G w c l n (eval (.Attribute (.Name x xp) attr pos) env) f := fun s at_ =>
  Attribute_Name_ (wpAny_mono (h s at_) (fun _ _ ⟨_, p, q⟩ => p _ q) fun _ _ e => e) ac
theorem g_rowsattr {x d : Addr} {at' : Option Value} {f : Value → Led → Prop} (ok : Ok w K c D U) (ho : DbObj n x d) (c1 : plainGet K 152 (Str.ofString "rows") = true) (c2 : hasDictIn K 152 = true) (c3 : findIn K (.ref 152) (Str.ofString "rows") = some at') (c4 : noGet K at' = true) (c5 : ∀ hs t, getL (Str.ofString "rows") [⟨hs, .str (Str.ofString "rows") t, .ref d⟩] = some (some (.ref d))) (c6 : handedIn (.ref d) = true) (h : f (.ref d) n) : G w c l n (getAttr (.ref x) (Str.ofString "rows") true) f := fun _ at_ => by
  obtain ⟨dx, hs, t, nn, m1, m2⟩ := ho
  exact get_own at_.F ok.X (InstAt.of_news at_.N m1 m2) c1 c2 c3 c4 (c5 _ _) c6 ⟨n, h, at_.tok _⟩
theorem gc_is_nn {f : Value → Led → Prop} (h : f (.bool true) n) : G w c l n (compareOp .Is .none .none) f := fun _ at_ => is_none_none ⟨n, h, at_⟩
theorem gc_is_in {a : Int} {t : Tok} {f : Value → Led → Prop} (h : f (.bool false) n) : G w c l n (compareOp .Is (.int a t) .none) f := fun _ at_ => is_int_none ⟨n, h, at_⟩
theorem gc_isnot_in {a : Int} {t : Tok} {f : Value → Led → Prop} (h : f (.bool true) n) : G w c l n (compareOp .IsNot (.int a t) .none) f := fun _ at_ => isnot_int_none ⟨n, h, at_⟩
theorem g_rowitem {v i : PySem.Expr} {d ka : Addr} {k : Key} {r : Rw} {R : List Rw} {f : Value → Led → Prop} (ok : Ok w K c D U) (hU : 64 ≤ U) (hdb : DbIs w n d R) (hk : DatIn n (.ref ka) (keyD k)) (hr : rowAt R k = some r) (hs : subscripted i false (.ref d) (.ref ka) = operate [.ref d, .ref ka] (getItem (.ref d) (.ref ka))) (h : ∀ x, DatIn n x (rvD r) → f x n) : G w c l n (subscriptTail v i (.ref d) (.ref ka)) f := fun s at_ =>
  kba_turn (value' := PySem.Expr.Name (Str.ofString "_") ⟨0, 0, 0, 0⟩) (fun _ => rfl) (rows_item at_.N hdb hk (by have := ok.un; omega) hr (fun x tk hx => ⟨n, h x hx, at_.tok _⟩) hs (fun _ => by with_unfolding_all rfl))
/-- a, b = a tuple -/
theorem gs_unpack2 {cn : Str} {cs : Scope} {a : Addr} {ccd : Value} {cl : List (Str × Addr)} {x y : Str} {px py : Pos} {k : Nat} {tpos : Pos} {e : PySem.Expr} {rest : List Stmt} {f : Flow → Loc → Led → Prop} (ok : Ok w K c D U) (hc : cs.kind = .function) (hx : (envX cn cs c.L a ccd cl).kindOf x = some .local) (hy : (envX cn cs c.L a ccd cl).kindOf y = some .local)
    (hs1 : swapsWithSole [.Tuple [.Name x px, .Name y py] k tpos] e pos.line (envX cn cs c.L a ccd cl) = pure false) (hs2 : swappedStores [.Tuple [.Name x px, .Name y py] k tpos] e (envX cn cs c.L a ccd cl) = pure none)
    (h : G w c l n (eval e (envX cn cs c.L a ccd cl)) fun v n1 => ∃ (t : Addr) (u1 u2 : Value) (nn : Nat), v = .ref t ∧ (t, tupO [u1, u2] nn) ∈ n1 ∧ GS w c ((y, u2) :: (x, u1) :: l) n1 (execs rest (envX cn cs c.L a ccd cl)) f) : GS w c l n (execs (.Assign [.Tuple [.Name x px, .Name y py] k tpos] e pos :: rest) (envX cn cs c.L a ccd cl)) f :=
  gs_cons fun s at_ => Assign_Tuple (wpAny_mono (h s at_) (fun _ s1 ⟨n1, ⟨t, u1, u2, nn, e, hm, p⟩, q⟩ => by
    subst e
    refine unpackN_ q.F q.N (News.isTup q.N hm) ok.hh rfl rfl (fun h' F' N' => ?_)
    refine wpAny_assignInOrder_more (wpAny_assign_Name (storeX_L (s := { s1 with heap := h' }) F' N' (fun h2 F2 N2 => ?_) hc hx))
    refine wpAny_assignInOrder_more (wpAny_assign_Name (storeX_L (m := lk ((x, u1) :: l)) (lk_cons ▸ F2) N2 (fun h3 F3 N3 => ?_) hc hy))
    exact wpAny_assignInOrder_none ⟨_, _, p, ⟨lk_cons ▸ F3, N3, q.g, q.d, q.o⟩⟩) fun _ _ e => e) hs1 hs2
end
/-- a join: what is known behind a statement -/
def joinF (J : Loc → Led → Prop) (f : Flow → Loc → Led → Prop) : Flow → Loc → Led → Prop
  | .next, l, n => J l n
  | fl, l, n => f fl l n
section
variable {w : World} {c : Cx} {l : Loc} {n : Led} {env : Env} {pos : Pos}
theorem gs_join {st : Stmt} {rest : List Stmt} {f : Flow → Loc → Led → Prop} (J : Loc → Led → Prop) (h : GS w c l n (exec st env) (joinF J f)) (k : ∀ l' n', J l' n' → GS w c l' n' (execs rest env) f) : GS w c l n (execs (st :: rest) env) f :=
  gs_cons (h.mono fun fl l' n' p => by cases fl <;> first | exact k _ _ p | exact p)
theorem gx_if {test : PySem.Expr} {body orelse : List Stmt} {f : Flow → Loc → Led → Prop} (h : G w c l n (PySem.isTrue test env (eval test env)) fun b n' => (b = true → GS w c l n' (execs body env) f) ∧ (b = false → GS w c l n' (execs orelse env) f)) : GS w c l n (exec (.If test body orelse pos) env) f := fun s at_ =>
  wpAny_If (wpAny_mono (h s at_) (fun b _ ⟨_, p, q⟩ => by
    cases b
    · rw [if_neg (by decide)]; exact p.2 rfl _ q
    · rw [if_pos rfl]; exact p.1 rfl _ q) fun _ _ e => e)
theorem gc_isnot_nn {f : Value → Led → Prop} (h : f (.bool false) n) : G w c l n (compareOp .IsNot .none .none) f := fun _ at_ => isnot_none_none ⟨n, h, at_⟩
end
theorem thenF_next {w : World} {c : Cx} {rest : List Stmt} {env : Env} {f : Flow → Loc → Led → Prop} {l : Loc} {n : Led} (h : GS w c l n (execs rest env) f) : thenF w c rest env f .next l n := h
theorem conj_t {p q : Prop} (h : p) : (true = true → p) ∧ (true = false → q) := ⟨fun _ => h, (fun e => nomatch e)⟩
theorem conj_f {p q : Prop} (h : q) : (false = true → p) ∧ (false = false → q) := ⟨(fun e => nomatch e), fun _ => h⟩
theorem bindL_filter {k : Str → Option NameKind} : ∀ (binds l : Loc), bindL k binds (lk l) = lk ((binds.filter fun y => k y.1 == some .local).reverse ++ l)
  | [], l => rfl
  | (n, v) :: r, l => by
    show bindL k r (if k n = some .local then fun y => if y = n then some v else lk l y else lk l) = _
    by_cases hn : k n = some .local
    · rw [if_pos hn, lk_cons, bindL_filter r _, List.filter_cons_of_pos (by simpa using hn), List.reverse_cons, List.append_assoc]
      rfl
    · rw [if_neg hn, bindL_filter r _, List.filter_cons_of_neg (by simpa using hn)]
/-- as `Ctr.start`, for a def whose own names stand in cells (no parameter does) -/
theorem Ctr.startC {w : World} {K : Frag} {f : Addr} {d u D U : Nat} {vs : List Value} {news : Led} {Post : Value → Led → Prop} {oc : Value} {od : Option Addr} {osl : Array (Option Value)} {name qual : Str} {params : Arguments} {body : List Stmt} {scope : Scope} {dV kV doc pm cdv ct : Value} {an : Option Addr} {binds l₀ : List (Str × Value)}
    (ho : K.lookup f = some ⟨oc, od, .func (fnOf name qual params body scope dV kV doc pm an cdv ct), osl⟩) (hcd : codeIn K cdv qual = true) (hbind : ∀ s : Shared, K.In s.heap → BindsTo s (fnOf name qual params body scope dV kV doc pm an cdv ct) ⟨vs, []⟩ binds) (hloc : (binds.all fun y => scope.names.lookup y.1 == some .local || scope.names.lookup y.1 == some .cell) = true)
    (hnd : ((cellsFrom 0 scope.names []).map (·.1)).Nodup)
    (hco : scope.isCoroutine = false) (hgen : scope.isGenerator = false) (hk : scope.kind = .function) (hd : D + 1 ≤ d) (hu : U + 3 ≤ u) (hl0 : ∀ L, (binds.filter fun y => (envOfC qual scope L f cdv).kindOf y.1 == some .local).reverse = l₀)
    (hb : ∀ c : Cx, Ok w K c D U → Pe w c (envX qual scope c.L f cdv (cellsFrom (c.L + 1) scope.names [])) → ∀ cells, CellsAre (bindC (envOfC qual scope c.L f cdv).kindOf binds fun _ => none) (cellsFrom (c.L + 1) scope.names []) cells → (∀ p ∈ news, p.1 < c.L) → GS w c l₀ (cells ++ news) (execs body (envX qual scope c.L f cdv (cellsFrom (c.L + 1) scope.names []))) (fun fl _ n => Post (retV fl) n)) : Ctr PR w K f d u vs news Post := by
  unfold Ctr
  intro p loose mean mg mb dp un gd cn cs a ccd cl outer A₀ base h₀ L m s Q E B F X N T hks hdp hun ret
  refine wpAny_call (code_defC B F X N T rfl rfl hks ho hcd ?room (hbind s (X.keeps F.keep)) hloc hnd ?_ hco hgen hk)
  case room => show dp < recursionLimit; omega
  intro g L' h₁ tk cells FG F' N' Y' B' X' T' lt
  have F2 : Fr g L' h₁ (lk l₀) := by
    have e := bindL_filter (k := (envOfC qual scope L' f cdv).kindOf) binds []
    rw [List.append_nil, hl0 L'] at e
    rw [← e]
    exact F'
  have ok : ∀ Eo, PassesOwn (model PR w) ((ktrTop dp un gd cn cs L a ccd cl outer).deeper (envOfC qual scope L' f cdv)) (envX qual scope L' f cdv (cellsFrom (L' + 1) scope.names [])) Eo → Ok w K ⟨(ktrTop dp un gd cn cs L a ccd cl outer).deeper (envOfC qual scope L' f cdv), g, L', s, Eo⟩ D U := by
    intro Eo _
    refine ⟨X', ⟨_, _, _, _, _, T'⟩, ?_, rfl, ?_, ?_⟩
    · intro _ f' d' u' vs' n' l' Post' C hd' hu' fp hfp s1 a1
      exact Ctr.use (cn := qual) (cs := scope) (a := f) (ccd := cdv) (cl := cellsFrom (L' + 1) scope.names []) C B' a1.F X' a1.N T' hk (by show dp + 1 + d' < _; omega) (by show un + 3 + u' < _; omega) (fun r news' h' tk' F2 N2 P2 => ⟨news', hfp _ _ P2, F2, N2, a1.g, a1.d, a1.o⟩)
    · show un + 3 + U < _; omega
    · show dp + 1 + D < _; omega
  refine wpAny_mono (hb _ (ok _ (by passes_own)) (by passes_own) cells Y' lt _ ⟨F2, N', rfl, rfl, rfl⟩) ?_ (fun _ _ e => e)
  rintro fl s' ⟨l', n', hp, a'⟩
  refine leaveK_ a'.F a'.N fun kF kN => ?_
  have e := a'.eta rfl
  have q := ret (retV fl) n' s'.heap s'.toks kF kN hp
  rw [← e] at q
  cases fl <;> exact q
theorem g_cell {w : World} {c : Cx} {l : Loc} {n : Led} {cn : Str} {cs : Scope} {a : Addr} {ccd : Value} {cl : List (Str × Addr)} {f : Value → Led → Prop} {x : Str} {pos : Pos} {v : Value} {cc : Addr} {o : Obj} (hx : List.lookup x cl = some cc) (hm : (cc, o) ∈ n) (hd : o.data = .cell (some v)) (hc : cs.kind = .function) (hk : (envX cn cs c.L a ccd cl).kindOf x = some .cell) (hb : (x == Str.ofString "__debug__") = false) (h : f v n) : G w c l n (eval (.Name x pos) (envX cn cs c.L a ccd cl)) f :=
  fun _ at_ => nameX_C at_.N hx hm hd ⟨n, h, at_⟩ hc hk hb
section
variable {w : World} {c : Cx} {l : Loc} {n : Led} {env : Env} {pos : Pos}
theorem g_list {es : List PySem.Expr} {f : Value → Led → Prop} (h : G w c l n (spliced (backTo pos (starEach es env))) fun vs n1 => vs.length ≤ sizeLine ∧ ∀ D, (∀ p ∈ n1, p.1 < D) → let n' := (D, W.listOf vs.toArray 0) :: n1; f (.ref D) n') : G w c l n (eval (.List es pos) env) f := fun s at_ =>
  List_ (wpAny_mono (h s at_) (fun _ _ ⟨_, p, q⟩ => newList_K q.F q.N (fun D h' F' N' lt => ⟨_, p.2 D lt, q.heap F' N'⟩) p.1) fun _ _ e => e)
end
/-- a store into a cell: the ledger's entry of it is changed -/
theorem gs_assignC {w : World} {c : Cx} {l : Loc} {n : Led} {pos : Pos} {cn : Str} {cs : Scope} {a : Addr} {ccd : Value} {cl : List (Str × Addr)} {x : Str} {pos' : Pos} {e : PySem.Expr} {rest : List Stmt} {f : Flow → Loc → Led → Prop} {cc : Addr} (hlk : List.lookup x cl = some cc) (hc : cs.kind = .function) (hk : (envX cn cs c.L a ccd cl).kindOf x = some .cell) (hsw : swapsWith e (some (.Name x pos')) pos.line (envX cn cs c.L a ccd cl) = pure false)
    (h : G w c l n (eval e (envX cn cs c.L a ccd cl)) fun v n1 => ∃ (o : Obj) (v₀ : Option Value), (cc, o) ∈ n1 ∧ o.data = .cell v₀ ∧ ∀ o' : Obj, o'.data = .cell (some v) → (∃ h, News c.h₀ c.L h n1) → let n' := (cc, o') :: n1.filter (fun p => decide (p.1 ≠ cc)); GS w c l n' (execs rest (envX cn cs c.L a ccd cl)) f) : GS w c l n (execs (.Assign [.Name x pos'] e pos :: rest) (envX cn cs c.L a ccd cl)) f :=
  gs_cons fun s at_ => wpAny_Assign_Name (wpAny_mono (h s at_) (fun _ s1 ⟨n1, ⟨o, v₀, hm, hd, p⟩, q⟩ =>
    storeX_C (news := (cc, o) :: n1.filter (fun p => decide (p.1 ≠ cc))) q.F (News.less q.N fun p hp => by
      rcases List.mem_cons.mp hp with rfl | hp
      · exact hm
      · exact (List.mem_filter.mp hp).1) hlk (.head fun p hp => of_decide_eq_true (List.mem_filter.mp hp).2) hd (fun h' o' F' N' hd' => ⟨l, _, p o' hd' ⟨_, q.N⟩, ⟨F', N', q.g, q.d, q.o⟩⟩) hc hk) fun _ _ e => e) hsw
theorem mem_upK {a b : Led} {p : Addr × Obj} (h : p ∈ a) (k : ∀ p ∈ a, p ∈ b) : p ∈ b := k p h
end
section
example : True := by
  k_with_none
  k_with "memp" => first | (with_reducible exact List.mem_cons_self) | ((with_reducible refine List.mem_cons_of_mem _ ?_); k_extra "memp") | ((with_reducible refine List.mem_append_right _ ?_); k_extra "memp") | fail "no"
  k_with "sub" => first | with_reducible exact fun _ h => h | with_reducible assumption | ((with_reducible refine fun p h => List.mem_cons_of_mem _ ?_); revert p h; k_extra "sub") | ((with_reducible refine fun p h => List.mem_append_right _ ?_); revert p h; k_extra "sub") | ((with_reducible refine' sub_chain ?sh ?sk); (case sh => with_reducible assumption); (case sk => k_extra "sub")) | fail "no"
  k_with "memq" => first | with_reducible assumption | (refine' mem_upK ?hmq ?smq; (case hmq => with_reducible assumption); (case smq => k_extra "sub")) | k_extra "memp" | fail "no"
  k_with "lk" => first | exact rfl | with_reducible assumption | (refine' lk_skip rfl ?_; k_extra "lk") | fail "no"
  k_with "g1" => first
    | ((with_reducible refine' g_name ?gv ?ga ?gb ?gc ?_); (case ga => exact rfl); (case gb => exact rfl); (case gc => exact rfl); (case gv => k_extra "lk"))
    | ((with_reducible refine' g_cell ?gx ?gm ?gd ?ga ?gb ?gc ?_); (case ga => exact rfl); (case gb => exact rfl); (case gc => exact rfl); (case gx => exact rfl); (case gm => k_extra "memq"); (case gd => with_reducible assumption))
    | ((with_reducible refine' g_int ?_); intro tk)
    | (with_reducible refine' g_none ?_) | (with_reducible refine' g_bool ?_) | ((with_reducible refine' g_str ?_); intro tk)
    | ((with_reducible refine' g_glob ?go ?gv ?ga ?gb ?gc ?_); (case go => assumption); (case ga => exact rfl); (case gb => exact rfl); (case gc => exact rfl); (case gv => k_is))
    | ((with_reducible refine' g_built ?go ?gv ?gw ?gx ?ga ?gb ?gc ?_); (case go => assumption); (case ga => exact rfl); (case gb => exact rfl); (case gc => exact rfl); (case gv => k_is); (case gw => boot_fast); (case gx => decide))
    | ((with_reducible refine' gk_own ?gm ?gC ?gx ?ga ?gb ?gc ?_); (case ga => exact rfl); (case gb => exact rfl); (case gc => exact rfl); (case gC => with_reducible assumption); (case gx => with_reducible assumption); (case gm => k_extra "memq"))
    | ((with_reducible refine' gk_glob ?go ?gv ?gg ?ga ?gb ?gc ?_); (case go => assumption); (case gg => exact rfl); (case ga => exact rfl); (case gb => exact rfl); (case gc => exact rfl); (case gv => k_is))
    | ((with_reducible refine' gk_cell ?gx ?gm ?gd ?ga ?gb ?gc ?_); (case ga => exact rfl); (case gb => exact rfl); (case gc => exact rfl); (case gx => exact rfl); (case gm => k_extra "memq"); (case gd => with_reducible assumption))
    | ((with_reducible refine' gk_free ?gx ?gm ?gd ?ga ?gb ?gc ?ge ?_); (case ga => exact rfl); (case gb => exact rfl); (case gc => exact rfl); (case ge => exact rfl); (case gx => exact rfl); (case gm => k_extra "memq"); (case gd => with_reducible assumption))
    | (with_reducible refine' ga_nil ?_) | ((with_reducible refine' ga_cons ?ga ?_); (case ga => exact rfl))
    | ((with_reducible refine' g_meth ?ga ?_); (case ga => with_unfolding_all rfl))
    | ((with_reducible refine' g_call ?ga ?_); (case ga => with_unfolding_all rfl))
    | ((with_reducible refine' g_rest ?gs ?_); (case gs => (intro _ _; with_unfolding_all rfl)))
    | ((with_reducible refine' g_init ?gs ?_); (case gs => (intro _ _; with_unfolding_all rfl)))
    | ((with_reducible refine' g_one ?gs ?_); (case gs => (intro _ _; with_unfolding_all rfl)))
    | (with_reducible refine' g_subs ?_) | (with_reducible refine' g_bin ?_) | (with_reducible refine' g_tuple ?_) | (with_reducible refine' g_list ?_) | (with_reducible refine' g_un ?_) | (with_reducible refine' g_ifexp ?_)
    | ((with_reducible refine' g_callB ?ga ?gb ?_); (case ga => exact rfl); (case gb => exact rfl)) | ((with_reducible refine' g_callW ?go ?gv ?ga ?gb ?_); (case go => assumption); (case gv => k_is); (case ga => exact rfl); (case gb => exact rfl)) | ((with_reducible refine' g_callW0 ?go ?gv ?_); (case go => assumption); (case gv => k_is))
    | ((with_reducible refine' g_dbmeth ?gk ?go ?g1 ?g2 ?g3 ?g4 ?_); (case gk => assumption); (case go => with_reducible assumption); (case g1 => k_is); (case g2 => k_is); (case g3 => k_is); (case g4 => (intro _ _; k_get)))
    | ((with_reducible refine' g_attr ?ga ?_); (case ga => with_unfolding_all rfl))
    | ((with_reducible refine' g_rowsattr ?gk ?go ?g1 ?g2 ?g3 ?g4 ?g5 ?g6 ?_); (case gk => assumption); (case go => with_reducible assumption); (case g1 => k_is); (case g2 => k_is); (case g3 => k_is); (case g4 => k_is); (case g5 => (intro _ _; k_get)); (case g6 => k_handed))
    | (with_reducible refine' gc_is_nn ?_) | (with_reducible refine' gc_is_in ?_) | (with_reducible refine' gc_isnot_in ?_) | (with_reducible refine' gc_isnot_nn ?_) | (with_reducible refine' gc_is_rn ?_) | (with_reducible refine' gc_isnot_rn ?_)
    | (with_reducible refine' conj_t ?_) | (with_reducible refine' conj_f ?_)
    | (with_reducible refine' gs_nil ?_) | (with_reducible refine' thenF_next ?_) | (with_reducible refine' gs_ret ?_) | ((with_reducible refine' gs_assign ?ga ?gb ?gc ?_); (case ga => exact rfl); (case gb => exact rfl); (case gc => exact rfl))
    | ((with_reducible refine' gb_cmp ?ga ?_); (case ga => exact rfl)) | (with_reducible refine' gt_bool ?_) | (with_reducible refine' gb_and ?_) | (with_reducible refine' gb_and0 ?_) | (with_reducible refine' gb_or ?_) | (with_reducible refine' gb_or0 ?_) | (with_reducible refine' gb_not ?_)
    | ((with_reducible refine' g_cmp ?ga ?_); (case ga => exact rfl)) | (with_reducible refine' g_and ?_)
    | (with_reducible refine' gc_lt ?_) | (with_reducible refine' gc_le ?_) | (with_reducible refine' gc_gt ?_) | (with_reducible refine' gc_ge ?_) | (with_reducible refine' gc_eq ?_) | (with_reducible refine' gc_ne ?_)
    | ((with_reducible refine' g_add ?_); intro tk) | ((with_reducible refine' g_sub ?_); intro tk) | ((with_reducible refine' g_neg ?_); intro tk) | ((with_reducible refine' g_min ?go ?_); (case go => assumption); intro tk)
    | ((with_reducible refine' And.intro ?gz ?_); (case gz => exact Nat.le_of_ble_eq_true rfl); intro D' hD' n9')
    | ((with_reducible refine' g_cat ?gm ?gn ?gz ?_); (case gm => k_extra "memq"); (case gn => k_extra "memq"); (case gz => exact Nat.le_of_ble_eq_true rfl); intro D' hD' n9')
    | ((with_reducible refine' g_tup ?gm ?g0 ?gf ?gv ?gs ?_); (case gm => k_extra "memq"); (case g0 => decide); (case gf => decide); (case gv => exact rfl); (case gs => with_unfolding_all rfl))
    | fail "no"
  k_with "gi" => first | k_extra "g1" | (with_reducible refine' gs_if1 ?_) | (with_reducible refine' gs_if ?_) | fail "no"
  k_with "glc" => first
    | ((with_reducible refine' g_lc ?lb ?lc ?ld ?le ?lf ?li ?_); (case lb => with_unfolding_all rfl); (case lc => decide); (case ld => exact rfl); (case le => decide); (case lf => exact rfl); (case li => exact fun _ => rfl))
    | ((with_reducible refine' gs_lc ?la ?lb ?lc ?ld ?le ?lf ?lg ?lh ?li ?_); (case la => with_unfolding_all rfl); (case lb => with_unfolding_all rfl); (case lc => decide); (case ld => exact rfl); (case le => decide); (case lf => exact rfl); (case lg => exact rfl); (case lh => exact rfl); (case li => exact fun _ => rfl))
    | fail "no"
  trivial
theorem next_c (w : World) (news : Led) (x d : Addr) (R : List Rw) (router now : Int) (tr ts : Tok) (ho : DbObj news x d) (hdb : DbIs w news d R) :
   Ctr PR w (hd.heap_39 w.params) 149 8 900 [.ref x, .int router tr, .int now ts] news (PureD news (optI (nextT router (nowRows R now)))) := by
  refine' Ctr.start (D := 7) (U := 800) (binds := [(Str.ofString "self", .ref x), (Str.ofString "router", .int router tr), (Str.ofString "now", .int now ts)]) ?ho ?hcd ?hb ?hl ?c1 ?c2 ?c3 ?c4 ?d ?u rfl ?body
  case ho => k_is
  case hcd => k_is
  case hb => exact fun s X => binds_K X rfl (by k_is) rfl rfl rfl
  case hl => exact locs rfl
  case c1 => exact rfl
  case c2 => exact rfl
  case c3 => exact rfl
  case c4 => decide
  case d => decide
  case u => decide
  intro c ok pe
  repeat' (k_extra "gi")
  refine' gs_for_rows ok pe rfl rfl (fun _ => rfl) ?_
  repeat' (k_extra "gi")
  refine' ⟨d, R, fun i l' n' => (lk l' (Str.ofString "router") = some (.int router tr) ∧ lk l' (Str.ofString "self") = some (.ref x) ∧ lk l' (Str.ofString "now") = some (.int now ts) ∧ ∃ b, lk l' (Str.ofString "best") = some b ∧ DatIn n' b (optI (nextT router ((nowRows R now).take i)))) ∧ news <:+ n', rfl, hdb, ⟨⟨rfl, rfl, rfl, .none, rfl, .none⟩, List.suffix_refl _⟩, fun i l' n' h => suf_sub h.2, ?_, ?_⟩
  · rintro i r ka l' ns I oI hr hra hka hdb' ⟨⟨q1, q2, q3, b, q4, dB⟩, s4⟩ hoff hcI
    have sI := suf_sub (s4.trans (List.suffix_cons (I, oI) ns))
    have ho2 := dbObj_sub sI ho
    have hdb2 := DbIs.sub sI hdb
    have hk2 := DatIn.mono (fun p hp => List.mem_cons_of_mem (I, oI) hp) hka
    refine' gs_unpack2 ok rfl rfl rfl ?e1 ?e2 ?_
    case e1 => with_unfolding_all rfl
    case e2 => with_unfolding_all rfl
    repeat' (k_extra "gi")
    refine' g_rowitem ok (by decide) hdb2 hk2 hra ?hs ?_
    case hs => with_unfolding_all rfl
    intro xv dv
    obtain ⟨a1, m1, lv, t1, rfl, hm1, dl⟩ := rvD_open dv
    refine' ⟨a1, lv, .int r.2 t1, m1, rfl, hm1, ?_⟩
    repeat' (k_extra "gi")
    refine' gs_assign2 ok rfl ?e3 ?e4 ?e5 ?e6 ?_
    case e5 => with_unfolding_all rfl
    case e6 => with_unfolding_all rfl
    case e3 => exact rfl
    case e4 => exact rfl
    repeat' (k_extra "gi")
    refine' ok.can (aged_c w _ lv r.1 (now - r.2) _ dl) (by decide) (by decide) ?_
    intro r4 n4 P4
    have e4 := P4.1
    have s6 := suf_sub (s4.trans ((List.suffix_cons (I, oI) ns).trans e4))
    repeat' (k_extra "gi")
    obtain ⟨a4, m4, v4, c4, rfl, x4, H4, C4⟩ := lsaD_open P4.2
    obtain ⟨b4, k4, u40, u41, u42, u43, u44, u45, u46, rfl, y4⟩ := headD_open H4
    obtain ⟨kk, kn, kt0, kt1, kt2, ek, hkm⟩ := keyD_open hk2
    cases ek
    refine' ⟨D', _, _, 0, rfl, .head _, ?_⟩
    refine' gs_nil (thenF_next ?_)
    refine' gs_let ?_
    intro lB nB fB
    refine' gs_assign ?ga ?gb ?gc ?_
    case ga => exact rfl
    case gb => exact rfl
    case gc => exact rfl
    refine' G.mono (f := fun v n' => (∃ tk, v = .int (lim router (r.1.aged (now - r.2))) tk) ∧ n' = nB) ?_ ?_
    · repeat' (k_extra "gi")
      refine' ⟨fun e1 => ?_, fun e1 => ?_⟩
      · have h1 : r.1.b = router := eq_of_beq e1
        repeat' (k_extra "gi")
        refine' ⟨fun e2 => ?_, fun e2 => ?_⟩
        · repeat' (k_extra "gi")
          exact ⟨⟨_, by rw [lim, if_pos ⟨h1, of_decide_eq_true e2⟩]⟩, rfl⟩
        · repeat' (k_extra "gi")
          exact ⟨⟨_, by rw [lim, if_neg (fun h => absurd h.2 (of_decide_eq_false e2))]⟩, rfl⟩
      · have h1 : ¬ r.1.b = router := fun h => by rw [show (r.1.key.2 == router) = true from beq_iff_eq.mpr h] at e1; exact nomatch e1
        repeat' (k_extra "gi")
        exact ⟨⟨_, by rw [lim, if_neg (fun h => h1 h.1)]⟩, rfl⟩
    · rintro _ _ ⟨⟨tk, rfl⟩, rfl⟩
      have hst := nextT_snoc router ((nowRows R now).take i) (r.1.aged (now - r.2), now)
      rw [← take_snoc (nowRows_get hr)] at hst
      repeat' (k_extra "gi")
      refine' ⟨fun e1 => ?_, fun e1 => ?_⟩
      · cases hb : nextT router ((nowRows R now).take i) with
        | none =>
          rw [hb] at dB
          cases dB
          repeat' (k_extra "gi")
          rw [hb, step_none, if_pos (of_decide_eq_true e1)] at hst
          show (I, oI) ∈ _ ∧ ∃ n0 : Led, (∀ p ∈ n0, p ∈ _ ∧ p.1 ≠ I) ∧ _
          refine' ⟨List.mem_cons_of_mem _ (suf_sub e4 _ (.head _)), ns, fun p hp => ⟨List.mem_cons_of_mem _ (suf_sub e4 _ (.tail _ hp)), hoff p hp⟩, ⟨by k_extra "lk", by k_extra "lk", by k_extra "lk", _, by k_extra "lk", ?_⟩, s4⟩
          rw [hst]
          exact dat_int rfl
        | some bb =>
          rw [hb] at dB
          cases dB
          repeat' (k_extra "gi")
          refine' ⟨fun e2 => ?_, fun e2 => ?_⟩
          · repeat' (k_extra "gi")
            rw [hb, step_some, if_pos ⟨of_decide_eq_true e1, of_decide_eq_true e2⟩] at hst
            show (I, oI) ∈ _ ∧ ∃ n0 : Led, (∀ p ∈ n0, p ∈ _ ∧ p.1 ≠ I) ∧ _
            refine' ⟨List.mem_cons_of_mem _ (suf_sub e4 _ (.head _)), ns, fun p hp => ⟨List.mem_cons_of_mem _ (suf_sub e4 _ (.tail _ hp)), hoff p hp⟩, ⟨by k_extra "lk", by k_extra "lk", by k_extra "lk", _, by k_extra "lk", ?_⟩, s4⟩
            rw [hst]
            exact dat_int rfl
          · repeat' (k_extra "gi")
            rw [hb, step_some, if_neg (fun h => absurd h.2 (of_decide_eq_false e2))] at hst
            show (I, oI) ∈ _ ∧ ∃ n0 : Led, (∀ p ∈ n0, p ∈ _ ∧ p.1 ≠ I) ∧ _
            refine' ⟨List.mem_cons_of_mem _ (suf_sub e4 _ (.head _)), ns, fun p hp => ⟨List.mem_cons_of_mem _ (suf_sub e4 _ (.tail _ hp)), hoff p hp⟩, ⟨by k_extra "lk", by k_extra "lk", by k_extra "lk", _, by k_extra "lk", ?_⟩, s4⟩
            rw [hst]
            exact dat_int rfl
      · repeat' (k_extra "gi")
        have hst2 : nextT router ((nowRows R now).take (i + 1)) = nextT router ((nowRows R now).take i) := by
          rw [hst]
          cases hb : nextT router ((nowRows R now).take i) with
          | none => rw [step_none, if_neg (of_decide_eq_false e1)]
          | some bb => rw [step_some, if_neg (fun h => absurd h.1 (of_decide_eq_false e1))]
        show (I, oI) ∈ _ ∧ ∃ n0 : Led, (∀ p ∈ n0, p ∈ _ ∧ p.1 ≠ I) ∧ _
        refine' ⟨List.mem_cons_of_mem _ (suf_sub e4 _ (.head _)), ns, fun p hp => ⟨List.mem_cons_of_mem _ (suf_sub e4 _ (.tail _ hp)), hoff p hp⟩, ⟨by k_extra "lk", by k_extra "lk", by k_extra "lk", b, by k_extra "lk", ?_⟩, s4⟩
        rw [hst2]
        exact dB
  · rintro l' n' ⟨⟨q1, q2, q3, b, q4, dB⟩, s4⟩
    repeat' (k_extra "gi")
    rw [show (nowRows R now).take R.length = nowRows R now by rw [List.take_of_length_le]; simp [nowRows]] at dB
    exact ⟨s4, dB⟩
end
section
example : True := by
  k_with_none
  k_with "memp" => first | (with_reducible exact List.mem_cons_self) | ((with_reducible refine List.mem_cons_of_mem _ ?_); k_extra "memp") | ((with_reducible refine List.mem_append_right _ ?_); k_extra "memp") | fail "no"
  k_with "sub" => first | with_reducible exact fun _ h => h | with_reducible assumption | ((with_reducible refine fun p h => List.mem_cons_of_mem _ ?_); revert p h; k_extra "sub") | ((with_reducible refine fun p h => List.mem_append_right _ ?_); revert p h; k_extra "sub") | ((with_reducible refine' sub_chain ?sh ?sk); (case sh => with_reducible assumption); (case sk => k_extra "sub")) | fail "no"
  k_with "memq" => first | with_reducible assumption | (refine' mem_upK ?hmq ?smq; (case hmq => with_reducible assumption); (case smq => k_extra "sub")) | k_extra "memp" | fail "no"
  k_with "lk" => first | exact rfl | with_reducible assumption | (refine' lk_skip rfl ?_; k_extra "lk") | fail "no"
  k_with "g1" => first
    | ((with_reducible refine' g_name ?gv ?ga ?gb ?gc ?_); (case ga => exact rfl); (case gb => exact rfl); (case gc => exact rfl); (case gv => k_extra "lk"))
    | ((with_reducible refine' g_cell ?gx ?gm ?gd ?ga ?gb ?gc ?_); (case ga => exact rfl); (case gb => exact rfl); (case gc => exact rfl); (case gx => exact rfl); (case gm => k_extra "memq"); (case gd => with_reducible assumption))
    | ((with_reducible refine' g_int ?_); intro tk)
    | (with_reducible refine' g_none ?_) | (with_reducible refine' g_bool ?_) | ((with_reducible refine' g_str ?_); intro tk)
    | ((with_reducible refine' g_glob ?go ?gv ?ga ?gb ?gc ?_); (case go => assumption); (case ga => exact rfl); (case gb => exact rfl); (case gc => exact rfl); (case gv => k_is))
    | ((with_reducible refine' g_built ?go ?gv ?gw ?gx ?ga ?gb ?gc ?_); (case go => assumption); (case ga => exact rfl); (case gb => exact rfl); (case gc => exact rfl); (case gv => k_is); (case gw => boot_fast); (case gx => decide))
    | ((with_reducible refine' gk_own ?gm ?gC ?gx ?ga ?gb ?gc ?_); (case ga => exact rfl); (case gb => exact rfl); (case gc => exact rfl); (case gC => with_reducible assumption); (case gx => with_reducible assumption); (case gm => k_extra "memq"))
    | ((with_reducible refine' gk_glob ?go ?gv ?gg ?ga ?gb ?gc ?_); (case go => assumption); (case gg => exact rfl); (case ga => exact rfl); (case gb => exact rfl); (case gc => exact rfl); (case gv => k_is))
    | ((with_reducible refine' gk_cell ?gx ?gm ?gd ?ga ?gb ?gc ?_); (case ga => exact rfl); (case gb => exact rfl); (case gc => exact rfl); (case gx => exact rfl); (case gm => k_extra "memq"); (case gd => with_reducible assumption))
    | ((with_reducible refine' gk_free ?gx ?gm ?gd ?ga ?gb ?gc ?ge ?_); (case ga => exact rfl); (case gb => exact rfl); (case gc => exact rfl); (case ge => exact rfl); (case gx => exact rfl); (case gm => k_extra "memq"); (case gd => with_reducible assumption))
    | (with_reducible refine' ga_nil ?_) | ((with_reducible refine' ga_cons ?ga ?_); (case ga => exact rfl))
    | ((with_reducible refine' g_meth ?ga ?_); (case ga => with_unfolding_all rfl))
    | ((with_reducible refine' g_call ?ga ?_); (case ga => with_unfolding_all rfl))
    | ((with_reducible refine' g_rest ?gs ?_); (case gs => (intro _ _; with_unfolding_all rfl)))
    | ((with_reducible refine' g_init ?gs ?_); (case gs => (intro _ _; with_unfolding_all rfl)))
    | ((with_reducible refine' g_one ?gs ?_); (case gs => (intro _ _; with_unfolding_all rfl)))
    | (with_reducible refine' g_subs ?_) | (with_reducible refine' g_bin ?_) | (with_reducible refine' g_tuple ?_) | (with_reducible refine' g_list ?_) | (with_reducible refine' g_un ?_) | (with_reducible refine' g_ifexp ?_)
    | ((with_reducible refine' g_callB ?ga ?gb ?_); (case ga => exact rfl); (case gb => exact rfl)) | ((with_reducible refine' g_callW ?go ?gv ?ga ?gb ?_); (case go => assumption); (case gv => k_is); (case ga => exact rfl); (case gb => exact rfl)) | ((with_reducible refine' g_callW0 ?go ?gv ?_); (case go => assumption); (case gv => k_is))
    | ((with_reducible refine' g_dbmeth ?gk ?go ?g1 ?g2 ?g3 ?g4 ?_); (case gk => assumption); (case go => with_reducible assumption); (case g1 => k_is); (case g2 => k_is); (case g3 => k_is); (case g4 => (intro _ _; k_get)))
    | ((with_reducible refine' g_attr ?ga ?_); (case ga => with_unfolding_all rfl))
    | ((with_reducible refine' g_rowsattr ?gk ?go ?g1 ?g2 ?g3 ?g4 ?g5 ?g6 ?_); (case gk => assumption); (case go => with_reducible assumption); (case g1 => k_is); (case g2 => k_is); (case g3 => k_is); (case g4 => k_is); (case g5 => (intro _ _; k_get)); (case g6 => k_handed))
    | (with_reducible refine' gc_is_nn ?_) | (with_reducible refine' gc_is_in ?_) | (with_reducible refine' gc_isnot_in ?_) | (with_reducible refine' gc_isnot_nn ?_) | (with_reducible refine' gc_is_rn ?_) | (with_reducible refine' gc_isnot_rn ?_)
    | (with_reducible refine' conj_t ?_) | (with_reducible refine' conj_f ?_)
    | (with_reducible refine' gs_nil ?_) | (with_reducible refine' thenF_next ?_) | (with_reducible refine' gs_ret ?_) | ((with_reducible refine' gs_assign ?ga ?gb ?gc ?_); (case ga => exact rfl); (case gb => exact rfl); (case gc => exact rfl))
    | ((with_reducible refine' gb_cmp ?ga ?_); (case ga => exact rfl)) | (with_reducible refine' gt_bool ?_) | (with_reducible refine' gb_and ?_) | (with_reducible refine' gb_and0 ?_) | (with_reducible refine' gb_or ?_) | (with_reducible refine' gb_or0 ?_) | (with_reducible refine' gb_not ?_)
    | ((with_reducible refine' g_cmp ?ga ?_); (case ga => exact rfl)) | (with_reducible refine' g_and ?_)
    | (with_reducible refine' gc_lt ?_) | (with_reducible refine' gc_le ?_) | (with_reducible refine' gc_gt ?_) | (with_reducible refine' gc_ge ?_) | (with_reducible refine' gc_eq ?_) | (with_reducible refine' gc_ne ?_)
    | ((with_reducible refine' g_add ?_); intro tk) | ((with_reducible refine' g_sub ?_); intro tk) | ((with_reducible refine' g_neg ?_); intro tk) | ((with_reducible refine' g_min ?go ?_); (case go => assumption); intro tk)
    | ((with_reducible refine' And.intro ?gz ?_); (case gz => exact Nat.le_of_ble_eq_true rfl); intro D' hD' n9')
    | ((with_reducible refine' g_cat ?gm ?gn ?gz ?_); (case gm => k_extra "memq"); (case gn => k_extra "memq"); (case gz => exact Nat.le_of_ble_eq_true rfl); intro D' hD' n9')
    | ((with_reducible refine' g_tup ?gm ?g0 ?gf ?gv ?gs ?_); (case gm => k_extra "memq"); (case g0 => decide); (case gf => decide); (case gv => exact rfl); (case gs => with_unfolding_all rfl))
    | fail "no"
  k_with "gi" => first | k_extra "g1" | (with_reducible refine' gs_if1 ?_) | (with_reducible refine' gs_if ?_) | fail "no"
  k_with "glc" => first
    | ((with_reducible refine' g_lc ?lb ?lc ?ld ?le ?lf ?li ?_); (case lb => with_unfolding_all rfl); (case lc => decide); (case ld => exact rfl); (case le => decide); (case lf => exact rfl); (case li => exact fun _ => rfl))
    | ((with_reducible refine' gs_lc ?la ?lb ?lc ?ld ?le ?lf ?lg ?lh ?li ?_); (case la => with_unfolding_all rfl); (case lb => with_unfolding_all rfl); (case lc => decide); (case ld => exact rfl); (case le => decide); (case lf => exact rfl); (case lg => exact rfl); (case lh => exact rfl); (case li => exact fun _ => rfl))
    | fail "no"
  trivial
theorem next_p (w : World) (news : Led) (x d : Addr) (R : List Rw) (router : Int) (tr : Tok) (ho : DbObj news x d) (hdb : DbIs w news d R) :
   Ctr PR w (hd.heap_39 w.params) 149 8 900 [.ref x, .int router tr] news (PureD news (optI (nextT router R))) := by
  refine' Ctr.start (D := 7) (U := 800) (binds := [(Str.ofString "self", .ref x), (Str.ofString "router", .int router tr), (Str.ofString "now", .none)]) ?ho ?hcd ?hb ?hl ?c1 ?c2 ?c3 ?c4 ?d ?u rfl ?body
  case ho => k_is
  case hcd => k_is
  case hb => exact fun s X => binds_K X rfl (by k_is) rfl rfl rfl
  case hl => exact locs rfl
  case c1 => exact rfl
  case c2 => exact rfl
  case c3 => exact rfl
  case c4 => decide
  case d => decide
  case u => decide
  intro c ok pe
  repeat' (k_extra "gi")
  refine' gs_for_rows ok pe rfl rfl (fun _ => rfl) ?_
  repeat' (k_extra "gi")
  refine' ⟨d, R, fun i l' n' => (lk l' (Str.ofString "router") = some (.int router tr) ∧ lk l' (Str.ofString "self") = some (.ref x) ∧ lk l' (Str.ofString "now") = some .none ∧ ∃ b, lk l' (Str.ofString "best") = some b ∧ DatIn n' b (optI (nextT router (R.take i)))) ∧ news <:+ n', rfl, hdb, ⟨⟨rfl, rfl, rfl, .none, rfl, .none⟩, List.suffix_refl _⟩, fun i l' n' h => suf_sub h.2, ?_, ?_⟩
  · rintro i r ka l' ns I oI hr hra hka hdb' ⟨⟨q1, q2, q3, b, q4, dB⟩, s4⟩ hoff hcI
    have sI := suf_sub (s4.trans (List.suffix_cons (I, oI) ns))
    have ho2 := dbObj_sub sI ho
    have hdb2 := DbIs.sub sI hdb
    have hk2 := DatIn.mono (fun p hp => List.mem_cons_of_mem (I, oI) hp) hka
    refine' gs_unpack2 ok rfl rfl rfl ?e1 ?e2 ?_
    case e1 => with_unfolding_all rfl
    case e2 => with_unfolding_all rfl
    repeat' (k_extra "gi")
    refine' g_rowitem ok (by decide) hdb2 hk2 hra ?hs ?_
    case hs => with_unfolding_all rfl
    intro xv dv
    obtain ⟨a1, m1, lv, t1, rfl, hm1, dl⟩ := rvD_open dv
    obtain ⟨a4, m4, v4, c4, rfl, x4, H4, C4⟩ := lsaD_open dl
    obtain ⟨b4, k4, u40, u41, u42, u43, u44, u45, u46, rfl, y4⟩ := headD_open H4
    obtain ⟨kk, kn, kt0, kt1, kt2, ek, hkm⟩ := keyD_open hk2
    cases ek
    refine' ⟨a1, _, .int r.2 t1, m1, rfl, hm1, ?_⟩
    refine' gs_if1 (gb_cmp rfl ?_)
    k_extra "gi"
    k_extra "gi"
    k_extra "gi"
    k_extra "gi"
    k_extra "gi"
    refine' gs_let ?_
    intro lB nB fB
    refine' gs_assign ?ga ?gb ?gc ?_
    case ga => exact rfl
    case gb => exact rfl
    case gc => exact rfl
    refine' G.mono (f := fun v n' => (∃ tk, v = .int (lim router r.1) tk) ∧ n' = nB) ?_ ?_
    · repeat' (k_extra "gi")
      refine' ⟨fun e1 => ?_, fun e1 => ?_⟩
      · have h1 : r.1.b = router := eq_of_beq e1
        repeat' (k_extra "gi")
        refine' ⟨fun e2 => ?_, fun e2 => ?_⟩
        · repeat' (k_extra "gi")
          exact ⟨⟨_, by rw [lim, if_pos ⟨h1, of_decide_eq_true e2⟩]⟩, rfl⟩
        · repeat' (k_extra "gi")
          exact ⟨⟨_, by rw [lim, if_neg (fun h => absurd h.2 (of_decide_eq_false e2))]⟩, rfl⟩
      · have h1 : ¬ r.1.b = router := fun h => by rw [show (r.1.key.2 == router) = true from beq_iff_eq.mpr h] at e1; exact nomatch e1
        repeat' (k_extra "gi")
        exact ⟨⟨_, by rw [lim, if_neg (fun h => h1 h.1)]⟩, rfl⟩
    · rintro _ _ ⟨⟨tk, rfl⟩, rfl⟩
      have hst := nextT_snoc router (R.take i) r
      rw [← take_snoc hr] at hst
      repeat' (k_extra "gi")
      refine' ⟨fun e1 => ?_, fun e1 => ?_⟩
      · cases hb : nextT router (R.take i) with
        | none =>
          rw [hb] at dB
          cases dB
          repeat' (k_extra "gi")
          rw [hb, step_none, if_pos (of_decide_eq_true e1)] at hst
          show (I, oI) ∈ _ ∧ ∃ n0 : Led, (∀ p ∈ n0, p ∈ _ ∧ p.1 ≠ I) ∧ _
          refine' ⟨.head _, ns, fun p hp => ⟨.tail _ hp, hoff p hp⟩, ⟨by k_extra "lk", by k_extra "lk", by k_extra "lk", _, by k_extra "lk", ?_⟩, s4⟩
          rw [hst]
          exact dat_int rfl
        | some bb =>
          rw [hb] at dB
          cases dB
          repeat' (k_extra "gi")
          refine' ⟨fun e2 => ?_, fun e2 => ?_⟩
          · repeat' (k_extra "gi")
            rw [hb, step_some, if_pos ⟨of_decide_eq_true e1, of_decide_eq_true e2⟩] at hst
            show (I, oI) ∈ _ ∧ ∃ n0 : Led, (∀ p ∈ n0, p ∈ _ ∧ p.1 ≠ I) ∧ _
            refine' ⟨.head _, ns, fun p hp => ⟨.tail _ hp, hoff p hp⟩, ⟨by k_extra "lk", by k_extra "lk", by k_extra "lk", _, by k_extra "lk", ?_⟩, s4⟩
            rw [hst]
            exact dat_int rfl
          · repeat' (k_extra "gi")
            rw [hb, step_some, if_neg (fun h => absurd h.2 (of_decide_eq_false e2))] at hst
            show (I, oI) ∈ _ ∧ ∃ n0 : Led, (∀ p ∈ n0, p ∈ _ ∧ p.1 ≠ I) ∧ _
            refine' ⟨.head _, ns, fun p hp => ⟨.tail _ hp, hoff p hp⟩, ⟨by k_extra "lk", by k_extra "lk", by k_extra "lk", _, by k_extra "lk", ?_⟩, s4⟩
            rw [hst]
            exact dat_int rfl
      · repeat' (k_extra "gi")
        have hst2 : nextT router (R.take (i + 1)) = nextT router (R.take i) := by
          rw [hst]
          cases hb : nextT router (R.take i) with
          | none => rw [step_none, if_neg (of_decide_eq_false e1)]
          | some bb => rw [step_some, if_neg (fun h => absurd h.1 (of_decide_eq_false e1))]
        show (I, oI) ∈ _ ∧ ∃ n0 : Led, (∀ p ∈ n0, p ∈ _ ∧ p.1 ≠ I) ∧ _
        refine' ⟨.head _, ns, fun p hp => ⟨.tail _ hp, hoff p hp⟩, ⟨by k_extra "lk", by k_extra "lk", by k_extra "lk", b, by k_extra "lk", ?_⟩, s4⟩
        rw [hst2]
        exact dB
  · rintro l' n' ⟨⟨q1, q2, q3, b, q4, dB⟩, s4⟩
    repeat' (k_extra "gi")
    rw [List.take_length] at dB
    exact ⟨s4, dB⟩
end
section
example : True := by
  k_with_none
  k_with "my enter" => first | (k_dflt (first | (refine' code_def ?k1q0 ?k2q0 ?k3q0 ?k4q0 ?k5q0 ?kAq0 ?kFq0 ?kKq0 ?k6q0 ?k7q0 ?k8q0 ?k9q0 ?kBq0 ?_ ?c2q0 ?c3q0 ?c4q0 ?c5q0; (case kAq0 => exact rfl); (case kFq0 => exact rfl); (case kKq0 => assumption); (case k1q0 => k_asm); (case k2q0 => k_asm); (case k3q0 => k_asm); (case k4q0 => k_asm); (case k5q0 => k_asm); (case k6q0 => k_is); (case k7q0 => k_is); (case k8q0 => ktr_room); (case k9q0 => first | exact BindsTo.of_eq rfl | exact binds_K (by k_in) rfl (by k_is) rfl rfl rfl); (case c5q0 => decide); (case kBq0 => exact locs rfl); (case c2q0 => exact rfl); (case c3q0 => exact rfl); (case c4q0 => exact rfl); k_whole; intro g' L' h' FG' F' N' B' X' T'; (try dsimp only); (try k_lift B'); (try k_fold)) | (refine' code_defC ?k1q0 ?k2q0 ?k3q0 ?k4q0 ?k5q0 ?kAq0 ?kFq0 ?kKq0 ?k6q0 ?k7q0 ?k8q0 ?k9q0 ?kBq0 ?kDq0 ?_ ?c2q0 ?c3q0 ?c4q0; (case kAq0 => exact rfl); (case kFq0 => exact rfl); (case kKq0 => assumption); (case k1q0 => k_asm); (case k2q0 => k_asm); (case k3q0 => k_asm); (case k4q0 => k_asm); (case k5q0 => k_asm); (case k6q0 => k_is); (case k7q0 => k_is); (case k8q0 => ktr_room); (case k9q0 => first | exact BindsTo.of_eq rfl | exact binds_K (by k_in) rfl (by k_is) rfl rfl rfl); (case kBq0 => exact rfl); (case kDq0 => decide +kernel); (case c2q0 => exact rfl); (case c3q0 => exact rfl); (case c4q0 => exact rfl); k_whole; intro g' L' h' tk' cells' FG' F' N' Y' B' X' T' l1; (try k_lt l1); k_cells Y'; (try simp only [List.cons_append, List.nil_append] at N'); (try dsimp only); (try k_lift B'); (try k_fold)))) | fail "no"
  k_with "mem" => first | (first | with_reducible assumption | exact List.Mem.head _ | ((with_reducible refine List.mem_cons_of_mem _ ?_); k_extra "mem") | ((with_reducible refine List.mem_append_right _ ?_); k_extra "mem") | k_extra "memx") | fail "no"
  k_with "sub" => first | (first | with_reducible exact fun _ h => h | ((with_reducible refine fun p h => List.mem_cons_of_mem _ ?_); revert p h; k_extra "sub") | ((with_reducible refine fun p h => List.mem_append_right _ ?_); revert p h; k_extra "sub") | with_reducible assumption) | fail "no"
  k_with "suf" => first | (first | with_reducible exact List.suffix_refl _ | ((with_reducible refine List.IsSuffix.trans ?_ (List.suffix_cons _ _)); k_extra "suf") | ((with_reducible refine List.IsSuffix.trans ?_ (List.suffix_append _ _)); k_extra "suf")) | fail "no"
  k_with "inteq" => first | (first | rfl | omega | (split <;> omega) | ((simp only [Lsa.aged]); (first | rfl | omega | (split <;> omega)))) | fail "no"
  k_with "dat" => first | (first | exact DatIn.none | exact DatIn.bool _ | with_reducible assumption | (refine dat_int ?_; k_extra "inteq") | exact DatIn.str _ _ | (refine' DatIn.mono ?hsq5 ?hdq5; (case hdq5 => with_reducible assumption); (case hsq5 => k_extra "sub")) | (refine' DatIn.tuple ?hmq5 ?hdq5; (case hmq5 => k_extra "mem"); (case hdq5 => k_extra "datall")) | (refine' DatIn.list ?hmq5 ?hdq5; (case hmq5 => k_extra "mem"); (case hdq5 => k_extra "datall")) | (refine' DatIn.mono ?hsq5 ?hdq5; (case hdq5 => assumption); (case hsq5 => k_extra "sub"))) | fail "no"
  k_with "datall" => first | (first | exact DatAll.nil | (refine' DatAll.cons ?_ ?_; (next => k_extra "dat"); (next => k_extra "datall")) | (refine' datAll_mono ?hsq6 ?hdq6; (case hdq6 => with_reducible assumption); (case hsq6 => k_extra "sub")) | k_extra "datallx") | fail "no"
  k_with "room" => first | (((try simp only [depth_under_make, depth_under_kw, depth_in1, depth_deeper, depth_caller]); (try dsimp only); first | omega | ktr_room)) | fail "no"
  k_with "units" => first | (((try simp only [units_in1, units_deeper, Around.mark_units, units_caller]); (try dsimp only); first | omega | ktr_units)) | fail "no"
  k_with "subscriptTail Name Slice ref ref" => first | ((k_here; k_dflt (refine' tup_from1 ?Fq9 ?Nq9 ?lq9 ?_ ?sq9 ?tq9 ?zq9; (case Fq9 => k_asm); (case Nq9 => k_asm); (case lq9 => k_extra "mem"); (case sq9 => with_unfolding_all rfl); (case tq9 => (intro _; with_unfolding_all rfl)); (case zq9 => exact Nat.le_of_ble_eq_true rfl)); intro D' h' F' N' l1; (try k_sweep))) | fail "no"
  k_with "binaryOp Add ref ref" => first | ((k_here; k_dflt (refine' tup_add ?Fq10 ?Nq10 ?lq10 ?rq10 ?_ ?zq10; (case Fq10 => k_asm); (case Nq10 => k_asm); (case lq10 => k_extra "mem"); (case rq10 => k_extra "mem"); (case zq10 => exact Nat.le_of_ble_eq_true rfl)); intro D' h' F' N' l1; (try dsimp only [List.cons_append, List.nil_append] at N'); (try k_sweep))) | fail "no"
  k_with "kok" => first | (first | exact ok_cont _ _ | exact ok_head _ _ | exact ok_key _ _ | exact ok_lsa _ _) | fail "no"
  k_with "compareOp NotEq ref" => first | ((k_here; k_dflt (refine' dat_cmp_ne ?Nq12 ?aq12 ?bq12 ?kaq12 ?kbq12 ?huq12 ?_; (case Nq12 => k_asm); (case aq12 => k_extra "dat"); (case bq12 => k_extra "dat"); (case kaq12 => k_extra "kok"); (case kbq12 => k_extra "kok"); (case huq12 => ktr_units)))) | fail "no"
  k_with "ctr ends" => first | (( (case Bq13 => k_asm); (case Fq13 => k_asm); (case Xq13 => k_asm); (case Nq13 => k_asm); (case Tq13 => k_asm); (case hkq13 => first | exact rfl | assumption); (case hdq13 => ktr_room); (case huq13 => ktr_units))) | fail "no"
  k_with "call ref" => first | ((k_here; k_dflt (refine' Ctr.use (summary_c _ _ _ _ _ _ _ ?hoq14 ?hdbq14) ?Bq14 ?Fq14 ?Xq14 ?Nq14 ?Tq14 ?hkq14 ?hdq14 ?huq14 ?_; (case Bq14 => k_asm); (case Fq14 => k_asm); (case Xq14 => k_asm); (case Nq14 => k_asm); (case Tq14 => k_asm); (case hoq14 => k_extra "obj"); (case hdbq14 => k_extra "db"); (case hkq14 => first | exact rfl | assumption); (case hdq14 => k_extra "room"); (case huq14 => k_extra "units"); k_whole; intro r' news' h' tk' F' N' P'; obtain ⟨⟨tl', e'⟩, d'⟩ := P'; subst e'; (have d2' := d'); obtain ⟨la', vs', n', e', hm', da'⟩ := listD_open d2'; subst e'); (try dsimp only); (try k_fold))) | fail "no"
  k_with "call ref" => first | ((k_here; k_dflt (refine' Ctr.use (ended_c _ _ _ _ _ _ _ ?hoq15 ?hdbq15) ?Bq15 ?Fq15 ?Xq15 ?Nq15 ?Tq15 ?hkq15 ?hdq15 ?huq15 ?_; (case Bq15 => k_asm); (case Fq15 => k_asm); (case Xq15 => k_asm); (case Nq15 => k_asm); (case Tq15 => k_asm); (case hoq15 => k_extra "obj"); (case hdbq15 => k_extra "db"); (case hkq15 => first | exact rfl | assumption); (case hdq15 => k_extra "room"); (case huq15 => k_extra "units"); k_whole; intro r' news' h' tk' F' N' P'; obtain ⟨⟨tl', e'⟩, d'⟩ := P'; subst e'; (have d2' := d'); obtain ⟨la', vs', n', e', hm', da'⟩ := listD_open d2'; subst e'); (try dsimp only); (try k_fold))) | fail "no"
  k_with "call ref" => first | ((k_here; k_dflt (refine' Ctr.use (rows_c _ _ _ _ _ _ _ ?hoq16 ?hdbq16) ?Bq16 ?Fq16 ?Xq16 ?Nq16 ?Tq16 ?hkq16 ?hdq16 ?huq16 ?_; (case Bq16 => k_asm); (case Fq16 => k_asm); (case Xq16 => k_asm); (case Nq16 => k_asm); (case Tq16 => k_asm); (case hoq16 => k_extra "obj"); (case hdbq16 => k_extra "db"); (case hkq16 => first | exact rfl | assumption); (case hdq16 => k_extra "room"); (case huq16 => k_extra "units"); k_whole; intro r' news' h' tk' F' N' P'; obtain ⟨⟨tl', e'⟩, d'⟩ := P'; subst e'; (have d2' := d'); obtain ⟨la', vs', n', e', hm', da'⟩ := listD_open d2'; subst e'); (try dsimp only); (try k_fold))) | fail "no"
  k_with "call ref" => first | ((k_here; k_dflt (refine' Ctr.use (keys_c _ _ _ _ _ ?hoq17 ?hdbq17) ?Bq17 ?Fq17 ?Xq17 ?Nq17 ?Tq17 ?hkq17 ?hdq17 ?huq17 ?_; (case Bq17 => k_asm); (case Fq17 => k_asm); (case Xq17 => k_asm); (case Nq17 => k_asm); (case Tq17 => k_asm); (case hoq17 => k_extra "obj"); (case hdbq17 => k_extra "db"); (case hkq17 => first | exact rfl | assumption); (case hdq17 => k_extra "room"); (case huq17 => k_extra "units"); k_whole; intro r' news' h' tk' F' N' P'; obtain ⟨⟨tl', e'⟩, d'⟩ := P'; subst e'; (have d2' := d'); obtain ⟨la', vs', n', e', hm', da'⟩ := listD_open d2'; subst e'); (try dsimp only); (try k_fold))) | fail "no"
  k_with "call ref" => first | ((k_here; k_dflt (refine' Ctr.use (to_refresh_c _ _ _ _ _ _ _ _ _ ?hoq18 ?hdbq18) ?Bq18 ?Fq18 ?Xq18 ?Nq18 ?Tq18 ?hkq18 ?hdq18 ?huq18 ?_; (case Bq18 => k_asm); (case Fq18 => k_asm); (case Xq18 => k_asm); (case Nq18 => k_asm); (case Tq18 => k_asm); (case hoq18 => k_extra "obj"); (case hdbq18 => k_extra "db"); (case hkq18 => first | exact rfl | assumption); (case hdq18 => k_extra "room"); (case huq18 => k_extra "units"); k_whole; intro r' news' h' tk' F' N' P'; obtain ⟨⟨tl', e'⟩, d'⟩ := P'; subst e'; (have d2' := d'); obtain ⟨la', vs', n', e', hm', da'⟩ := listD_open d2'; subst e'); (try dsimp only); (try k_fold))) | fail "no"
  k_with "call ref" => first | ((k_here; k_dflt (refine' Ctr.use (next_c _ _ _ _ _ _ _ _ _ ?hoq19 ?hdbq19) ?Bq19 ?Fq19 ?Xq19 ?Nq19 ?Tq19 ?hkq19 ?hdq19 ?huq19 ?_; (case Bq19 => k_asm); (case Fq19 => k_asm); (case Xq19 => k_asm); (case Nq19 => k_asm); (case Tq19 => k_asm); (case hoq19 => k_extra "obj"); (case hdbq19 => k_extra "db"); (case hkq19 => first | exact rfl | assumption); (case hdq19 => k_extra "room"); (case huq19 => k_extra "units"); k_whole; intro r' news' h' tk' F' N' P'; obtain ⟨⟨tl', e'⟩, d'⟩ := P'; subst e'); (try dsimp only); (try k_fold))) | fail "no"
  k_with "call ref" => first | ((k_here; k_dflt (refine' Ctr.use (next_p _ _ _ _ _ _ _ ?hoq20 ?hdbq20) ?Bq20 ?Fq20 ?Xq20 ?Nq20 ?Tq20 ?hkq20 ?hdq20 ?huq20 ?_; (case Bq20 => k_asm); (case Fq20 => k_asm); (case Xq20 => k_asm); (case Nq20 => k_asm); (case Tq20 => k_asm); (case hoq20 => k_extra "obj"); (case hdbq20 => k_extra "db"); (case hkq20 => first | exact rfl | assumption); (case hdq20 => k_extra "room"); (case huq20 => k_extra "units"); k_whole; intro r' news' h' tk' F' N' P'; obtain ⟨⟨tl', e'⟩, d'⟩ := P'; subst e'); (try dsimp only); (try k_fold))) | fail "no"
  k_with "db" => first | (first | with_reducible assumption | (refine' DbIs.sub ?hsq21 ?hdq21; (case hdq21 => with_reducible assumption); (case hsq21 => k_extra "sub"))) | fail "no"
  k_with "compareOp NotIn" => first | ((k_here; (with_reducible show wpAny _ _ (compareOp CmpOp.NotIn (Value.ref _) (Value.ref _)) _ _ _); k_dflt (first | (refine' rows_notIn_some ?Nq22 ?dq22 ?kq22 ?uq22 ?bq22 ?_; (case Nq22 => k_asm); (case dq22 => k_extra "db"); (case kq22 => k_extra "dat"); (case uq22 => ktr_units); (case bq22 => with_reducible assumption)) | (refine' rows_notIn_none ?Nq22 ?dq22 ?kq22 ?uq22 ?bq22 ?_; (case Nq22 => k_asm); (case dq22 => k_extra "db"); (case kq22 => k_extra "dat"); (case uq22 => ktr_units); (case bq22 => with_reducible assumption))); intro tk')) | fail "no"
  k_with "subscriptTail" => first | ((k_here; (with_reducible show wpAny _ _ (subscriptTail _ _ (Value.ref _) (Value.ref _)) _ _ _); k_dflt (refine' rows_item ?Nq23 ?dq23 ?kq23 ?uq23 ?rq23 ?_ ?sq23 ?gq23; (case Nq23 => k_asm); (case dq23 => k_extra "db"); (case kq23 => k_extra "dat"); (case uq23 => ktr_units); (case rq23 => with_reducible assumption); (case sq23 => with_unfolding_all rfl); (case gq23 => (intro _; with_unfolding_all rfl))); intro v' tk' dv'; k_dflt (obtain ⟨a', n', lv', t', e', hm', dl'⟩ := rvD_open dv'; subst e'))) | fail "no"
  k_with "obj" => first | (first | with_reducible assumption | (refine' dbObj_sub ?hsq24 ?hdq24; (case hdq24 => with_reducible assumption); (case hsq24 => k_extra "sub")) | (refine' ⟨_, _, _, _, ?m1q24, ?m2q24⟩; (case m1q24 => k_extra "mem"); (case m2q24 => k_extra "mem"))) | fail "no"
  k_with "call builtin:sorted" => first | ((k_here; (with_reducible show wpAny _ _ (call (Value.builtin "sorted") [Value.ref _]) _ _ _); k_dflt (refine' rows_sorted ?hhq25 ?Fq25 ?Nq25 ?dq25 ?_; (case hhq25 => rfl); (case Fq25 => k_asm); (case Nq25 => k_asm); (case dq25 => k_extra "db")); intro B' h' c' tk' vs' F' N' l1 dv')) | fail "no"
  k_with "eval ListComp" => first | ((k_here; k_dflt (refine' lc_eval ?Fq26 ?c1q26 ?c2q26 ?c3q26 ?c4q26 ?c5q26 ?_; (case Fq26 => k_asm); (case c1q26 => with_unfolding_all rfl); (case c2q26 => decide); (case c3q26 => rfl); (case c4q26 => decide); (case c5q26 => rfl)))) | fail "no"
  k_with "exec Assign cons ListComp" => first | ((k_here; k_dflt (refine' lc_assign ?Fq27 ?c0q27 ?cwq27 ?c1q27 ?c2q27 ?c3q27 ?c4q27 ?c5q27 ?c6q27 ?c7q27 ?_; (case Fq27 => k_asm); (case c0q27 => rfl); (case cwq27 => with_unfolding_all rfl); (case c1q27 => with_unfolding_all rfl); (case c2q27 => decide); (case c3q27 => rfl); (case c4q27 => decide); (case c5q27 => rfl); (case c6q27 => rfl); (case c7q27 => rfl)))) | fail "no"
  k_with "exec For Name Call cons nil" => first | ((k_here; (rename Fr _ _ _ _ => lF'); (with_unfolding_all refine' for_my lF' ?k1q28 ?k2q28 ?_; (case k1q28 => exact rfl); (case k2q28 => exact rfl); k_whole))) | fail "no"
  k_with "exec For Name Name cons nil" => first | ((k_here; (rename Fr _ _ _ _ => lF'); (with_unfolding_all refine' for_my lF' ?k1q29 ?k2q29 ?_; (case k1q29 => exact rfl); (case k2q29 => exact rfl); k_whole))) | fail "no"
  k_with "exec For Name Attribute cons nil" => first | ((k_here; (rename Fr _ _ _ _ => lF'); (with_unfolding_all refine' for_my lF' ?k1q30 ?k2q30 ?_; (case k1q30 => exact rfl); (case k2q30 => exact rfl); k_whole))) | fail "no"
  k_with "call builtin:list.append" => first | ((k_here; k_dflt (refine' append_my ?Fq31 ?Nq31 ?mq31 ?zq31 ?_; (case Fq31 => k_asm); (case Nq31 => k_asm); (case mq31 => k_extra "mem"); (case zq31 => assumption); k_whole; intro h' F' N'); (try dsimp only); (try k_fold))) | fail "no"
  k_with "datp" => first | (first | with_reducible assumption | ((with_reducible refine' DatIn.mono (fun p hp => List.mem_cons_of_mem _ hp) ?peq32); (case peq32 => k_extra "datp")) | ((with_reducible refine' DatIn.mono (fun p hp => List.mem_append_right _ hp) ?peq32); (case peq32 => k_extra "datp")) | (refine' Ext.dat ?eq32 ?hq32 ?nq32; (case eq32 => with_reducible assumption); (case hq32 => k_extra "datp"); (case nq32 => first | exact optD_noList _ | rfl))) | fail "no"
  k_with "dat" => first | (first | with_reducible exact DatIn.int _ _ | k_extra "datp" | (refine' DatIn.tuple ?hmq33 ?hdq33; (case hmq33 => k_extra "mem"); (case hdq33 => k_extra "datall"))) | fail "no"
  k_with "dbp" => first | (first | with_reducible assumption | ((with_reducible refine' DbIs.sub (fun p hp => List.mem_cons_of_mem _ hp) ?peq34); (case peq34 => k_extra "dbp")) | ((with_reducible refine' DbIs.sub (fun p hp => List.mem_append_right _ hp) ?peq34); (case peq34 => k_extra "dbp")) | (refine' Ext.other ?eq34 _ _ _ ?nq34 ?hq34; (case eq34 => with_reducible assumption); (case hq34 => k_extra "dbp"); (case nq34 => first | assumption | simp; done | (simp; assumption)))) | fail "no"
  k_with "db" => first | (k_extra "dbp") | fail "no"
  k_with "objp" => first | (first | with_reducible assumption | ((with_reducible refine' dbObj_sub (fun p hp => List.mem_cons_of_mem _ hp) ?peq36); (case peq36 => k_extra "objp")) | ((with_reducible refine' dbObj_sub (fun p hp => List.mem_append_right _ hp) ?peq36); (case peq36 => k_extra "objp")) | (refine' Ext.obj ?eq36 _ _ ?hq36; (case eq36 => with_reducible assumption); (case hq36 => k_extra "objp"))) | fail "no"
  k_with "obj" => first | (k_extra "objp") | fail "no"
  k_with "kin" => first | (first | assumption | (show Lsa.key _ ∈ _; assumption)) | fail "no"
  k_with "kkk" => first | (first | rfl | assumption) | fail "no"
  k_with "setItem ref" => first | ((k_here; (with_reducible show wpAny _ _ (setItem (Value.ref _) _ _) _ _ _); k_dflt (refine' rows_set2 ?Fq40 ?Nq40 ?dbq40 ?hvq40 ?hkq40 ?hkkq40 ?hrq40 ?huq40 ?_; (case Fq40 => k_asm); (case Nq40 => k_asm); (case dbq40 => k_extra "db"); (case hvq40 => k_extra "dat"); (case hkq40 => k_extra "dat"); (case hkkq40 => k_extra "kkk"); (case hrq40 => k_extra "kin"); (case huq40 => k_extra "units"); intro h' news' tk' F' N' e' db'); (try dsimp only); (try k_fold))) | fail "no"
  k_with "getMethod ref" => first | ((k_here; k_dflt (refine' rows_pop_meth ?Nq41 ?dbq41 ?_; (case Nq41 => k_asm); (case dbq41 => k_extra "db")))) | fail "no"
  k_with "call builtin:dict.pop" => first | ((k_here; k_dflt (first | (refine' rows_pop_some ?Fq42 ?Nq42 ?dbq42 ?hkq42 ?hrq42 ?huq42 ?_; (case Fq42 => k_asm); (case Nq42 => k_asm); (case dbq42 => k_extra "db"); (case hkq42 => k_extra "dat"); (case hrq42 => with_reducible assumption); (case huq42 => k_extra "units"); intro x' h' news' tk' F' N' e' db' dx'; obtain ⟨ax', ex'⟩ := tup_ref dx'; subst ex') | (refine' rows_pop_none ?Nq42 ?dbq42 ?hkq42 ?hrq42 ?huq42 ?_; (case Nq42 => k_asm); (case dbq42 => k_extra "db"); (case hkq42 => k_extra "dat"); (case hrq42 => with_reducible assumption); (case huq42 => k_extra "units"); intro tk')); (try dsimp only); (try k_fold))) | fail "no"
  trivial
def tellsD (D : List Rw) (now : Int) : Dat := .tuple [.list ((sortKeys D).map keyD), .list ((rowsAt D now).map lsaD), .list (((rowsAt D now).filter fresh?).map headD), .list (((rowsAt D now).filter ended?).map fun l => keyD l.key),
  .list (((rowsAt D now).filter (due? 1)).map fun l => keyD l.key), .list (((rowsAt D now).filter (due? 2)).map fun l => keyD l.key), optI (nextT 1 (nowRows D now))]
theorem tells_c (w : World) (news : Led) (x d : Addr) (D : List Rw) (now : Int) (ts : Tok) (ho : DbObj news x d) (hdb : DbIs w news d D) :
   Ctr PR w (hd.heap_39 w.params) 180 14 1500 [.ref x, .int now ts] news (PureD news (tellsD D now)) := by
  unfold Ctr
  have ho' := ho
  obtain ⟨dx, hs, t, n, hx, hdx⟩ := ho'
  intros
  rename_i hret
  refine wpAny_call ?_
  walk_at "my enter"
  k_steps
  exact hret _ _ _ _ (by k_asm) (by k_asm) ⟨by walk_at "suf", by walk_at "dat"⟩
end
section
example : True := by
  k_with_none
  k_with "my enter" => first | (k_dflt (first | (refine' code_def ?k1q0 ?k2q0 ?k3q0 ?k4q0 ?k5q0 ?kAq0 ?kFq0 ?kKq0 ?k6q0 ?k7q0 ?k8q0 ?k9q0 ?kBq0 ?_ ?c2q0 ?c3q0 ?c4q0 ?c5q0; (case kAq0 => exact rfl); (case kFq0 => exact rfl); (case kKq0 => assumption); (case k1q0 => k_asm); (case k2q0 => k_asm); (case k3q0 => k_asm); (case k4q0 => k_asm); (case k5q0 => k_asm); (case k6q0 => k_is); (case k7q0 => k_is); (case k8q0 => ktr_room); (case k9q0 => first | exact BindsTo.of_eq rfl | exact binds_K (by k_in) rfl (by k_is) rfl rfl rfl); (case c5q0 => decide); (case kBq0 => exact locs rfl); (case c2q0 => exact rfl); (case c3q0 => exact rfl); (case c4q0 => exact rfl); k_whole; intro g' L' h' FG' F' N' B' X' T'; (try dsimp only); (try k_lift B'); (try k_fold)) | (refine' code_defC ?k1q0 ?k2q0 ?k3q0 ?k4q0 ?k5q0 ?kAq0 ?kFq0 ?kKq0 ?k6q0 ?k7q0 ?k8q0 ?k9q0 ?kBq0 ?kDq0 ?_ ?c2q0 ?c3q0 ?c4q0; (case kAq0 => exact rfl); (case kFq0 => exact rfl); (case kKq0 => assumption); (case k1q0 => k_asm); (case k2q0 => k_asm); (case k3q0 => k_asm); (case k4q0 => k_asm); (case k5q0 => k_asm); (case k6q0 => k_is); (case k7q0 => k_is); (case k8q0 => ktr_room); (case k9q0 => first | exact BindsTo.of_eq rfl | exact binds_K (by k_in) rfl (by k_is) rfl rfl rfl); (case kBq0 => exact rfl); (case kDq0 => decide +kernel); (case c2q0 => exact rfl); (case c3q0 => exact rfl); (case c4q0 => exact rfl); k_whole; intro g' L' h' tk' cells' FG' F' N' Y' B' X' T' l1; (try k_lt l1); k_cells Y'; (try simp only [List.cons_append, List.nil_append] at N'); (try dsimp only); (try k_lift B'); (try k_fold)))) | fail "no"
  k_with "mem" => first | (first | with_reducible assumption | exact List.Mem.head _ | ((with_reducible refine List.mem_cons_of_mem _ ?_); k_extra "mem") | ((with_reducible refine List.mem_append_right _ ?_); k_extra "mem") | k_extra "memx") | fail "no"
  k_with "sub" => first | (first | with_reducible exact fun _ h => h | ((with_reducible refine fun p h => List.mem_cons_of_mem _ ?_); revert p h; k_extra "sub") | ((with_reducible refine fun p h => List.mem_append_right _ ?_); revert p h; k_extra "sub") | with_reducible assumption) | fail "no"
  k_with "suf" => first | (first | with_reducible exact List.suffix_refl _ | ((with_reducible refine List.IsSuffix.trans ?_ (List.suffix_cons _ _)); k_extra "suf") | ((with_reducible refine List.IsSuffix.trans ?_ (List.suffix_append _ _)); k_extra "suf")) | fail "no"
  k_with "inteq" => first | (first | rfl | omega | (split <;> omega) | ((simp only [Lsa.aged]); (first | rfl | omega | (split <;> omega)))) | fail "no"
  k_with "dat" => first | (first | exact DatIn.none | exact DatIn.bool _ | with_reducible assumption | (refine dat_int ?_; k_extra "inteq") | exact DatIn.str _ _ | (refine' DatIn.mono ?hsq5 ?hdq5; (case hdq5 => with_reducible assumption); (case hsq5 => k_extra "sub")) | (refine' DatIn.tuple ?hmq5 ?hdq5; (case hmq5 => k_extra "mem"); (case hdq5 => k_extra "datall")) | (refine' DatIn.list ?hmq5 ?hdq5; (case hmq5 => k_extra "mem"); (case hdq5 => k_extra "datall")) | (refine' DatIn.mono ?hsq5 ?hdq5; (case hdq5 => assumption); (case hsq5 => k_extra "sub"))) | fail "no"
  k_with "datall" => first | (first | exact DatAll.nil | (refine' DatAll.cons ?_ ?_; (next => k_extra "dat"); (next => k_extra "datall")) | (refine' datAll_mono ?hsq6 ?hdq6; (case hdq6 => with_reducible assumption); (case hsq6 => k_extra "sub")) | k_extra "datallx") | fail "no"
  k_with "room" => first | (((try simp only [depth_under_make, depth_under_kw, depth_in1, depth_deeper, depth_caller]); (try dsimp only); first | omega | ktr_room)) | fail "no"
  k_with "units" => first | (((try simp only [units_in1, units_deeper, Around.mark_units, units_caller]); (try dsimp only); first | omega | ktr_units)) | fail "no"
  k_with "memx" => first | ((refine' Ext.tup ?eq9 _ ?hq9 ?cq9); (case cq9 => with_reducible exact rfl); (case eq9 => with_reducible assumption); (case hq9 => k_extra "mem")) | ((refine' Ext.lst ?eq9 _ ?hq9 ?cq9 ?nq9); (case cq9 => with_reducible exact rfl); (case eq9 => with_reducible assumption); (case nq9 => k_extra "notin"); (case hq9 => k_extra "mem")) | ((refine' Ext.inst ?eq9 _ ?hq9 ?cq9); (case cq9 => with_reducible exact rfl); (case eq9 => with_reducible assumption); (case hq9 => k_extra "mem")) | ((refine' Ext.kept ?eq9 _ ?hq9 ?n1q9 ?n2q9); (case eq9 => with_reducible assumption); (case n1q9 => k_extra "notin"); (case n2q9 => k_extra "notin"); (case hq9 => k_extra "mem")) | fail "no"
  k_with "notin" => first | exact List.not_mem_nil | ((with_reducible refine fun ee => ?_); (with_reducible refine absurd (List.mem_singleton.mp ee) ?_); with_reducible assumption) | (simp; done) | (simp; assumption) | fail "no"
  k_with "pool" => first | with_reducible assumption | ((with_reducible refine' PoolIs.sub (fun p hp => List.mem_cons_of_mem _ hp) ?peq11); (case peq11 => k_extra "pool")) | ((with_reducible refine' PoolIs.sub (fun p hp => List.mem_append_right _ hp) ?peq11); (case peq11 => k_extra "pool")) | fail "no"
  k_with "stand" => first | with_reducible assumption | ((with_reducible refine' Stand.sub ?peq12 (fun p hp => List.mem_cons_of_mem _ hp)); (case peq12 => k_extra "stand")) | ((with_reducible refine' Stand.sub ?peq12 (fun p hp => List.mem_append_right _ hp)); (case peq12 => k_extra "stand")) | ((refine' Stand.ext ?hq12 ?eq12 (fun _ _ => List.not_mem_nil)); (case eq12 => with_reducible assumption); (case hq12 => k_extra "stand")) | fail "no"
  k_with "subscriptTail Name Slice ref ref" => first | ((k_here; k_dflt (refine' tup_from1 ?Fq13 ?Nq13 ?lq13 ?_ ?sq13 ?tq13 ?zq13; (case Fq13 => k_asm); (case Nq13 => k_asm); (case lq13 => k_extra "mem"); (case sq13 => with_unfolding_all rfl); (case tq13 => (intro _; with_unfolding_all rfl)); (case zq13 => exact Nat.le_of_ble_eq_true rfl)); intro D' h' F' N' l1; (try k_sweep))) | fail "no"
  k_with "binaryOp Add ref ref" => first | ((k_here; k_dflt (refine' tup_add ?Fq14 ?Nq14 ?lq14 ?rq14 ?_ ?zq14; (case Fq14 => k_asm); (case Nq14 => k_asm); (case lq14 => k_extra "mem"); (case rq14 => k_extra "mem"); (case zq14 => exact Nat.le_of_ble_eq_true rfl)); intro D' h' F' N' l1; (try dsimp only [List.cons_append, List.nil_append] at N'); (try k_sweep))) | fail "no"
  k_with "kok" => first | (first | exact ok_cont _ _ | exact ok_head _ _ | exact ok_key _ _ | exact ok_lsa _ _) | fail "no"
  k_with "compareOp NotEq ref" => first | ((k_here; k_dflt (refine' dat_cmp_ne ?Nq16 ?aq16 ?bq16 ?kaq16 ?kbq16 ?huq16 ?_; (case Nq16 => k_asm); (case aq16 => k_extra "dat"); (case bq16 => k_extra "dat"); (case kaq16 => k_extra "kok"); (case kbq16 => k_extra "kok"); (case huq16 => ktr_units)))) | fail "no"
  k_with "ctr ends" => first | (( (case Bq17 => k_asm); (case Fq17 => k_asm); (case Xq17 => k_asm); (case Nq17 => k_asm); (case Tq17 => k_asm); (case hkq17 => first | exact rfl | assumption); (case hdq17 => ktr_room); (case huq17 => ktr_units))) | fail "no"
  k_with "db" => first | (first | with_reducible assumption | (refine' DbIs.sub ?hsq18 ?hdq18; (case hdq18 => with_reducible assumption); (case hsq18 => k_extra "sub"))) | fail "no"
  k_with "compareOp NotIn" => first | ((k_here; (with_reducible show wpAny _ _ (compareOp CmpOp.NotIn (Value.ref _) (Value.ref _)) _ _ _); k_dflt (first | (refine' rows_notIn_some ?Nq19 ?dq19 ?kq19 ?uq19 ?bq19 ?_; (case Nq19 => k_asm); (case dq19 => k_extra "db"); (case kq19 => k_extra "dat"); (case uq19 => ktr_units); (case bq19 => with_reducible assumption)) | (refine' rows_notIn_none ?Nq19 ?dq19 ?kq19 ?uq19 ?bq19 ?_; (case Nq19 => k_asm); (case dq19 => k_extra "db"); (case kq19 => k_extra "dat"); (case uq19 => ktr_units); (case bq19 => with_reducible assumption))); intro tk')) | fail "no"
  k_with "subscriptTail" => first | ((k_here; (with_reducible show wpAny _ _ (subscriptTail _ _ (Value.ref _) (Value.ref _)) _ _ _); k_dflt (refine' rows_item ?Nq20 ?dq20 ?kq20 ?uq20 ?rq20 ?_ ?sq20 ?gq20; (case Nq20 => k_asm); (case dq20 => k_extra "db"); (case kq20 => k_extra "dat"); (case uq20 => ktr_units); (case rq20 => with_reducible assumption); (case sq20 => with_unfolding_all rfl); (case gq20 => (intro _; with_unfolding_all rfl))); intro v' tk' dv'; k_dflt (obtain ⟨a', n', lv', t', e', hm', dl'⟩ := rvD_open dv'; subst e'))) | fail "no"
  k_with "obj" => first | (first | with_reducible assumption | (refine' dbObj_sub ?hsq21 ?hdq21; (case hdq21 => with_reducible assumption); (case hsq21 => k_extra "sub")) | (refine' ⟨_, _, _, _, ?m1q21, ?m2q21⟩; (case m1q21 => k_extra "mem"); (case m2q21 => k_extra "mem"))) | fail "no"
  k_with "call builtin:sorted" => first | ((k_here; (with_reducible show wpAny _ _ (call (Value.builtin "sorted") [Value.ref _]) _ _ _); k_dflt (refine' rows_sorted ?hhq22 ?Fq22 ?Nq22 ?dq22 ?_; (case hhq22 => rfl); (case Fq22 => k_asm); (case Nq22 => k_asm); (case dq22 => k_extra "db")); intro B' h' c' tk' vs' F' N' l1 dv')) | fail "no"
  k_with "call ref" => first | ((k_here; k_dflt (refine' Ctr.use (aged_c _ _ _ _ _ _ ?hDq23) ?Bq23 ?Fq23 ?Xq23 ?Nq23 ?Tq23 ?hkq23 ?hdq23 ?huq23 ?_; (case Bq23 => k_asm); (case Fq23 => k_asm); (case Xq23 => k_asm); (case Nq23 => k_asm); (case Tq23 => k_asm); (case hDq23 => k_extra "dat"); (case hkq23 => first | exact rfl | assumption); (case hdq23 => k_extra "room"); (case huq23 => k_extra "units"); k_whole; intro r' news' h' tk' F' N' P'; obtain ⟨⟨tl', e'⟩, d'⟩ := P'; subst e'); (try dsimp only); (try k_fold))) | fail "no"
  k_with "call ref" => first | ((k_here; k_dflt (refine' Ctr.use (put_c _ _ _ _ _ _ _ _ _ ?hoq24 ?hdbq24 ?hlq24 ?hk0q24) ?Bq24 ?Fq24 ?Xq24 ?Nq24 ?Tq24 ?hkq24 ?hdq24 ?huq24 ?_; (case Bq24 => k_asm); (case Fq24 => k_asm); (case Xq24 => k_asm); (case Nq24 => k_asm); (case Tq24 => k_asm); (case hlq24 => k_extra "dat"); (case hoq24 => k_extra "obj"); (case hdbq24 => k_extra "db"); (case hk0q24 => k_extra "kin"); (case hkq24 => first | exact rfl | assumption); (case hdq24 => k_extra "room"); (case huq24 => k_extra "units"); k_whole; intro r' news' h' tk' F' N' P'; obtain ⟨e', db', d'⟩ := P'; cases d'); (try dsimp only); (try k_fold))) | fail "no"
  k_with "eval ListComp" => first | ((k_here; k_dflt (refine' lc_eval ?Fq25 ?c1q25 ?c2q25 ?c3q25 ?c4q25 ?c5q25 ?_; (case Fq25 => k_asm); (case c1q25 => with_unfolding_all rfl); (case c2q25 => decide); (case c3q25 => rfl); (case c4q25 => decide); (case c5q25 => rfl)))) | fail "no"
  k_with "exec Assign cons ListComp" => first | ((k_here; k_dflt (refine' lc_assign ?Fq26 ?c0q26 ?cwq26 ?c1q26 ?c2q26 ?c3q26 ?c4q26 ?c5q26 ?c6q26 ?c7q26 ?_; (case Fq26 => k_asm); (case c0q26 => rfl); (case cwq26 => with_unfolding_all rfl); (case c1q26 => with_unfolding_all rfl); (case c2q26 => decide); (case c3q26 => rfl); (case c4q26 => decide); (case c5q26 => rfl); (case c6q26 => rfl); (case c7q26 => rfl)))) | fail "no"
  k_with "exec For Name Call cons nil" => first | ((k_here; (rename Fr _ _ _ _ => lF'); (with_unfolding_all refine' for_my lF' ?k1q27 ?k2q27 ?_; (case k1q27 => exact rfl); (case k2q27 => exact rfl); k_whole))) | fail "no"
  k_with "exec For Name Name cons nil" => first | ((k_here; (rename Fr _ _ _ _ => lF'); (with_unfolding_all refine' for_my lF' ?k1q28 ?k2q28 ?_; (case k1q28 => exact rfl); (case k2q28 => exact rfl); k_whole))) | fail "no"
  k_with "exec For Name Attribute cons nil" => first | ((k_here; (rename Fr _ _ _ _ => lF'); (with_unfolding_all refine' for_my lF' ?k1q29 ?k2q29 ?_; (case k1q29 => exact rfl); (case k2q29 => exact rfl); k_whole))) | fail "no"
  k_with "call builtin:list.append" => first | ((k_here; k_dflt (refine' append_my ?Fq30 ?Nq30 ?mq30 ?zq30 ?_; (case Fq30 => k_asm); (case Nq30 => k_asm); (case mq30 => k_extra "mem"); (case zq30 => assumption); k_whole; intro h' F' N'); (try dsimp only); (try k_fold))) | fail "no"
  k_with "datp" => first | (first | with_reducible assumption | ((with_reducible refine' DatIn.mono (fun p hp => List.mem_cons_of_mem _ hp) ?peq31); (case peq31 => k_extra "datp")) | ((with_reducible refine' DatIn.mono (fun p hp => List.mem_append_right _ hp) ?peq31); (case peq31 => k_extra "datp")) | (refine' Ext.dat ?eq31 ?hq31 ?nq31; (case eq31 => with_reducible assumption); (case hq31 => k_extra "datp"); (case nq31 => first | exact optD_noList _ | rfl))) | fail "no"
  k_with "dat" => first | (first | with_reducible exact DatIn.int _ _ | k_extra "datp" | (refine' DatIn.tuple ?hmq32 ?hdq32; (case hmq32 => k_extra "mem"); (case hdq32 => k_extra "datall"))) | fail "no"
  k_with "dbp" => first | (first | with_reducible assumption | ((with_reducible refine' DbIs.sub (fun p hp => List.mem_cons_of_mem _ hp) ?peq33); (case peq33 => k_extra "dbp")) | ((with_reducible refine' DbIs.sub (fun p hp => List.mem_append_right _ hp) ?peq33); (case peq33 => k_extra "dbp")) | (refine' Ext.other ?eq33 _ _ _ ?nq33 ?hq33; (case eq33 => with_reducible assumption); (case hq33 => k_extra "dbp"); (case nq33 => first | assumption | simp; done | (simp; assumption)))) | fail "no"
  k_with "db" => first | (k_extra "dbp") | fail "no"
  k_with "objp" => first | (first | with_reducible assumption | ((with_reducible refine' dbObj_sub (fun p hp => List.mem_cons_of_mem _ hp) ?peq35); (case peq35 => k_extra "objp")) | ((with_reducible refine' dbObj_sub (fun p hp => List.mem_append_right _ hp) ?peq35); (case peq35 => k_extra "objp")) | (refine' Ext.obj ?eq35 _ _ ?hq35; (case eq35 => with_reducible assumption); (case hq35 => k_extra "objp"))) | fail "no"
  k_with "obj" => first | (k_extra "objp") | fail "no"
  k_with "kin" => first | (first | assumption | (show Lsa.key _ ∈ _; assumption)) | fail "no"
  k_with "kkk" => first | (first | rfl | assumption) | fail "no"
  k_with "setItem ref" => first | ((k_here; (with_reducible show wpAny _ _ (setItem (Value.ref _) _ _) _ _ _); k_dflt (refine' rows_set2 ?Fq39 ?Nq39 ?dbq39 ?hvq39 ?hkq39 ?hkkq39 ?hrq39 ?huq39 ?_; (case Fq39 => k_asm); (case Nq39 => k_asm); (case dbq39 => k_extra "db"); (case hvq39 => k_extra "dat"); (case hkq39 => k_extra "dat"); (case hkkq39 => k_extra "kkk"); (case hrq39 => k_extra "kin"); (case huq39 => k_extra "units"); intro h' news' tk' F' N' e' db'); (try dsimp only); (try k_fold))) | fail "no"
  k_with "getMethod ref" => first | ((k_here; k_dflt (refine' rows_pop_meth ?Nq40 ?dbq40 ?_; (case Nq40 => k_asm); (case dbq40 => k_extra "db")))) | fail "no"
  k_with "call builtin:dict.pop" => first | ((k_here; k_dflt (first | (refine' rows_pop_some ?Fq41 ?Nq41 ?dbq41 ?hkq41 ?hrq41 ?huq41 ?_; (case Fq41 => k_asm); (case Nq41 => k_asm); (case dbq41 => k_extra "db"); (case hkq41 => k_extra "dat"); (case hrq41 => with_reducible assumption); (case huq41 => k_extra "units"); intro x' h' news' tk' F' N' e' db' dx'; obtain ⟨ax', ex'⟩ := tup_ref dx'; subst ex') | (refine' rows_pop_none ?Nq41 ?dbq41 ?hkq41 ?hrq41 ?huq41 ?_; (case Nq41 => k_asm); (case dbq41 => k_extra "db"); (case hkq41 => k_extra "dat"); (case hrq41 => with_reducible assumption); (case huq41 => k_extra "units"); intro tk')); (try dsimp only); (try k_fold))) | fail "no"
  k_with "subscriptTail" => first | ((k_here; (with_reducible show wpAny _ _ (subscriptTail _ _ (Value.ref _) (Value.int _ _)) _ _ _); k_dflt (refine' litem ?Nq42 ?mq42 ?aq42 ?bq42 ?vq42 ?_ ?sq42; (case Nq42 => k_asm); (case mq42 => k_extra "mem"); (case aq42 => first | decide | omega); (case bq42 => first | decide | omega); (case vq42 => first | exact rfl | assumption); (case sq42 => with_unfolding_all rfl); k_whole))) | fail "no"
  k_with "setItem ref int" => first | ((k_here; k_dflt (refine' lset ?Fq43 ?Nq43 ?mq43 ?aq43 ?bq43 ?cq43 ?_; (case Fq43 => k_asm); (case Nq43 => k_asm); (case mq43 => k_extra "mem"); (case aq43 => first | decide | omega); (case bq43 => first | decide | omega); (case cq43 => first | decide | omega | ((simp only [List.length_cons, List.length_nil]); omega)); k_whole; intro h' news' F' N' e' hm' kp'); (try dsimp only); (try k_fold))) | fail "no"
  k_with "call builtin:len" => first | ((k_here; (with_reducible show wpAny _ _ (call (Value.builtin "len") [Value.ref _]) _ _ _); k_dflt (refine' llen ?Nq44 ?mq44 ?fq44 ?_; (case Nq44 => k_asm); (case mq44 => k_extra "mem"); (case fq44 => first | decide | omega | ((simp only [List.length_cons, List.length_nil]); omega)); k_whole))) | fail "no"
  k_with "subscriptTail Name Slice ref ref" => first | ((k_here; (with_reducible show wpAny _ _ (subscriptTail _ (PySem.Expr.Slice _ _ none _) (Value.ref _) (Value.ref _)) _ _ _); k_dflt (first | (refine' slice_init ?Fq45 ?Nq45 ?lq45 ?_ ?sq45 ?tq45 ?zq45; (case Fq45 => k_asm); (case Nq45 => k_asm); (case lq45 => k_extra "mem"); (case sq45 => with_unfolding_all rfl); (case tq45 => (intro _; with_unfolding_all rfl)); (case zq45 => assumption)) | (refine' slice_one ?Fq45 ?Nq45 ?lq45 ?_ ?sq45 ?tq45 ?zq45; (case Fq45 => k_asm); (case Nq45 => k_asm); (case lq45 => k_extra "mem"); (case sq45 => with_unfolding_all rfl); (case tq45 => (intro _; with_unfolding_all rfl)); (case zq45 => assumption))); intro D' h' F' N' l1; (try k_sweep))) | fail "no"
  k_with "subscriptTail" => first | ((k_here; (with_reducible show wpAny _ _ (subscriptTail _ _ (Value.ref _) (Value.int _ _)) _ _ _); k_dflt (refine' last_item ?Nq46 ?mq46 ?zq46 ?_ ?sq46; (case Nq46 => k_asm); (case mq46 => k_extra "mem"); (case zq46 => assumption); (case sq46 => with_unfolding_all rfl); k_whole))) | fail "no"
  k_with "binaryOp Mult ref int" => first | ((k_here; (with_reducible show wpAny _ _ (binaryOp Operator.Mult (Value.ref _) (Value.int _ _)) _ _ _); k_dflt (refine' mul_my ?Fq47 ?Nq47 ?lq47 ?aq47 ?bq47 ?_; (case Fq47 => k_asm); (case Nq47 => k_asm); (case lq47 => k_extra "mem"); (case aq47 => k_extra "len1"); (case bq47 => k_extra "len3"); intro D' h' F' N' l1; (try k_sweep)))) | fail "no"
  k_with "len1" => first | (first | exact take1_le _ | exact Nat.le_refl _) | fail "no"
  k_with "len3" => first | (first | assumption | omega) | fail "no"
  k_with "okd" => first | (first | with_reducible exact okd_lsa _ _ | with_reducible exact okd_head _ _ | with_reducible exact okd_key _ _ | with_reducible exact okd_optD _ _ | with_reducible exact okd_optI _ _ | with_reducible exact okd_bool _ _ | with_reducible exact okd_int _ _ | with_reducible exact okd_none _ | ((with_reducible refine' okd_rep _ ?hq50); (case hq50 => k_extra "okd")) | ((with_reducible refine' okd_map ?hq50 _); (case hq50 => (intro _; k_extra "okd")))) | fail "no"
  k_with "datallx" => first | (first | ((with_reducible refine' datAll_repT ?hdq51); (case hdq51 => k_extra "datall")) | ((with_reducible refine' datAll_rep1 ?hdq51 _); (case hdq51 => k_extra "dat")) | ((with_reducible refine' datAll_mono (fun p hp => List.mem_cons_of_mem _ hp) ?peq51); (case peq51 => k_extra "datall")) | ((with_reducible refine' datAll_mono (fun p hp => List.mem_append_right _ hp) ?peq51); (case peq51 => k_extra "datall")) | (refine' Ext.datAllL ?eq51 ?hq51; (case eq51 => with_reducible assumption); (case hq51 => k_extra "datall"))) | fail "no"
  k_with "compareOp Eq ref ref" => first | ((k_here; (with_reducible show wpAny _ _ (compareOp CmpOp.Eq (Value.ref _) (Value.ref _)) _ _ _); k_dflt (refine' cmp_same ?Nq52 ?aq52 ?bq52 ?kaq52 ?huq52 ?_; (case Nq52 => k_asm); (case aq52 => k_extra "dat"); (case bq52 => k_extra "dat"); (case kaq52 => k_extra "okd"); (case huq52 => k_extra "units")))) | fail "no"
  k_with "compareOp NotEq ref ref" => first | ((k_here; (with_reducible show wpAny _ _ (compareOp CmpOp.NotEq (Value.ref _) (Value.ref _)) _ _ _); k_dflt (refine' cmp_same_ne ?Nq53 ?aq53 ?bq53 ?kaq53 ?huq53 ?_; (case Nq53 => k_asm); (case aq53 => k_extra "dat"); (case bq53 => k_extra "dat"); (case kaq53 => k_extra "okd"); (case huq53 => k_extra "units")))) | fail "no"
  trivial
/-- what putting a row into all leaves -/
structure PutP (w : World) (news : Led) (init : List Base) (last : Base) (l : Lsa) (late now : Int) (r : Value) (news' : Led) : Prop where
  ext : Ext [] (dsOf (init ++ [last])) news news'
  st : Stand w news' (init.map (Base.upd fun b => putRow b.D (l, now)) ++ [Base.upd (fun b => putRow b.D (l.aged late, now)) last])
  res : r = .bool true
theorem law_put_c (w : World) (news : Led) (la : Addr) (init : List Base) (last : Base) (lv : Value) (l : Lsa) (late now : Int) (tl tn : Tok) (n : Nat) (c : Bool)
    (hla : (la, W.listOf (allR init last).toArray n) ∈ news) (hS : Stand w news (init ++ [last])) (hA : Apart (init ++ [last])) (h3 : init.length ≤ 2) (hl : DatIn news lv (lsaD l)) (hk : l.key ∈ allKeys)
    (hc : ∀ b ∈ init, changedB (lookRow b.D l.key now) l = c) :
    Ctr PR w (hd.heap_39 w.params) 168 14 1500 [.ref la, lv, .int late tl, .int now tn] news (PutP w news init last l late now) := by
  unfold Ctr
  have hr3 : (refs init).length ≤ 3 := by rw [refs_len]; omega
  intros
  rename_i hret
  refine wpAny_call ?_
  walk_at "my enter"
  k_steps
  revert D' h' F' N' l1
  intro D' h2 F2 N2 l2
  rename_i hh l1 o1 o2 d1 d2
  have hlt := Stand.lt hS l1
  have hlti : ∀ a ∈ dsOf init, a < L' := fun a ha => hlt a (by rw [dsOf, List.map_append]; exact List.mem_append_left _ ha)
  have nk : ∀ k, L' ≤ k → k ∉ dsOf init := fun k hk hm => Nat.lt_irrefl _ (Nat.lt_of_lt_of_le (hlti k hm) hk)
  refine' CSrc.mut init (fun b => putRow b.D (l, now)) (fun b => .bool (changedB (lookRow b.D l.key now) l)) ?h1 ?h2 ?h3 ?h4 ?h5 ?h6 ?h7 ?turn ?fin
  case h1 => exact rfl
  case h2 => k_asm
  case h3 => k_asm
  case h4 => walk_at "mem"
  case h5 => exact (hS.part fun b hb => List.mem_append_left _ hb).sub (by walk_at "sub")
  case h6 => exact hA.init.1
  case h7 => rw [sizeLine_eq]; omega
  case turn =>
    rintro ns b ys I oI C oC Da m₂ h tk E' hbm e1 ob dbb hbd hI hC hx F' N'
    have k1 := e1.kept _ (.tail _ (.head _)) (by simp) (nk _ (Nat.le_of_lt (Nat.lt_succ_of_lt (Nat.lt_succ_self _))))
    have k2 := e1.kept _ (.tail _ (.tail _ (.head _))) (by simp) (nk _ (Nat.le_succ _))
    obtain ⟨dx, hs, t, n', hxx, hdxx⟩ := id ob
    k_steps
    exact MEnd.mk (by k_asm) (by k_asm) (Ext.mid (by assumption) (by walk_at "sub") (by walk_at "sub")) (by walk_at "db") (by walk_at "dat") (.inl rfl)
  case fin =>
    rintro ys ns e1 S1 hY hax
    rw [map_const init (d := .bool c) fun b hb => by rw [hc b hb]] at hY
    have k1 := e1.kept _ (.tail _ (.head _)) (by simp) (nk _ (Nat.le_of_lt (Nat.lt_succ_of_lt (Nat.lt_succ_self _))))
    have k2 := e1.kept _ (.tail _ (.tail _ (.head _))) (by simp) (nk _ (Nat.le_succ _))
    have hS2 : Stand w ns [last] := (hS.part (fun b hb => List.mem_append_right _ hb)).sub (b := _ :: _ :: _ :: news) (by walk_at "sub") |>.ext e1 (by intro b hb; rw [List.mem_singleton.mp hb]; exact hA.init.2)
    obtain ⟨ob, dbb⟩ := hS2 _ (.head _)
    obtain ⟨dx, hs, t, n', hxx, hdxx⟩ := id ob
    have hyl : ys.length ≤ 3 := by rw [datAll_len hY, List.length_replicate]; omega
    have hla2 := e1.lst _ (.tail _ (.tail _ (.tail _ hla))) rfl (by simp)
    k_steps
    rename Ext [] [last.d] _ _ => e2
    rename DbIs w _ last.d (putRow _ _) => db2
    refine hret _ _ _ _ (by k_asm) (by k_asm) ⟨?_, ?_, rfl⟩
    · exact Ext.trans (Ext.mid (e1.up fun a ha => by rw [dsOf, List.map_append]; exact List.mem_append_left _ ha) (by walk_at "sub") (fun _ h => h)) (Ext.mid (e2.up fun a ha => by rw [dsOf, List.map_append]; exact List.mem_append_right _ ha) (by walk_at "sub") (by walk_at "sub"))
    · refine Stand.app (((S1.sub (by walk_at "sub")).ext e2 ?_).sub (by walk_at "sub")) ?_
      · intro b hb hm
        refine hA.init.2 ?_
        rw [← List.mem_singleton.mp hm, ← upd_ds (fun b => putRow b.D (l, now)) init]
        exact List.mem_map.mpr ⟨b, hb, rfl⟩
      · intro b hb
        rw [List.mem_singleton.mp hb]
        exact ⟨dbObj_sub (by walk_at "sub") (e2.obj _ _ (dbObj_sub (by walk_at "sub") ob)), DbIs.sub (by walk_at "sub") db2⟩
end
section
example : True := by
  k_with_none
  trivial
/-- nothing of D is younger than now, too old, or numbered beyond q -/
def Fit (now q : Int) (D : List Rw) : Prop := ∀ r ∈ D, r.2 ≤ now ∧ r.1.age ≤ 3600 ∧ r.1.seq ≤ q ∧ 0 ≤ r.1.age
structure Rel (bs : List Base) (last : Base) (D0 : List Rw) (late now q : Int) : Prop where
  same : ∀ b ∈ bs, ∀ k, lookRow b.D k now = lookRow D0 k now
  late : ∀ k, lookRow last.D k now = (lookRow D0 k now).map fun l => l.aged late
  fit : ∀ b ∈ bs ++ [last], Fit now q b.D
theorem aged_aged {l : Lsa} {a b : Int} (hb : 0 ≤ b) : (l.aged a).aged b = l.aged (a + b) := by
  unfold Lsa.aged
  simp only [Lsa.mk.injEq, true_and, and_true]
  omega
theorem aged_zero {l : Lsa} (h : l.age ≤ 3600) : l.aged 0 = l := by
  unfold Lsa.aged
  cases l
  simp only [Lsa.mk.injEq, true_and, and_true] at *
  omega
theorem aged_comm {l : Lsa} {a b : Int} (ha : 0 ≤ a) (hb : 0 ≤ b) : (l.aged a).aged b = (l.aged b).aged a := by
  rw [aged_aged hb, aged_aged ha, Int.add_comm]
theorem aged_key (l : Lsa) (a : Int) : (l.aged a).key = l.key := rfl
theorem aged_le (l : Lsa) (a : Int) : (l.aged a).age ≤ 3600 := by
  unfold Lsa.aged
  simp only
  omega
theorem aged_ge {l : Lsa} {a : Int} (h : 0 ≤ l.age) (ha : 0 ≤ a) : 0 ≤ (l.aged a).age := by
  unfold Lsa.aged
  simp only
  omega
theorem rowAt_mem {D : List Rw} {k : Key} {r : Rw} (h : rowAt D k = some r) : r ∈ D := List.mem_of_find?_eq_some h
theorem rowAt_put {D : List Rw} {r : Rw} {k : Key} : rowAt (putRow D r) k = if k = r.1.key then some r else rowAt D k := by
  unfold putRow
  by_cases hs : (rowAt D r.1.key).isSome = true
  · rw [if_pos hs]
    unfold rowAt at hs ⊢
    induction D with
    | nil => simp at hs
    | cons q D ih =>
      rw [List.map_cons, List.find?_cons, List.find?_cons]
      by_cases hq : q.1.key = r.1.key
      · rw [if_pos hq]
        by_cases hk : k = r.1.key
        · subst hk; simp
        · rw [if_neg hk]
          have h1 : (r.1.key == k) = false := by simpa using fun e => hk e.symm
          have h2 : (q.1.key == k) = false := by rw [hq]; exact h1
          rw [h1, h2]
          simp only
          by_cases hs2 : (D.find? fun r' => r'.1.key == r.1.key).isSome = true
          · have := ih hs2
            rw [if_neg hk] at this
            exact this
          · have hn : D.map (fun q => if q.1.key = r.1.key then r else q) = D := by
              have hno := Option.not_isSome_iff_eq_none.mp hs2
              rw [List.find?_eq_none] at hno
              conv => rhs; rw [← List.map_id D]
              refine List.map_congr_left fun x hx => ?_
              rw [if_neg (by simpa using hno x hx)]; rfl
            rw [hn]
      · rw [if_neg hq]
        have hs2 : (D.find? fun r' => r'.1.key == r.1.key).isSome = true := by
          rw [List.find?_cons] at hs
          have : (q.1.key == r.1.key) = false := by simpa using hq
          rw [this] at hs
          exact hs
        have := ih hs2
        by_cases hk : q.1.key = k
        · have hkr : ¬ k = r.1.key := fun e => hq (hk.trans e)
          rw [if_neg hkr]
          simp [hk]
        · have h2 : (q.1.key == k) = false := by simpa using hk
          rw [h2]
          simpa using this
  · rw [if_neg hs]
    have hno := Option.not_isSome_iff_eq_none.mp hs
    unfold rowAt at hno ⊢
    rw [List.find?_append]
    by_cases hk : k = r.1.key
    · subst hk
      rw [hno, if_pos rfl]; simp
    · rw [if_neg hk]
      have h1 : (r.1.key == k) = false := by simpa using fun e => hk e.symm
      rw [List.find?_cons, h1]; simp
theorem rowAt_drop {D : List Rw} {k j : Key} : rowAt (dropRow D j) k = if k = j then none else rowAt D k := by
  unfold dropRow rowAt
  rw [List.find?_filter]
  by_cases hk : k = j
  · subst hk
    rw [if_pos rfl, List.find?_eq_none]
    intro r _
    simp
  · rw [if_neg hk]
    congr 1
    funext r
    by_cases h : r.1.key = k
    · have : ¬ r.1.key = j := fun e => hk (h.symm.trans e)
      simp [h, hk]
    · simp [h]
theorem lookRow_put {D : List Rw} {l : Lsa} {s now : Int} {k : Key} : lookRow (putRow D (l, s)) k now = if k = l.key then some (l.aged (now - s)) else lookRow D k now := by
  unfold lookRow
  rw [rowAt_put]
  by_cases h : k = l.key
  · rw [if_pos h, if_pos h]; rfl
  · rw [if_neg h, if_neg h]
theorem lookRow_drop {D : List Rw} {j k : Key} {now : Int} : lookRow (dropRow D j) k now = if k = j then none else lookRow D k now := by
  unfold lookRow
  rw [rowAt_drop]
  by_cases h : k = j
  · rw [if_pos h, if_pos h]; rfl
  · rw [if_neg h, if_neg h]
theorem lookRow_dropAll {now : Int} {k : Key} : ∀ (ks : List Key) (D : List Rw), lookRow (dropAll D ks) k now = if k ∈ ks then none else lookRow D k now
  | [], D => by simp [dropAll]
  | j :: ks, D => by
    have := lookRow_dropAll (now := now) (k := k) ks (dropRow D j)
    show lookRow (dropAll (dropRow D j) ks) k now = _
    rw [this, lookRow_drop]
    by_cases h1 : k ∈ ks
    · simp [h1]
    · by_cases h2 : k = j <;> simp [h1, h2]
theorem look_key {D : List Rw} {k : Key} {now : Int} {l : Lsa} (h : lookRow D k now = some l) : l.key = k := by
  unfold lookRow at h
  cases hr : rowAt D k with
  | none => rw [hr] at h; cases h
  | some r =>
    rw [hr] at h
    cases h
    exact rowAt_key hr
theorem look_le {D : List Rw} {k : Key} {now : Int} {l : Lsa} (h : lookRow D k now = some l) : l.age ≤ 3600 := by
  unfold lookRow at h
  cases hr : rowAt D k with
  | none => rw [hr] at h; cases h
  | some r =>
    rw [hr] at h
    cases h
    exact aged_le _ _
theorem look_seq {D : List Rw} {k : Key} {now q : Int} {l : Lsa} (hf : Fit now q D) (h : lookRow D k now = some l) : l.seq ≤ q := by
  unfold lookRow at h
  cases hr : rowAt D k with
  | none => rw [hr] at h; cases h
  | some r =>
    rw [hr] at h
    cases h
    exact (hf r (rowAt_mem hr)).2.2.1
theorem look_ge {D : List Rw} {k : Key} {now q : Int} {l : Lsa} (hf : Fit now q D) (h : lookRow D k now = some l) : 0 ≤ l.age := by
  unfold lookRow at h
  cases hr : rowAt D k with
  | none => rw [hr] at h; cases h
  | some r =>
    rw [hr] at h
    cases h
    have := hf r (rowAt_mem hr)
    show 0 ≤ min (r.1.age + (now - r.2)) 3600
    omega
theorem Fit.put {now q : Int} {D : List Rw} (h : Fit now q D) {l : Lsa} (hl : l.age ≤ 3600) (hq : l.seq ≤ q + 1) (hg : 0 ≤ l.age) : Fit now (q + 1) (putRow D (l, now)) := by
  have up : ∀ r ∈ D, r.2 ≤ now ∧ r.1.age ≤ 3600 ∧ r.1.seq ≤ q + 1 ∧ 0 ≤ r.1.age := fun r hr => by
    have := h r hr
    exact ⟨this.1, this.2.1, by omega, this.2.2.2⟩
  intro r hr
  unfold putRow at hr
  split at hr
  · obtain ⟨x, hx, rfl⟩ := List.mem_map.mp hr
    split
    · exact ⟨Int.le_refl _, hl, hq, hg⟩
    · exact up x hx
  · rcases List.mem_append.mp hr with hr | hr
    · exact up r hr
    · rw [List.mem_singleton.mp hr]
      exact ⟨Int.le_refl _, hl, hq, hg⟩
theorem Fit.more {now q : Int} {D : List Rw} (h : Fit now q D) : Fit now (q + 1) D := fun r hr => by
  have := h r hr
  exact ⟨this.1, this.2.1, by omega, this.2.2.2⟩
theorem Fit.drop {now q : Int} {D : List Rw} (h : Fit now q D) (k : Key) : Fit now q (dropRow D k) := fun r hr => h r (List.mem_filter.mp hr).1
theorem Fit.dropAll {now q : Int} : ∀ (ks : List Key) {D : List Rw}, Fit now q D → Fit now q (dropAll D ks)
  | [], _, h => h
  | k :: ks, _, h => Fit.dropAll ks (h.drop k)
/-- a put, everywhere -/
theorem Rel.put {bs : List Base} {last : Base} {D0 : List Rw} {late now q : Int} (R : Rel bs last D0 late now q) {l : Lsa} (hl : l.age ≤ 3600) (hq : l.seq ≤ q + 1) (hg : 0 ≤ l.age) (h0 : 0 ≤ late) :
    Rel (bs.map (Base.upd fun b => putRow b.D (l, now))) (Base.upd (fun b => putRow b.D (l.aged late, now)) last) (putRow D0 (l, now)) late now (q + 1) where
  same := by
    intro b hb k
    obtain ⟨c, hc, rfl⟩ := List.mem_map.mp hb
    show lookRow (putRow c.D (l, now)) k now = _
    rw [lookRow_put, lookRow_put, R.same c hc]
  late := by
    intro k
    show lookRow (putRow last.D (l.aged late, now)) k now = _
    rw [lookRow_put, lookRow_put, R.late]
    by_cases h : k = l.key
    · rw [if_pos h, if_pos (show k = (l.aged late).key from h)]
      have e : now - now = 0 := by omega
      rw [e, aged_zero (aged_le _ _), aged_zero hl]; rfl
    · rw [if_neg h, if_neg (show ¬ k = (l.aged late).key from h)]
  fit := by
    intro b hb
    rcases List.mem_append.mp hb with hb | hb
    · obtain ⟨c, hc, rfl⟩ := List.mem_map.mp hb
      exact (R.fit c (List.mem_append_left _ hc)).put hl hq hg
    · rw [List.mem_singleton.mp hb]
      exact (R.fit last (List.mem_append_right _ (.head _))).put (aged_le _ _) hq (aged_ge hg h0)
theorem Rel.more {bs : List Base} {last : Base} {D0 : List Rw} {late now q : Int} (R : Rel bs last D0 late now q) : Rel bs last D0 late now (q + 1) := ⟨R.same, R.late, fun b hb => (R.fit b hb).more⟩
theorem Rel.drop {bs : List Base} {last : Base} {D0 : List Rw} {late now q : Int} (R : Rel bs last D0 late now q) (j : Key) :
    Rel (bs.map (Base.upd fun b => dropRow b.D j)) (Base.upd (fun b => dropRow b.D j) last) (dropRow D0 j) late now q where
  same := by
    intro b hb k
    obtain ⟨c, hc, rfl⟩ := List.mem_map.mp hb
    show lookRow (dropRow c.D j) k now = _
    rw [lookRow_drop, lookRow_drop, R.same c hc]
  late := by
    intro k
    show lookRow (dropRow last.D j) k now = _
    rw [lookRow_drop, lookRow_drop, R.late]
    split <;> rfl
  fit := by
    intro b hb
    rcases List.mem_append.mp hb with hb | hb
    · obtain ⟨c, hc, rfl⟩ := List.mem_map.mp hb
      exact (R.fit c (List.mem_append_left _ hc)).drop j
    · rw [List.mem_singleton.mp hb]
      exact (R.fit last (List.mem_append_right _ (.head _))).drop j
theorem Rel.gone {bs : List Base} {last : Base} {D0 : List Rw} {late now q : Int} (R : Rel bs last D0 late now q) (ks : List Key) :
    Rel (bs.map (Base.upd fun b => dropAll b.D ks)) (Base.upd (fun b => dropAll b.D ks) last) (dropAll D0 ks) late now q where
  same := by
    intro b hb k
    obtain ⟨c, hc, rfl⟩ := List.mem_map.mp hb
    show lookRow (dropAll c.D ks) k now = _
    rw [lookRow_dropAll, lookRow_dropAll, R.same c hc]
  late := by
    intro k
    show lookRow (dropAll last.D ks) k now = _
    rw [lookRow_dropAll, lookRow_dropAll, R.late]
    split <;> rfl
  fit := by
    intro b hb
    rcases List.mem_append.mp hb with hb | hb
    · obtain ⟨c, hc, rfl⟩ := List.mem_map.mp hb
      exact (R.fit c (List.mem_append_left _ hc)).dropAll ks
    · rw [List.mem_singleton.mp hb]
      exact (R.fit last (List.mem_append_right _ (.head _))).dropAll ks
theorem lookRow_end {D : List Rw} {j k : Key} {now : Int} : lookRow (endRow D j now) k now = if k = j then (lookRow D j now).map (fun l => l.aged 3600) else lookRow D k now := by
  unfold endRow
  cases h : lookRow D j now with
  | none =>
    simp only [Option.map_none]
    by_cases hk : k = j
    · rw [if_pos hk, hk, h]
    · rw [if_neg hk]
  | some l =>
    simp only [Option.map_some]
    rw [lookRow_put]
    have hj : (l.aged 3600).key = j := (aged_key l 3600).trans (look_key h)
    rw [hj]
    by_cases hk : k = j
    · rw [if_pos hk, if_pos hk, show now - now = 0 by omega, aged_zero (aged_le _ _)]
    · rw [if_neg hk, if_neg hk]
theorem Fit.end {now q : Int} {D : List Rw} (h : Fit now q D) (j : Key) : Fit now (q + 1) (endRow D j now) := by
  unfold endRow
  cases hl : lookRow D j now with
  | none => exact h.more
  | some l =>
    refine h.put (aged_le _ _) ?_ (aged_ge (look_ge h hl) (by decide))
    have := look_seq h hl
    show l.seq ≤ q + 1
    omega
theorem Rel.end {bs : List Base} {last : Base} {D0 : List Rw} {late now q : Int} (R : Rel bs last D0 late now q) (j : Key) (h0 : 0 ≤ late) :
    Rel (bs.map (Base.upd fun b => endRow b.D j now)) (Base.upd (fun b => endRow b.D j now) last) (endRow D0 j now) late now (q + 1) where
  same := by
    intro b hb k
    obtain ⟨c, hc, rfl⟩ := List.mem_map.mp hb
    show lookRow (endRow c.D j now) k now = _
    rw [lookRow_end, lookRow_end, R.same c hc, R.same c hc]
  late := by
    intro k
    show lookRow (endRow last.D j now) k now = _
    rw [lookRow_end, lookRow_end, R.late, R.late]
    by_cases hk : k = j
    · rw [if_pos hk, if_pos hk]
      cases lookRow D0 j now with
      | none => rfl
      | some l => simp only [Option.map_some]; rw [aged_comm (by decide) h0]
    · rw [if_neg hk, if_neg hk]
  fit := by
    intro b hb
    rcases List.mem_append.mp hb with hb | hb
    · obtain ⟨c, hc, rfl⟩ := List.mem_map.mp hb
      exact (R.fit c (List.mem_append_left _ hc)).end j
    · rw [List.mem_singleton.mp hb]
      exact (R.fit last (List.mem_append_right _ (.head _))).end j
/-- time goes on -/
theorem look_on {D : List Rw} {k : Key} {now g : Int} (h0 : 0 ≤ g) : lookRow D k (now + g) = (lookRow D k now).map fun l => l.aged g := by
  unfold lookRow
  cases rowAt D k with
  | none => rfl
  | some r =>
    simp only [Option.map_some]
    rw [aged_aged h0]
    congr 2
    omega
theorem end_late {l : Lsa} {late : Int} (h : 0 ≤ l.age) (h0 : 0 ≤ late) : (l.aged late).aged 3600 = l.aged 3600 := by
  unfold Lsa.aged
  simp only [Lsa.mk.injEq, true_and, and_true]
  omega
theorem Rel.look {bs : List Base} {last : Base} {D0 : List Rw} {late now q : Int} (R : Rel bs last D0 late now q) {f : Option Lsa → Dat} {k : Key} (hl : f ((lookRow D0 k now).map fun l => l.aged late) = f (lookRow D0 k now)) : ∀ b ∈ bs ++ [last], f (lookRow b.D k now) = f (lookRow D0 k now) := by
  intro b hb
  rcases List.mem_append.mp hb with hb | hb
  · rw [R.same b hb]
  · rw [List.mem_singleton.mp hb, R.late, hl]
theorem look_some {D : List Rw} {k : Key} {now : Int} : (rowAt D k).isSome = (lookRow D k now).isSome := by
  unfold lookRow; cases rowAt D k <;> rfl
def headO : Option Lsa → Dat
  | none => .none
  | some l => headD l
theorem upd_id (bs : List Base) : bs.map (Base.upd fun b => b.D) = bs := by
  conv => rhs; rw [← List.map_id bs]
  exact List.map_congr_left fun b _ => rfl
theorem newer_up {x y : Lsa} (h : y.seq < x.seq) : newerI x y = 1 := by
  unfold newerI
  rw [if_pos (by omega), if_pos h]
theorem newer_down {x y : Lsa} (h : x.seq < y.seq) : newerI x y = -1 := by
  unfold newerI
  rw [if_pos (by omega), if_neg (by omega)]
/-- what each tells of a key that the first knows -/
theorem Rel.some {bs : List Base} {last : Base} {D0 : List Rw} {late now q : Int} (R : Rel bs last D0 late now q) {k : Key} {l : Lsa} (h : lookRow D0 k now = some l) : ∀ b ∈ bs ++ [last], ∃ lb, lookRow b.D k now = some lb ∧ lb.seq = l.seq := by
  intro b hb
  rcases List.mem_append.mp hb with hb | hb
  · exact ⟨l, (R.same b hb k).trans h, rfl⟩
  · rw [List.mem_singleton.mp hb]
    exact ⟨l.aged late, by rw [R.late, h]; rfl, rfl⟩
theorem datAll_app {ns : Led} : ∀ {xs ys : List Value} {ds es : List Dat}, DatAll ns xs ds → DatAll ns ys es → DatAll ns (xs ++ ys) (ds ++ es)
  | _, _, _, _, .nil, h => h
  | _, _, _, _, .cons a r, h => .cons a (datAll_app r h)
end
section
section
variable {D D' : List Rw} {now now' : Int}
theorem keysSame (h : ∀ k, (lookRow D k now).isSome = (lookRow D' k now').isSome) : sortKeys D = sortKeys D' := by
  unfold sortKeys
  congr 1
  funext k
  rw [look_some (now := now), look_some (now := now'), h]
theorem rowsAt_eq (h : ∀ k, lookRow D k now = lookRow D' k now') : rowsAt D now = rowsAt D' now' := by
  unfold rowsAt
  rw [keysSame (now := now) (now' := now') fun k => by rw [h k]]
  congr 1
  funext k
  exact h k
theorem goneKeys_eq (ow : Key → Bool) (h : ∀ k, lookRow D k now = lookRow D' k now') : goneKeys ow D now = goneKeys ow D' now' := by
  unfold goneKeys
  rw [rowsAt_eq h]
theorem look_of_mem (hn : (keysOf D).Nodup) {r : Rw} (hr : r ∈ D) : rowAt D r.1.key = some r := by
  unfold rowAt
  induction D with
  | nil => cases hr
  | cons q D ih =>
    have h1 := List.nodup_cons.mp (show ((q.1.key :: keysOf D)).Nodup from hn)
    rw [List.find?_cons]
    rcases List.mem_cons.mp hr with rfl | hr
    · simp
    · have hne : q.1.key ≠ r.1.key := fun e => h1.1 (by rw [e]; exact List.mem_map_of_mem (f := fun r : Rw => r.1.key) hr)
      have h2 : (q.1.key == r.1.key) = false := by simpa using hne
      rw [h2]
      exact ih h1.2 hr
theorem nowRows_mem (hn : (keysOf D).Nodup) {x : Rw} : x ∈ nowRows D now ↔ x.2 = now ∧ lookRow D x.1.key now = some x.1 := by
  unfold nowRows
  constructor
  · intro h
    obtain ⟨r, hr, rfl⟩ := List.mem_map.mp h
    refine ⟨rfl, ?_⟩
    show lookRow D r.1.key now = _
    unfold lookRow
    rw [look_of_mem hn hr]; rfl
  · rintro ⟨h2, h⟩
    unfold lookRow at h
    cases hr : rowAt D x.1.key with
    | none => rw [hr] at h; cases h
    | some r =>
      rw [hr] at h
      refine List.mem_map.mpr ⟨r, rowAt_mem hr, ?_⟩
      have h3 := Option.some.inj h
      exact Prod.ext h3 h2.symm
theorem keys_nodup_of {f : Rw → Rw} (hk : ∀ r, (f r).1.key = r.1.key) (hn : (keysOf D).Nodup) : (D.map f).Nodup := by
  have : ((D.map f).map fun r => r.1.key).Nodup := by
    rw [List.map_map]
    have e : (fun r : Rw => r.1.key) ∘ f = fun r => r.1.key := funext hk
    rw [e]; exact hn
  exact List.Pairwise.of_map (R := fun a b : Rw => a ≠ b) (S := fun a b : Key => a ≠ b) (fun r : Rw => r.1.key) (fun a b hab e => hab (by rw [e])) this
theorem nowRows_nodup (hn : (keysOf D).Nodup) : (nowRows D now).Nodup := keys_nodup_of (fun r => aged_key _ _) hn
theorem step_comm {router : Int} (z : Option Int) (x y : Rw) : step router (step router z x) y = step router (step router z y) x := by
  cases z with
  | none =>
    rw [step_none, step_none]
    by_cases hx : x.1.age < lim router x.1 <;> by_cases hy : y.1.age < lim router y.1
    · rw [if_pos hx, if_pos hy, step_some, step_some]
      split <;> split <;> first | rfl | (congr 1; omega) | omega
    · rw [if_pos hx, if_neg hy, step_some, step_none, if_neg (show ¬ (y.1.age < lim router y.1 ∧ _) from fun e => hy e.1), if_pos hx]
    · rw [if_neg hx, if_pos hy, step_some, step_none, if_neg (show ¬ (x.1.age < lim router x.1 ∧ _) from fun e => hx e.1), if_pos hy]
    · rw [if_neg hx, if_neg hy, step_none, step_none, if_neg hx, if_neg hy]
  | some b =>
    rw [step_some, step_some]
    by_cases hx : x.1.age < lim router x.1 ∧ x.2 + lim router x.1 - x.1.age < b <;> by_cases hy : y.1.age < lim router y.1 ∧ y.2 + lim router y.1 - y.1.age < b
    · rw [if_pos hx, if_pos hy, step_some, step_some]
      split <;> split <;> first | rfl | (congr 1; omega) | omega
    · rw [if_pos hx, if_neg hy, step_some, step_some, if_pos hx]
      split
      · exfalso; omega
      · rfl
    · rw [if_neg hx, if_pos hy, step_some, step_some, if_pos hy]
      split
      · exfalso; omega
      · rfl
    · rw [if_neg hx, if_neg hy, step_some, step_some, if_neg hx, if_neg hy]
theorem nextT_perm {router : Int} {R R' : List Rw} (h : R.Perm R') : nextT router R = nextT router R' :=
  List.Perm.foldl_eq' h (fun x _ y _ z => step_comm z x y) none
theorem nextT_eq {router : Int} (hn : (keysOf D).Nodup) (hn' : (keysOf D').Nodup) (h : ∀ k, lookRow D k now = lookRow D' k now) : nextT router (nowRows D now) = nextT router (nowRows D' now) :=
  nextT_perm ((List.perm_ext_iff_of_nodup (nowRows_nodup hn) (nowRows_nodup hn')).mpr fun x => by rw [nowRows_mem hn, nowRows_mem hn', h])
theorem tells_eq (hn : (keysOf D).Nodup) (hn' : (keysOf D').Nodup) (h : ∀ k, lookRow D k now = lookRow D' k now) : tellsD D now = tellsD D' now := by
  unfold tellsD
  have e : sortKeys D = sortKeys D' := keysSame (now := now) (now' := now) fun k => by rw [h k]
  rw [rowsAt_eq h, nextT_eq hn hn' h, e]
/-- the fresh copy -/
def copyOf (D : List Rw) (now : Int) : List Rw := (rowsAt D now).map fun l => (l, now)
theorem rowsAt_mem {l : Lsa} (hk : ∀ k ∈ keysOf D, k ∈ allKeys) : l ∈ rowsAt D now ↔ lookRow D l.key now = some l := by
  unfold rowsAt
  rw [List.mem_filterMap]
  constructor
  · rintro ⟨k, _, h⟩
    rw [look_key h]; exact h
  · intro h
    refine ⟨l.key, ?_, h⟩
    unfold sortKeys
    refine List.mem_filter.mpr ⟨?_, by rw [look_some (now := now), h]; rfl⟩
    unfold lookRow at h
    cases hr : rowAt D l.key with
    | none => rw [hr] at h; cases h
    | some r =>
      rw [← rowAt_key hr]
      exact hk _ (List.mem_map_of_mem (f := fun r : Rw => r.1.key) (rowAt_mem hr))
theorem fm_keys (o : Key → Option Lsa) (ho : ∀ k l, o k = some l → l.key = k) : ∀ ks : List Key, (ks.filterMap o).map Lsa.key = ks.filter fun k => (o k).isSome
  | [] => rfl
  | k :: ks => by
    rw [List.filterMap_cons, List.filter_cons]
    cases h : o k with
    | none => simp [fm_keys o ho ks]
    | some l => simp [fm_keys o ho ks, ho k l h]
theorem rowsAt_keys : (rowsAt D now).map Lsa.key = sortKeys D := by
  unfold rowsAt
  rw [fm_keys (fun k => lookRow D k now) fun k l h => look_key h]
  exact List.filter_eq_self.mpr fun a ha => by
    rw [← look_some]; exact (List.mem_filter.mp ha).2
theorem allKeys_nodup : allKeys.Nodup := by decide
theorem sortKeys_nodup : (sortKeys D).Nodup := List.Nodup.sublist List.filter_sublist allKeys_nodup
theorem rowsAt_nodup : ((rowsAt D now).map Lsa.key).Nodup := by rw [rowsAt_keys]; exact sortKeys_nodup
theorem copy_keys : keysOf (copyOf D now) = sortKeys D := by
  unfold copyOf keysOf
  rw [List.map_map, ← rowsAt_keys (now := now)]; rfl
theorem copy_perm (hn : (keysOf D).Nodup) (hk : ∀ k ∈ keysOf D, k ∈ allKeys) : (copyOf D now).Perm (nowRows D now) := by
  have hc : (keysOf (copyOf D now)).Nodup := by rw [copy_keys]; exact sortKeys_nodup
  refine (List.perm_ext_iff_of_nodup ?_ (nowRows_nodup hn)).mpr fun x => ?_
  · have := keys_nodup_of (f := fun r => r) (fun _ => rfl) hc
    simpa using this
  · rw [nowRows_mem hn]
    unfold copyOf
    constructor
    · intro h
      obtain ⟨l, hl, rfl⟩ := List.mem_map.mp h
      exact ⟨rfl, (rowsAt_mem hk).mp hl⟩
    · rintro ⟨h2, h⟩
      exact List.mem_map.mpr ⟨x.1, (rowsAt_mem hk).mpr h, by rw [← h2]⟩
theorem look_copy (hk : ∀ k ∈ keysOf D, k ∈ allKeys) (k : Key) : lookRow (copyOf D now) k now = lookRow D k now := by
  have hc : (keysOf (copyOf D now)).Nodup := by rw [copy_keys]; exact sortKeys_nodup
  cases h : lookRow D k now with
  | some l =>
    have hl := (rowsAt_mem (now := now) hk).mpr (by rw [look_key h]; exact h)
    have := look_of_mem hc (r := (l, now)) (List.mem_map.mpr ⟨l, hl, rfl⟩)
    unfold lookRow
    rw [show (l, now).1.key = k from look_key h] at this
    rw [this]
    show some (l.aged (now - now)) = _
    rw [show now - now = 0 by omega, aged_zero (look_le h)]
  | none =>
    unfold lookRow
    cases hr : rowAt (copyOf D now) k with
    | none => rfl
    | some r =>
      exfalso
      obtain ⟨l, hl, rfl⟩ := List.mem_map.mp (rowAt_mem hr)
      have e := (rowsAt_mem hk).mp hl
      have e2 := rowAt_key hr
      rw [show l.key = k from e2, h] at e
      cases e
theorem copy_put {l : Lsa} {i : Nat} (h : (rowsAt D now)[i]? = some l) : putRow (((rowsAt D now).take i).map fun l => (l, now)) (l, now) = ((rowsAt D now).take (i + 1)).map fun l => (l, now) := by
  have hn := rowsAt_nodup (D := D) (now := now)
  have hd : rowsAt D now = (rowsAt D now).take i ++ l :: (rowsAt D now).drop (i + 1) := by
    have hi : i < (rowsAt D now).length := (List.getElem?_eq_some_iff.mp h).1
    have := List.drop_eq_getElem_cons hi
    rw [List.getElem?_eq_getElem hi] at h
    rw [Option.some.inj h] at this
    rw [← this, List.take_append_drop]
  have hno : rowAt (((rowsAt D now).take i).map fun l => (l, now)) l.key = none := by
    refine rowAt_none.mpr fun hm => ?_
    unfold keysOf at hm
    rw [List.map_map] at hm
    rw [hd, List.map_append, List.map_cons] at hn
    exact (List.nodup_append.mp hn).2.2 _ hm _ (.head _) rfl
  unfold putRow
  rw [show (l, now).1.key = l.key from rfl, hno, take_snoc h, List.map_append]
  simp
theorem Fit.copy {q : Int} (hk : ∀ k ∈ keysOf D, k ∈ allKeys) (h : Fit now q D) : Fit now q (copyOf D now) := by
  intro r hr
  obtain ⟨l, hl, rfl⟩ := List.mem_map.mp hr
  have e := (rowsAt_mem hk).mp hl
  exact ⟨Int.le_refl _, look_le e, look_seq h e, look_ge h e⟩
end
theorem Rel.copy {a c last : Base} {late now q : Int} (R : Rel [a] last a.D late now q) (hk : ∀ k ∈ keysOf a.D, k ∈ allKeys) (hc : c.D = copyOf a.D now) : Rel [a, c] last a.D late now q where
  same := by
    intro b hb k
    simp only [List.mem_cons, List.not_mem_nil, or_false] at hb
    rcases hb with rfl | rfl
    · rfl
    · rw [hc]; exact look_copy hk k
  late := R.late
  fit := by
    intro b hb
    simp only [List.cons_append, List.nil_append, List.mem_cons, List.not_mem_nil, or_false] at hb
    rcases hb with rfl | rfl | rfl
    · exact R.fit _ (.head _)
    · rw [hc]; exact Fit.copy hk (R.fit a (.head _))
    · exact R.fit _ (.tail _ (.head _))
theorem Rel.on {bs : List Base} {last : Base} {D0 : List Rw} {late now q g : Int} (R : Rel bs last D0 late now q) (h0 : 0 ≤ late) (hg : 0 ≤ g) : Rel bs last D0 late (now + g) q where
  same := fun b hb k => by rw [look_on hg, look_on hg, R.same b hb]
  late := fun k => by
    rw [look_on hg, look_on hg, R.late]
    cases lookRow D0 k now with
    | none => rfl
    | some l => simp only [Option.map_some]; rw [aged_comm h0 hg]
  fit := fun b hb r hr => by
    have := R.fit b hb r hr
    exact ⟨by omega, this.2⟩
theorem Rel.first {bs : List Base} {last : Base} {D0 D1 : List Rw} {late now q : Int} (R : Rel bs last D0 late now q) (h : ∀ k, lookRow D1 k now = lookRow D0 k now) : Rel bs last D1 late now q :=
  ⟨fun b hb k => by rw [R.same b hb, h], fun k => by rw [R.late, h], R.fit⟩
theorem rel_nil {a b : Base} (ha : a.D = []) (hb : b.D = []) (late now q : Int) : Rel [a] b a.D late now q where
  same := fun c hc k => by rw [List.mem_singleton.mp hc]
  late := fun k => by rw [ha, hb]; rfl
  fit := fun c hc r hr => by
    simp only [List.cons_append, List.nil_append, List.mem_cons, List.not_mem_nil, or_false] at hc
    rcases hc with rfl | rfl
    · rw [ha] at hr; cases hr
    · rw [hb] at hr; cases hr
theorem fm_map (o : Key → Option Lsa) (f : Lsa → Lsa) : ∀ ks : List Key, ks.filterMap (fun k => (o k).map f) = (ks.filterMap o).map f
  | [] => rfl
  | k :: ks => by
    rw [List.filterMap_cons, List.filterMap_cons]
    cases o k with
    | none => exact fm_map o f ks
    | some l => simp only [Option.map_some, List.map_cons]; rw [fm_map o f ks]
theorem rowsAt_on {D : List Rw} {now g : Int} (hg : 0 ≤ g) : rowsAt D (now + g) = (rowsAt D now).map fun l => l.aged g := by
  unfold rowsAt
  rw [← fm_map]
  congr 1
  funext k
  exact look_on hg
/-- the late one's words -/
theorem late_newer {l : Lsa} {late due : Int} (h0 : 0 ≤ late) (h9 : late ≤ 900) (hl : l.age ≤ 3600) (hd : due = if l.age < 3600 ∧ (l.aged late).age = 3600 then -1 else 0) : newerI l (l.aged late) = due ∧ newerI (l.aged late) l = 0 - due := by
  have e : (l.aged late).age = min (l.age + late) 3600 := rfl
  have es : (l.aged late).seq = l.seq := rfl
  unfold newerI
  rw [es, if_neg (show ¬ (l.seq ≠ l.seq) from fun e => e rfl), if_neg (show ¬ (l.seq ≠ l.seq) from fun e => e rfl)]
  rw [e] at hd ⊢
  subst hd
  by_cases ha : 3600 ≤ l.age <;> by_cases hb : 3600 ≤ min (l.age + late) 3600
  · rw [decide_eq_true ha, decide_eq_true hb, if_neg (show ¬ (true != true) = true by decide), if_neg (show ¬ (true != true) = true by decide), if_neg (by split <;> omega), if_neg (by omega), if_neg (by split <;> omega)]
    exact ⟨rfl, rfl⟩
  · exfalso; omega
  · rw [decide_eq_false ha, decide_eq_true hb, if_pos (show (false != true) = true by decide), if_pos (show (true != false) = true by decide), if_neg ha, if_pos hb, if_pos (by omega)]
    exact ⟨rfl, rfl⟩
  · rw [decide_eq_false ha, decide_eq_false hb, if_neg (show ¬ (false != false) = true by decide), if_neg (show ¬ (false != false) = true by decide), if_neg (by split <;> omega), if_neg (by omega), if_neg (by split <;> omega)]
    exact ⟨rfl, rfl⟩
end
section
/-- the lambda's name -/
def lamQ : Str := Str.ofString "_law_deed.<locals>.<lambda>"
/-- the table of _law_deed's code: empty, or the lambda's code stands in it -/
def TabIs (news : Led) : Prop := (170, tabObj #[]) ∈ news ∨ ∃ c' oc vs t, (170, tabObj #[rawInt 127, rawInt 28, .ref c']) ∈ news ∧ (c', oc) ∈ news ∧ oc.data = .fields vs ∧ vs[1]? = some (.str lamQ t)
theorem TabIs.obj {news : Led} (h : TabIs news) : ∃ ps, (170, tabObj ps) ∈ news := by
  rcases h with h | ⟨c', oc, vs, t, h, _⟩
  · exact ⟨_, h⟩
  · exact ⟨_, h⟩
theorem TabIs.sub {a b : Led} (h : TabIs a) (hs : ∀ p ∈ a, p ∈ b) : TabIs b := by
  rcases h with h | ⟨c', oc, vs, t, h, k, r⟩
  · exact .inl (hs _ h)
  · exact .inr ⟨c', oc, vs, t, hs _ h, hs _ k, r⟩
/-- the table stays where lists and dicts of rows are stored into -/
theorem TabIs.ext {w : World} {h₀ h : Heap} {L : Addr} {P Ws : List Addr} {a b : Led} (T : TabIs a) (N : News h₀ L h a) (e : Ext P Ws a b) (hP : ∀ x ∈ P, ∃ its n, (x, W.listOf its n) ∈ a) (hW : ∀ x ∈ Ws, ∃ D, DbIs w a x D) : TabIs b := by
  have one : ∀ {c' : Addr} {oc : Obj} {vs : Array Value}, (c', oc) ∈ a → oc.data = .fields vs → (c', oc) ∈ b := by
    intro c' oc vs hm hd
    refine e.kept _ hm (fun hp => ?_) fun hw => ?_
    · obtain ⟨its, n, hx⟩ := hP _ hp
      have e := (N.get hm).symm.trans (N.get hx)
      rw [Option.some.inj e] at hd
      exact nomatch hd
    · obtain ⟨D, xs, n, hx, _⟩ := hW _ hw
      have e := (N.get hm).symm.trans (N.get hx)
      rw [Option.some.inj e] at hd
      exact nomatch hd
  rcases T with h | ⟨c', oc, vs, t, h, k, r⟩
  · exact .inl (one h rfl)
  · exact .inr ⟨c', oc, vs, t, one h rfl, one k r.1, r⟩
/-- an object of class none is turned -/
theorem Ext.tabs {h₀ h : Heap} {L P : Addr} {news news' : Led} {ps : Array Value} (N : News h₀ L h news) (hm : (P, tabObj ps) ∈ news) (k : ∀ p ∈ news, p.1 ≠ P → p ∈ news') : Ext [] [P] news news' := by
  have ne : ∀ p ∈ news, p.2.cls ≠ .none → p.1 ≠ P := by
    rintro ⟨a, o⟩ hp hc rfl
    have e := (N.get hp).symm.trans (N.get hm)
    cases e
    exact hc rfl
  have ty : ∀ {T : String} {p : Addr × Obj}, p ∈ news → p.2.cls = .type T → p ∈ news' := fun hp hc => k _ hp (ne _ hp (by rw [hc]; exact fun h => nomatch h))
  refine ⟨fun p hp hc => ty hp hc, fun p hp hc => k p hp (ne p hp (by rw [hc]; exact fun h => nomatch h)), fun p hp hc _ => ty hp hc, fun p hp _ hn => k p hp (by simpa using hn), ?_, fun p hp _ hd => k p hp (by simpa using hd), ?_⟩
  · rintro x d' ⟨dx, hs, t, m, a, b⟩
    exact ⟨dx, hs, t, m, k _ a (ne _ a (fun h => nomatch h)), ty b rfl⟩
  · rintro w' d' D _ ⟨xs', n', a, b, c⟩
    exact ⟨xs', n', ty a rfl, b.up (fun p hp hc => ty hp hc), c⟩
section
variable {M : Model} {A : Around} {E : Value → Shared → Prop} {s : Shared} {h₀ : Heap} {L : Addr} {m mg mb : Str → Option Value} {news : Led}
  {p : Program} {loose : List Str} {mean : ExcName → Option Value} {params : Arguments} {body : Expr} {scope : Scope} {clos : List (Str × Addr)} {env : Env}
abbrev lamO (mg : Str → Option Value) (params : Arguments) (body : Expr) (scope : Scope) (clos : List (Str × Addr)) (c' : Addr) (ctv : Value) : Obj :=
  kla_obj "<lambda>" lamQ params body scope clos ((mg "__name__").getD .none) c' ctv
theorem lam_any {Q : Value → Shared → Prop} (F : Fr h₀ L s.heap m) (N : News h₀ L s.heap news) (T : Top p loose mean mg mb h₀) (C : CodeHd h₀ 172 170) {base : Led} (hb : ∀ p ∈ base, p ∈ news) (TI : TabIs base) (hcd : env.code = .ref 172) (hge : env.globals = mainGlobals) (hq : env.qual ++ "<lambda>" = lamQ) (hdef : defaultsOf params env = ([], []))
    (hcl : closureFor scope env = pure clos)
    (h : ∀ f c' ctv oc vs t h' tk news', Fr h₀ L h' m → News h₀ L h' news' → Ext [] [170] news news' → (170, tabObj #[rawInt 127, rawInt 28, .ref c']) ∈ news' → ((c', oc) ∈ base ∨ ∀ p ∈ news, p.1 ≠ c') → (f, lamO mg params body scope clos c' ctv) ∈ news' → (c', oc) ∈ news' → oc.data = .fields vs → vs[1]? = some (.str lamQ t) → Q (.ref f) { s with heap := h', toks := tk }) :
    wpAny M A (eval (.Lambda params body scope ⟨127, 28, 127, 56⟩) env) Q E s := by
  refine kla_eval hdef ?_
  rw [hq]
  have hgs := T.g.keeps F.keep
  obtain ⟨bm, ob, b1, b2, b3, b4, b5, b6⟩ := T.bmain
  obtain ⟨ps0, hm0⟩ := TI.obj
  have hmP := N _ (hb _ hm0)
  have hbP : bm ≠ 170 := fun q => by
    have e := F.keep _ _ b3
    rw [q, hmP.1] at e; cases e; cases b4
  have hgP : mainGlobals ≠ 170 := by decide
  have hbG : bm ≠ mainGlobals := fun q => by
    obtain ⟨o, es, ep, e, hd, _⟩ := T.g
    rw [q, e] at b3; cases b3; rw [hd] at b6; cases b6
  have hLs : L < s.heap.objs.size := F.ns.lt
  have fresh : ∀ b, L < b → h₀.get? b = none := fun b hb => Heap.get?_none_of_le (Nat.le_trans F.above (Nat.le_of_lt hb))
  rcases TI with hm | ⟨c', oc, vs, t, hm, hcb, hd, hv⟩
  · replace hm := hb _ hm
    refine kla_makeFunction (mg := mg) hcl hge hgs hcd (C.keeps F.keep) (N _ hm).1 trivial rfl hgP ⟨bm, ob, b1, b2, hbG, hbP, F.keep _ _ b3, b4, b5, b6⟩ fun c' ctv h' tk hx hgec hlt hrec htb => ?_
    obtain ⟨c₂, oc, vs, t, e2, hoc, hd, hv⟩ := hrec
    cases e2
    have hLc : L < c' := Nat.lt_of_lt_of_le hLs hgec
    have htb : h'.get? 170 = some (tabObj #[rawInt 127, rawInt 28, .ref c']) := by simpa using htb
    have old : ∀ b o, h₀.get? b = some o → h'.get? b = some o := fun b o e => hx b o (fun q => by rw [q, (N _ hm).2.2] at e; cases e) (F.keep b o e)
    have kept : ∀ p ∈ news, p.1 ≠ 170 → p ∈ news.map (fun p => if p.1 = 170 then (170, tabObj #[rawInt 127, rawInt 28, .ref c']) else p) := fun p hp hne => List.mem_map.mpr ⟨p, hp, by rw [if_neg hne]⟩
    have htab : ((170 : Addr), tabObj #[rawInt 127, rawInt 28, .ref c']) ∈ news.map (fun p => if p.1 = 170 then (170, tabObj #[rawInt 127, rawInt 28, .ref c']) else p) := List.mem_map.mpr ⟨_, hm, by simp⟩
    refine h h'.objs.size c' ctv oc vs t _ tk ((h'.objs.size, lamO mg params body scope clos c' ctv) :: (c', oc) :: news.map (fun p => if p.1 = 170 then (170, tabObj #[rawInt 127, rawInt 28, .ref c']) else p))
      ⟨(F.ns.extBut hx (N _ hm).2.1.symm).push _, fun b o e => Heap.get?_push_of_some _ (old b o e), F.above⟩ (fun q hq' => ?_) (Ext.tabs N hm fun p hp hne => .tail _ (.tail _ (kept p hp hne))) (.tail _ (.tail _ htab)) (.inr fun p hp => Nat.ne_of_lt (Nat.lt_of_lt_of_le (Heap.lt_size (N p hp).1) hgec)) (.head _) (.tail _ (.head _)) hd hv
    rcases List.mem_cons.mp hq' with rfl | hq'
    · exact ⟨Heap.get?_push_size _ rfl, Nat.ne_of_gt (Nat.lt_trans hLc hlt), fresh _ (Nat.lt_trans hLc hlt)⟩
    rcases List.mem_cons.mp hq' with rfl | hq'
    · exact ⟨Heap.get?_push_of_some _ hoc, Nat.ne_of_gt hLc, fresh _ hLc⟩
    obtain ⟨p, hp, rfl⟩ := List.mem_map.mp hq'
    by_cases hne : p.1 = 170
    · rw [if_pos hne]
      exact ⟨Heap.get?_push_of_some _ htb, (N _ hm).2⟩
    · rw [if_neg hne]
      exact ⟨Heap.get?_push_of_some _ (hx _ _ hne (N p hp).1), (N p hp).2⟩
  · replace hm := hb _ hm
    have hc' := hb _ hcb
    refine kla_makeFunctionHit (mg := mg) (cv := .ref c') hcl hge hgs hcd (C.keeps F.keep) (N _ hm).1 (by simp [TriplesOk, rawInt]) (by simp [codeAmong, rawInt]) ⟨bm, ob, b1, b2, hbG, hbP, F.keep _ _ b3, b4, b5, b6⟩ fun ctv h' tk hk hsz => ?_
    have hLs' : L < h'.objs.size := Nat.lt_of_lt_of_le hLs hsz
    refine h h'.objs.size c' ctv oc vs t _ tk ((h'.objs.size, lamO mg params body scope clos c' ctv) :: news) ⟨(F.ns.keeps hk).push _, fun b o e => Heap.get?_push_of_some _ (hk b o (F.keep b o e)), F.above⟩ (fun q hq' => ?_)
      (Ext.sub0 fun p hp => .tail _ hp) (.tail _ hm) (.inl hcb) (.head _) (.tail _ hc') hd hv
    rcases List.mem_cons.mp hq' with rfl | hq'
    · exact ⟨Heap.get?_push_size _ rfl, Nat.ne_of_gt hLs', fresh _ hLs'⟩
    · exact ⟨Heap.get?_push_of_some _ (hk _ _ (N q hq').1), (N q hq').2⟩
end
theorem code_in {w : World} {h : Heap} (X : (hd.heap_39 w.params).In h) : CodeHd h 172 170 :=
  ⟨_, _, _, _, _, _, _, _, _, X 172 _ rfl, rfl, rfl, rfl, rfl, rfl, rfl, rfl, rfl, by decide⟩
/-- a comprehension over databases, each of which is swept by a lambda made anew -/
theorem CSrc.mut2 {w : World} {A : Around} {s : Shared} {h₀ : Heap} {L ax : Addr} {m : Str → Option Value} {env : Env} {elt : Expr} {x : Str} {scope : Scope} {cl : List (Str × Addr)}
    {news : Led} {k : Nat} {Fin : Shared → List Value → Led → Prop} (src : List Base) (g : Base → List Rw) (rd : Base → Dat)
    (hh : A.handled = none) (F : Fr h₀ L s.heap m) (N : News h₀ L s.heap news) (hax : (ax, W.listOf (refs src).toArray k) ∈ news) (hS : Stand w news src) (hA : Apart src) (hT : TabIs news) (h170 : ∀ b ∈ src, b.d ≠ 170) (hsz : src.length ≤ sizeLine)
    (turn : ∀ ns b ys I oI C oC Da m₂ h tk (E' : Value → Shared → Prop), b ∈ src → Ext [] (dsOf src ++ [170]) news ns → DbObj ns b.x b.d → DbIs w ns b.d b.D → TabIs ns → (b.d ≠ I ∧ b.d ≠ C ∧ b.d ≠ Da) → (∀ p ∈ ns, p.1 ≠ I ∧ p.1 ≠ C ∧ p.1 ≠ Da) → oI.cls = .type "list_iterator" → LCg.NsObj oC m₂ → m₂ x = some (.ref b.x) → Fr h₀ L h m → News h₀ L h ((I, oI) :: (C, oC) :: (Da, lstO ys) :: ns) →
      wpAny (model PR w) A (eval elt (compEnvC scope cl C env)) (MEnd h₀ L m { s with heap := h, toks := tk } ((I, oI) :: (C, oC) :: (Da, lstO ys) :: ns) [b.d, 170] (fun all => DbIs w all b.d (g b) ∧ TabIs (all.filter fun p => decide (p.1 ≠ I ∧ p.1 ≠ C ∧ p.1 ≠ Da))) (rd b)) E' { s with heap := h, toks := tk })
    (fin : ∀ ys ns, Ext [] (dsOf src ++ [170]) news ns → Stand w ns (src.map (Base.upd g)) → DatAll ns ys (src.map rd) → TabIs ns → (ax, W.listOf (refs src).toArray k) ∈ ns → Fin s ys ns) :
    CSrc PR w A h₀ L m env [] elt x scope cl Fin (.ref ax) s := by
  refine ⟨ax, (refs src).toArray, k, news, fun i ys ns => (ax, W.listOf (refs src).toArray k) ∈ ns ∧ Ext [] (dsOf src ++ [170]) news ns ∧ Stand w ns ((src.take i).map (Base.upd g) ++ src.drop i) ∧ DatAll ns ys ((src.take i).map rd) ∧ TabIs ns, rfl, hh, F, N, hax, by simpa using hsz, ?_, ⟨hax, Ext.sub0 fun p hp => hp, by simpa using hS, .nil, hT⟩, ?_, ?_⟩
  · rintro i ys ns ⟨h, _⟩
    exact ⟨k, h⟩
  · rintro i ys ns v I oI C oC Da m₂ h tk E' hv ⟨hx1, e1, S1, d1, T1⟩ hI hC hx F' N' off'
    obtain ⟨b, hb, rfl⟩ : ∃ b, src[i]? = some b ∧ v = .ref b.x := by
      have hv' : (refs src)[i]? = some v := by simpa using hv
      rw [List.getElem?_map] at hv'
      cases e : src[i]? with
      | none => rw [e] at hv'; cases hv'
      | some b => rw [e] at hv'; exact ⟨b, rfl, (Option.some.inj hv').symm⟩
    have hbm : b ∈ src := List.mem_of_getElem? hb
    have htake : src.take (i + 1) = src.take i ++ [b] := by rw [List.take_add_one, hb]; rfl
    have hdrop : src.drop i = b :: src.drop (i + 1) := by
      have hi : i < src.length := (List.getElem?_eq_some_iff.mp hb).1
      rw [List.drop_eq_getElem_cons hi]
      rw [List.getElem?_eq_getElem hi] at hb
      rw [Option.some.inj hb]
    obtain ⟨ob, dbb⟩ := S1 b (List.mem_append_right _ (by rw [hdrop]; exact .head _))
    have off3 := off'.mem
    have hbd : b.d ≠ I ∧ b.d ≠ C ∧ b.d ≠ Da := by
      obtain ⟨xs, n, hm, _⟩ := id dbb
      exact off3 _ hm
    have h17 : (170 : Addr) ≠ I ∧ (170 : Addr) ≠ C ∧ (170 : Addr) ≠ Da := by
      obtain ⟨ps, hm⟩ := T1.obj
      exact off3 _ hm
    refine wpAny_tests_nil ?_
    simp only [if_true]
    refine wpAny_mono (turn ns b ys I oI C oC Da m₂ h tk E' hbm e1 ob dbb T1 hbd off3 hI hC hx F' N') (fun y s' h' => ?_) fun _ _ e => e
    obtain ⟨h2, tk2, all, rfl, F2, N2, e2, ⟨dN, tN⟩, dy, hr⟩ := h'
    have kI := e2.kept _ (.head _) (by simp) (by simpa using ⟨hbd.1.symm, h17.1.symm⟩)
    have kC := e2.kept _ (.tail _ (.head _)) (by simp) (by simpa using ⟨hbd.2.1.symm, h17.2.1.symm⟩)
    have kD := e2.kept _ (.tail _ (.tail _ (.head _))) (by simp) (by simpa using ⟨hbd.2.2.symm, h17.2.2.symm⟩)
    have ht := off_tup N2 kI kC kD hI hC
    have e3 : Ext [] [b.d, 170] ns (all.filter fun p => decide (p.1 ≠ I ∧ p.1 ≠ C ∧ p.1 ≠ Da)) := Ext.off N2 e2 (fun p hp => .tail _ (.tail _ (.tail _ hp))) (fun p hp o => decide_eq_true (off3 p hp)) ht
    refine ⟨h2, tk2, all, rfl, F2, N2, ?_, ?_, ?_, ?_, ?_, tN⟩
    · intro p hp
      simp only [List.mem_cons, List.not_mem_nil, or_false] at hp
      rcases hp with rfl | rfl | rfl <;> assumption
    · exact e3.lst _ hx1 rfl (by simp)
    · refine Ext.trans e1 (Ext.weak e3 (fun _ h => h) fun a ha => ?_)
      simp only [List.mem_cons, List.not_mem_nil, or_false] at ha
      rcases ha with rfl | rfl
      · exact List.mem_append_left _ (List.mem_map.mpr ⟨b, hbm, rfl⟩)
      · exact List.mem_append_right _ (.head _)
    · have apart : ∀ c ∈ src.take i ++ src.drop (i + 1), c.d ≠ b.d := by
        have e : src = src.take i ++ b :: src.drop (i + 1) := by rw [← hdrop, List.take_append_drop]
        have hn : ((src.take i).map (·.d) ++ b.d :: (src.drop (i + 1)).map (·.d)).Nodup := by
          have := hA
          unfold Apart at this
          rw [e, List.map_append, List.map_cons] at this
          exact this
        intro c hc
        have hn2 := List.nodup_append.mp hn
        rcases List.mem_append.mp hc with hc | hc
        · exact hn2.2.2 _ (List.mem_map.mpr ⟨c, hc, rfl⟩) _ (.head _)
        · have := (List.nodup_cons.mp hn2.2.1).1
          intro e
          exact this (e ▸ List.mem_map.mpr ⟨c, hc, rfl⟩)
      have in1 : ∀ c ∈ src.take i, c ∈ src := fun c hc => List.mem_of_mem_take hc
      have in2 : ∀ c ∈ src.drop (i + 1), c ∈ src := fun c hc => List.mem_of_mem_drop hc
      intro c hc
      rw [htake, List.map_append, List.append_assoc] at hc
      rcases List.mem_append.mp hc with hc | hc
      · obtain ⟨o, hd⟩ := S1 c (List.mem_append_left _ hc)
        obtain ⟨c0, hc0, rfl⟩ := List.mem_map.mp hc
        exact ⟨e3.obj _ _ o, e3.other _ _ _ (by simpa [Base.upd] using ⟨apart c0 (List.mem_append_left _ hc0), h170 c0 (in1 _ hc0)⟩) hd⟩
      · rcases List.mem_append.mp hc with hc | hc
        · rw [List.map_cons, List.map_nil, List.mem_singleton] at hc
          subst hc
          exact ⟨e3.obj _ _ ob, dN.off (fun o => decide_eq_true hbd) ht⟩
        · obtain ⟨o, hd⟩ := S1 c (List.mem_append_right _ (by rw [hdrop]; exact .tail _ hc))
          exact ⟨e3.obj _ _ o, e3.other _ _ _ (by simpa using ⟨apart c (List.mem_append_right _ hc), h170 c (in2 _ hc)⟩) hd⟩
    · rw [htake, List.map_append]
      refine datAll_snoc (e3.datAllL d1) ?_
      refine dat_off ht (fun a o ha => decide_eq_true ?_) dy hr
      exact ⟨fun e => ha _ (.head _) e.symm, fun e => ha _ (.tail _ (.head _)) e.symm, fun e => ha _ (.tail _ (.tail _ (.head _))) e.symm⟩
  · rintro ys ns ⟨hx1, e1, S1, d1, T1⟩
    have hl : (refs src).toArray.size = src.length := by simp
    rw [hl, List.take_length, List.drop_length, List.append_nil] at S1
    rw [hl, List.take_length] at d1
    exact fin ys ns e1 S1 d1 T1 hx1
end
section
theorem mul_six {w : World} {A : Around} {E : Value → Shared → Prop} {s : Shared} {h₀ : Heap} {L l : Addr} {m : Str → Option Value} {news : Led} {us : List Value} {n k : Nat} {u : Tok} {Q : Value → Shared → Prop} (F : Fr h₀ L s.heap m) (N : News h₀ L s.heap news) (hm : (l, W.listOf us.toArray n) ∈ news) (hv : us.length ≤ 1) (hk : k ≤ 6)
    (h : ∀ D h', Fr h₀ L h' m → News h₀ L h' ((D, W.listOf (repL k us).toArray 0) :: news) → (∀ p ∈ news, p.1 < D) → Q (.ref D) { s with heap := h' }) :
    wpAny (model PR w) A (binaryOp .Mult (.ref l) (.int ((k : Nat) : Int) u)) Q E s := by
  have hl : s.heap.IsList l us.toArray := ⟨_, (N _ hm).1, rfl, n, rfl⟩
  refine KMa.mul F N hl (by omega) (by omega) ?_ (by simp) h
  have : us.length * ((k : Nat) : Int).toNat ≤ 1 * 6 := Nat.mul_le_mul hv (by simpa using hk)
  omega
theorem gone_mem {ow : Key → Bool} {D : List Rw} {now : Int} {k : Key} (h : k ∈ goneKeys ow D now) : (lookRow D k now).isSome = true := by
  unfold goneKeys at h
  obtain ⟨l, hl, rfl⟩ := List.mem_map.mp (List.mem_filter.mp h).1
  have hl := (List.mem_filter.mp hl).1
  unfold rowsAt at hl
  obtain ⟨k, _, hk⟩ := List.mem_filterMap.mp hl
  rw [look_key hk, hk]; rfl
theorem gone_nodup {ow : Key → Bool} {D : List Rw} {now : Int} : (goneKeys ow D now).Nodup := by
  unfold goneKeys
  refine List.Nodup.sublist List.filter_sublist (List.Nodup.sublist (List.Sublist.map _ List.filter_sublist) ?_)
  exact rowsAt_nodup
theorem gone_all {ow : Key → Bool} {D : List Rw} {now : Int} {k : Key} (h : k ∈ goneKeys ow D now) : k ∈ allKeys := by
  unfold goneKeys at h
  obtain ⟨l, hl, rfl⟩ := List.mem_map.mp (List.mem_filter.mp h).1
  have hl := List.mem_map_of_mem (f := Lsa.key) (List.mem_filter.mp hl).1
  rw [rowsAt_keys] at hl
  exact (List.mem_filter.mp hl).1
theorem gone_len {ow : Key → Bool} {D : List Rw} {now : Int} : (goneKeys ow D now).length ≤ 6 := nodup_le gone_nodup fun _ h => gone_all h
/-- the i-th of the keys still stands when those before it are gone -/
theorem gone_at {ow : Key → Bool} {D D' : List Rw} {now late : Int} {i : Nat} {k : Key} (hL : ∀ k, lookRow D' k now = (lookRow D k now).map fun l => l.aged late) (hk : (goneKeys ow D now)[i]? = some k) : (rowAt (dropAll D' ((goneKeys ow D now).take i)) k).isSome = true := by
  rw [look_some (now := now), lookRow_dropAll, if_neg, hL, Option.isSome_map]
  · exact gone_mem (List.mem_of_getElem? hk)
  · intro hm
    have hn := gone_nodup (ow := ow) (D := D) (now := now)
    have hi : i < (goneKeys ow D now).length := (List.getElem?_eq_some_iff.mp hk).1
    have hd := List.drop_eq_getElem_cons hi
    rw [List.getElem?_eq_getElem hi] at hk
    rw [Option.some.inj hk] at hd
    rw [← List.take_append_drop i (goneKeys ow D now), hd] at hn
    exact (List.nodup_append.mp hn).2.2 _ hm _ (.head _) rfl
theorem dropAll_snoc (D : List Rw) (ks : List Key) (k : Key) : dropAll D (ks ++ [k]) = dropRow (dropAll D ks) k := by simp [dropAll]
/-- a comprehension over data, each turn of which turns one database -/
theorem CSrc.over1 {w : World} {A : Around} {s : Shared} {h₀ : Heap} {L ax : Addr} {m : Str → Option Value} {env : Env} {elt : Expr} {x : Str} {scope : Scope} {cl : List (Str × Addr)}
    {news : Led} {k : Nat} {Fin : Shared → List Value → Led → Prop} {vs : List Value} (bx bd : Addr) (src : List Dat) (D : Nat → List Rw) (rd : Dat) (hrd : noList rd = true)
    (hh : A.handled = none) (F : Fr h₀ L s.heap m) (N : News h₀ L s.heap news) (hax : (ax, W.listOf vs.toArray k) ∈ news) (hv : DatAll news vs src) (ho : DbObj news bx bd) (hdb : DbIs w news bd (D 0)) (hsz : src.length ≤ sizeLine)
    (turn : ∀ i dd ns v ys I oI C oC Da m₂ h tk (E' : Value → Shared → Prop), src[i]? = some dd → DatIn ns v dd → Ext [] [bd] news ns → DbObj ns bx bd → DbIs w ns bd (D i) → (bd ≠ I ∧ bd ≠ C ∧ bd ≠ Da) → oI.cls = .type "list_iterator" → LCg.NsObj oC m₂ → m₂ x = some v → Fr h₀ L h m → News h₀ L h ((I, oI) :: (C, oC) :: (Da, lstO ys) :: ns) →
      wpAny (model PR w) A (eval elt (compEnvC scope cl C env)) (MEnd h₀ L m { s with heap := h, toks := tk } ((I, oI) :: (C, oC) :: (Da, lstO ys) :: ns) [bd] (fun all => DbIs w all bd (D (i + 1))) rd) E' { s with heap := h, toks := tk })
    (fin : ∀ ys ns, Ext [] [bd] news ns → DbObj ns bx bd → DbIs w ns bd (D src.length) → DatAll ns ys (List.replicate src.length rd) → Fin s ys ns) :
    CSrc PR w A h₀ L m env [] elt x scope cl Fin (.ref ax) s := by
  have hvl := datAll_len hv
  refine ⟨ax, vs.toArray, k, news, fun i ys ns => (ax, W.listOf vs.toArray k) ∈ ns ∧ Ext [] [bd] news ns ∧ DbObj ns bx bd ∧ DbIs w ns bd (D i) ∧ DatAll ns ys (List.replicate i rd), rfl, hh, F, N, hax, by simpa [hvl] using hsz, ?_, ⟨hax, Ext.sub0 fun p hp => hp, ho, hdb, .nil⟩, ?_, ?_⟩
  · rintro i ys ns ⟨h, _⟩
    exact ⟨k, h⟩
  · rintro i ys ns v I oI C oC Da m₂ h tk E' hvi ⟨hx1, e1, ob, dbb, d1⟩ hI hC hx F' N' off'
    have hv' : vs[i]? = some v := by simpa using hvi
    obtain ⟨dd, hdd, hDv⟩ := datAll_get i (e1.datAllL hv) hv'
    have off3 := off'.mem
    have hbd : bd ≠ I ∧ bd ≠ C ∧ bd ≠ Da := by
      obtain ⟨xs, n, hm, _⟩ := id dbb
      exact off3 _ hm
    refine wpAny_tests_nil ?_
    simp only [if_true]
    refine wpAny_mono (turn i dd ns v ys I oI C oC Da m₂ h tk E' hdd hDv e1 ob dbb hbd hI hC hx F' N') (fun y s' h' => ?_) fun _ _ e => e
    obtain ⟨h2, tk2, all, rfl, F2, N2, e2, dN, dy, hr⟩ := h'
    have kI := e2.kept _ (.head _) (by simp) (by simpa using hbd.1.symm)
    have kC := e2.kept _ (.tail _ (.head _)) (by simp) (by simpa using hbd.2.1.symm)
    have kD := e2.kept _ (.tail _ (.tail _ (.head _))) (by simp) (by simpa using hbd.2.2.symm)
    have ht := off_tup N2 kI kC kD hI hC
    have e3 : Ext [] [bd] ns (all.filter fun p => decide (p.1 ≠ I ∧ p.1 ≠ C ∧ p.1 ≠ Da)) := Ext.off N2 e2 (fun p hp => .tail _ (.tail _ (.tail _ hp))) (fun p hp o => decide_eq_true (off3 p hp)) ht
    refine ⟨h2, tk2, all, rfl, F2, N2, ?_, ?_, ?_, ?_, ?_, ?_⟩
    · intro p hp
      simp only [List.mem_cons, List.not_mem_nil, or_false] at hp
      rcases hp with rfl | rfl | rfl <;> assumption
    · exact e3.lst _ hx1 rfl (by simp)
    · exact Ext.trans e1 e3
    · exact e3.obj _ _ ob
    · exact dN.off (fun o => decide_eq_true hbd) ht
    · rw [List.replicate_succ']
      refine datAll_snoc (e3.datAllL d1) ?_
      exact DatIn.upO ht hrd dy
  · rintro ys ns ⟨hx1, e1, ob, dbb, d1⟩
    have hl : vs.toArray.size = src.length := by simpa using hvl
    rw [hl] at dbb d1
    exact fin ys ns e1 ob dbb d1
end
section
/-- what a deed leaves -/
structure DeedP (w : World) (news : Led) (pa : Addr) (bs : List Base) (last : Base) (late now q : Int) (r : Value) (news' : Led) : Prop where
  res : r = .bool true
  ext : Ext [pa] (dsOf (bs ++ [last]) ++ [170]) news news'
  pool : PoolIs news' pa
  tab : TabIs news'
  next : ∃ (f g : Base → List Rw) (D0 : List Rw), Stand w news' (bs.map (Base.upd f) ++ [Base.upd g last]) ∧ Rel (bs.map (Base.upd f)) (Base.upd g last) D0 late now (q + 1)
theorem DeedP.of {w : World} {news news' : Led} {pa : Addr} {bs : List Base} {last : Base} {late now q : Int} {f g : Base → List Rw} {D0 : List Rw} {h₀ h : Heap} {L : Addr} (T : TabIs news) (N : News h₀ L h news) (hp : ∃ its n, (pa, W.listOf its n) ∈ news) (S : Stand w news (bs ++ [last]))
    (e : Ext [pa] (dsOf (bs ++ [last])) news news') (pl : PoolIs news' pa) (S' : Stand w news' (bs.map (Base.upd f) ++ [Base.upd g last])) (R : Rel (bs.map (Base.upd f)) (Base.upd g last) D0 late now (q + 1)) : DeedP w news pa bs last late now q (.bool true) news' where
  res := rfl
  ext := e.up fun x hx => List.mem_append_left _ hx
  pool := pl
  tab := TabIs.ext (w := w) T N e (fun x hx => by rw [List.mem_singleton.mp hx]; exact hp) fun x hx => by
    obtain ⟨b, hb, rfl⟩ := List.mem_map.mp hx
    exact ⟨_, (S b hb).2⟩
  next := ⟨f, g, D0, S', R⟩
end
section
theorem keys_s (w : World) (news : Led) (x d : Addr) (D : List Rw) (S : List Key) (ho : DbObj news x d) (hdb : DbIs w news d D) (hs : sortKeys D = S) :
   Ctr PR w (hd.heap_39 w.params) 107 2 200 [.ref x] news (PureD news (.list (S.map keyD))) := by
  have := keys_c w news x d D ho hdb
  rw [hs] at this
  exact this
theorem look_s (w : World) (news : Led) (x d : Addr) (kv : Value) (k : Key) (D : List Rw) (l : Lsa) (now : Int) (ts : Tok) (ho : DbObj news x d) (hdb : DbIs w news d D) (hk : DatIn news kv (keyD k)) (hl : lookRow D k now = some l) :
   Ctr PR w (hd.heap_39 w.params) 86 4 200 [.ref x, kv, .int now ts] news (PureD news (lsaD l)) := by
  have := look_c w news x d kv k D now ts ho hdb hk
  rw [hl] at this
  exact this
end
section
theorem dict_nil {w : World} {K' : Type} [DecidableEq K'] {knd' : PySem.KeyKind PR w K'} {o : Obj} (hd : o.IsDictOf knd' []) : ∃ n, o = rowsO w [] n := by
  obtain ⟨es, ep, hc, hdat, _, hp, _⟩ := hd
  have he : es.toList = [] := List.length_eq_zero_iff.mp hp.length
  have he2 : es = #[] := by simpa using he
  obtain ⟨h1, h2, h3⟩ := hc
  refine ⟨ep, ?_⟩
  obtain ⟨c, dd, da, sl⟩ := o
  simp only at h1 h2 h3 hdat
  subst h1 h2 h3 hdat he2
  rfl
theorem db_nil {w : World} {news : Led} {d : Addr} {o : Obj} {K' : Type} [DecidableEq K'] {knd' : PySem.KeyKind PR w K'} (hm : (d, o) ∈ news) (lo : (d == sysModules) = false) (hd : o.IsDictOf knd' []) : DbIs w news d [] := by
  obtain ⟨n, rfl⟩ := dict_nil (w := w) hd
  exact ⟨[], n, hm, .nil, List.nodup_nil, (by intro k h; simp [keysOf] at h), lo⟩
mutual
theorem DatIn.upQ {news news' : Led} (ht : ∀ p ∈ news, (∃ vs n, p.2 = tupO vs n) → p ∈ news') (hl : ∀ p ∈ news, (∃ vs n, p.2 = W.listOf vs n) → p ∈ news') : ∀ {v : Value} {d : Dat}, DatIn news v d → DatIn news' v d
  | _, _, .none => .none
  | _, _, .bool b => .bool b
  | _, _, .int i t => .int i t
  | _, _, .str x t => .str x t
  | _, _, .bytes b t => .bytes b t
  | _, _, .tuple h r => .tuple (ht _ h ⟨_, _, rfl⟩) (DatAll.upQ ht hl r)
  | _, _, .list h r => .list (hl _ h ⟨_, _, rfl⟩) (DatAll.upQ ht hl r)
theorem DatAll.upQ {news news' : Led} (ht : ∀ p ∈ news, (∃ vs n, p.2 = tupO vs n) → p ∈ news') (hl : ∀ p ∈ news, (∃ vs n, p.2 = W.listOf vs n) → p ∈ news') : ∀ {vs : List Value} {ds : List Dat}, DatAll news vs ds → DatAll news' vs ds
  | _, _, .nil => .nil
  | _, _, .cons h r => .cons (DatIn.upQ ht hl h) (DatAll.upQ ht hl r)
end
theorem cell_off {h₀ h : Heap} {L a1 a2 a3 : Addr} {all : Led} {o1 o2 o3 : Obj} {v1 v2 v3 : Option Value} (N : News h₀ L h all) (k3 : (a3, o3) ∈ all) (k2 : (a2, o2) ∈ all) (k1 : (a1, o1) ∈ all) (hd3 : o3.data = .cell v3) (hd2 : o2.data = .cell v2) (hd1 : o1.data = .cell v1) :
    ∀ (b : Addr) (o : Obj), (b, o) ∈ all → (∀ v, o.data ≠ .cell v) → b ≠ a3 ∧ b ≠ a2 ∧ b ≠ a1 := by
  intro b o hb hs
  have g := N.get hb
  have one : ∀ {a' : Addr} {o' : Obj} {v' : Option Value}, (a', o') ∈ all → o'.data = .cell v' → b ≠ a' := by
    rintro a' o' v' ha hc rfl
    have := (N.get ha).symm.trans g
    rw [Option.some.inj this] at hc
    exact hs _ hc
  exact ⟨one k3 hd3, one k2 hd2, one k1 hd1⟩
section
variable (w : World) (base : Led) (pa : Addr) (a1 a2 a3 : Addr) (o1 o2 o3 : Obj) {v1 v2 v3 : Option Value}
/-- drawing beside a menu and three cells -/
theorem drawn_km (many : Int) (tm : Tok) (D : Addr) (us : List Value) (n : Nat) (hd3 : o3.data = .cell v3) (hd2 : o2.data = .cell v2) (hd1 : o1.data = .cell v1) (hu : us.length ≠ 2) (hn : ∀ p ∈ base, p.1 ≠ a3 ∧ p.1 ≠ a2 ∧ p.1 ≠ a1) (hP : PoolIs base pa) (hT : TabIs base) (hm : 1 ≤ many) :
    Ctr PR w (hd.heap_39 w.params) 163 3 300 [.ref pa, .int many tm] ((D, W.listOf us.toArray n) :: (a3, o3) :: (a2, o2) :: (a1, o1) :: base)
      (fun r ns => ∃ rest, ns = (D, W.listOf us.toArray n) :: (a3, o3) :: (a2, o2) :: (a1, o1) :: rest ∧ DrawP base pa many r rest ∧ (∀ p ∈ rest, p.1 ≠ a3 ∧ p.1 ≠ a2 ∧ p.1 ≠ a1) ∧ TabIs rest) := by
  have hsub : ∀ p ∈ base, p ∈ (D, W.listOf us.toArray n) :: (a3, o3) :: (a2, o2) :: (a1, o1) :: base := fun p hp => .tail _ (.tail _ (.tail _ (.tail _ hp)))
  have C := drawn_c w _ pa many tm (PoolIs.sub hsub hP) hm
  unfold Ctr at C ⊢
  intro p loose mean mg mb dp un gd cn cs a ccd cl outer A₀ base' h₀ L m s Q E B F X N T hk hd hu' ret
  refine C p loose mean mg mb dp un gd cn cs a ccd cl outer A₀ base' h₀ L m s Q E B F X N T hk hd hu' ?_
  intro r all h' tk' F' N' ⟨e, pl, res⟩
  obtain ⟨la, vs, ns, c, t, n1, n2, hp1, hp2, hp3⟩ := id hP
  have npa := hn _ hp1
  have kD : (D, W.listOf us.toArray n) ∈ all := by
    refine e.lst _ (.head _) rfl fun e => ?_
    have e' : D = pa := List.mem_singleton.mp e
    subst e'
    have g := (N.get (.head _)).symm.trans (N.get (hsub _ hp1))
    have e2 := congrArg (fun o : Option Obj => match o with | some ⟨_, _, .seq its _, _⟩ => its.size | _ => 0) g
    have : us.length = 2 := by simpa [W.listOf] using e2
    exact hu this
  have k3 := e.kept _ (.tail _ (.head _)) (by simpa using npa.1.symm) (by simp)
  have k2 := e.kept _ (.tail _ (.tail _ (.head _))) (by simpa using npa.2.1.symm) (by simp)
  have k1 := e.kept _ (.tail _ (.tail _ (.tail _ (.head _)))) (by simpa using npa.2.2.symm) (by simp)
  have away := cell_off N' k3 k2 k1 hd3 hd2 hd1
  let q : Addr × Obj → Bool := fun p => decide (p.1 ≠ a3 ∧ p.1 ≠ a2 ∧ p.1 ≠ a1)
  have ht : ∀ p ∈ all, (∃ vs n, p.2 = tupO vs n) → p ∈ all.filter q := by
    rintro ⟨b, o⟩ hp ⟨vs, n, rfl⟩
    exact List.mem_filter.mpr ⟨hp, decide_eq_true (away _ _ hp fun v e => nomatch e)⟩
  have eR : Ext [pa] [] base (all.filter q) := Ext.off N' e hsub (fun p hp o => decide_eq_true (hn p hp)) ht
  have Nb : News h₀ L s.heap base := fun p hp => N p (hsub p hp)
  refine ret r ((D, W.listOf us.toArray n) :: (a3, o3) :: (a2, o2) :: (a1, o1) :: all.filter q) h' tk' F' ?_ ⟨all.filter q, rfl, ⟨eR, ?_, res⟩, fun p hp => of_decide_eq_true (List.mem_filter.mp hp).2,
    TabIs.ext (w := w) hT Nb eR (fun x hx => by rw [List.mem_singleton.mp hx]; exact ⟨_, _, hp1⟩) (fun x hx => nomatch hx)⟩
  · intro p hp
    rcases List.mem_cons.mp hp with rfl | hp
    · exact N' _ kD
    rcases List.mem_cons.mp hp with rfl | hp
    · exact N' _ k3
    rcases List.mem_cons.mp hp with rfl | hp
    · exact N' _ k2
    rcases List.mem_cons.mp hp with rfl | hp
    · exact N' _ k1
    exact N' _ (List.mem_filter.mp hp).1
  · obtain ⟨la, vs, ns, c, t, n1, n2, hp1, hp2, hp3⟩ := pl
    exact ⟨la, vs, ns, c, t, n1, n2, List.mem_filter.mpr ⟨hp1, decide_eq_true (away _ _ hp1 fun v e => nomatch e)⟩, List.mem_filter.mpr ⟨hp2, decide_eq_true (away _ _ hp2 fun v e => nomatch e)⟩, hp3⟩
/-- the rows beside three cells -/
theorem rows_k (x d : Addr) (D : List Rw) (S : List Lsa) (now : Int) (ts : Tok) (hd3 : o3.data = .cell v3) (hd2 : o2.data = .cell v2) (hd1 : o1.data = .cell v1) (hn : ∀ p ∈ base, p.1 ≠ a3 ∧ p.1 ≠ a2 ∧ p.1 ≠ a1) (ho : DbObj base x d) (hdb : DbIs w base d D) (hS : rowsAt D now = S) :
    Ctr PR w (hd.heap_39 w.params) 112 6 400 [.ref x, .int now ts] ((a3, o3) :: (a2, o2) :: (a1, o1) :: base)
      (fun r ns => ∃ rest, ns = (a3, o3) :: (a2, o2) :: (a1, o1) :: rest ∧ Ext [] [] base rest ∧ (∀ p ∈ rest, p.1 ≠ a3 ∧ p.1 ≠ a2 ∧ p.1 ≠ a1) ∧ (∀ p ∈ base, p ∈ rest) ∧ DatIn rest r (.list (S.map lsaD))) := by
  have hsub : ∀ p ∈ base, p ∈ (a3, o3) :: (a2, o2) :: (a1, o1) :: base := fun p hp => .tail _ (.tail _ (.tail _ hp))
  have C := rows_c w _ x d D now ts (dbObj_sub hsub ho) (DbIs.sub hsub hdb)
  rw [hS] at C
  unfold Ctr at C ⊢
  intro p loose mean mg mb dp un gd cn cs a ccd cl outer A₀ base' h₀ L m s Q E B F X N T hk hd hu' ret
  refine C p loose mean mg mb dp un gd cn cs a ccd cl outer A₀ base' h₀ L m s Q E B F X N T hk hd hu' ?_
  intro r all h' tk' F' N' ⟨⟨tl, et⟩, dd⟩
  have up : ∀ p ∈ (a3, o3) :: (a2, o2) :: (a1, o1) :: base, p ∈ all := fun p hp => et ▸ List.mem_append_right _ hp
  have k3 := up _ (.head _)
  have k2 := up _ (.tail _ (.head _))
  have k1 := up _ (.tail _ (.tail _ (.head _)))
  have away := cell_off N' k3 k2 k1 hd3 hd2 hd1
  let q : Addr × Obj → Bool := fun p => decide (p.1 ≠ a3 ∧ p.1 ≠ a2 ∧ p.1 ≠ a1)
  have sb : ∀ p ∈ base, p ∈ all.filter q := fun p hp => List.mem_filter.mpr ⟨up _ (hsub p hp), decide_eq_true (hn p hp)⟩
  refine ret r ((a3, o3) :: (a2, o2) :: (a1, o1) :: all.filter q) h' tk' F' ?_ ⟨all.filter q, rfl, Ext.of_sub sb, fun p hp => of_decide_eq_true (List.mem_filter.mp hp).2, sb, DatIn.upQ ?_ ?_ dd⟩
  · intro p hp
    rcases List.mem_cons.mp hp with rfl | hp
    · exact N' _ k3
    rcases List.mem_cons.mp hp with rfl | hp
    · exact N' _ k2
    rcases List.mem_cons.mp hp with rfl | hp
    · exact N' _ k1
    exact N' _ (List.mem_filter.mp hp).1
  · rintro ⟨b, o⟩ hp ⟨vs, n, rfl⟩
    exact List.mem_filter.mpr ⟨hp, decide_eq_true (away _ _ hp fun v e => nomatch e)⟩
  · rintro ⟨b, o⟩ hp ⟨vs, n, rfl⟩
    exact List.mem_filter.mpr ⟨hp, decide_eq_true (away _ _ hp fun v e => nomatch e)⟩
end
/-- drawing, the table kept -/
theorem drawn_t (w : World) (news : Led) (pa : Addr) (many : Int) (tm : Tok) (hP : PoolIs news pa) (hT : TabIs news) (hm : 1 ≤ many) :
   Ctr PR w (hd.heap_39 w.params) 163 3 300 [.ref pa, .int many tm] news (fun r ns => DrawP news pa many r ns ∧ TabIs ns) := by
  have C := drawn_c w _ pa many tm hP hm
  unfold Ctr at C ⊢
  intro p loose mean mg mb dp un gd cn cs a ccd cl outer A₀ base' h₀ L m s Q E B F X N T hk hd hu' ret
  refine C p loose mean mg mb dp un gd cn cs a ccd cl outer A₀ base' h₀ L m s Q E B F X N T hk hd hu' ?_
  intro r all h' tk' F' N' pd
  obtain ⟨la, vs, ns, c, t, n1, n2, hp1, hp2, hp3⟩ := hP
  exact ret r all h' tk' F' N' ⟨pd, TabIs.ext (w := w) hT N pd.ext (fun x hx => by rw [List.mem_singleton.mp hx]; exact ⟨_, _, hp1⟩) (fun x hx => nomatch hx)⟩
/-- telling, the word given -/
theorem tells_s (w : World) (news : Led) (x d : Addr) (D : List Rw) (TD : Dat) (now : Int) (ts : Tok) (ho : DbObj news x d) (hdb : DbIs w news d D) (hT : tellsD D now = TD) :
   Ctr PR w (hd.heap_39 w.params) 180 14 1500 [.ref x, .int now ts] news (PureD news TD) := hT ▸ tells_c w news x d D now ts ho hdb
theorem okd_tells (D : List Rw) (now : Int) : okD 8 (tellsD D now) = true := by
  have h1 : ∀ (n : Nat) (l : List Key), okD (n + 2) (.list (l.map keyD)) = true := fun n l => okd_map (fun k => okd_key k n) l
  have h2 : ∀ (n : Nat) (l : List Lsa), okD (n + 3) (.list (l.map lsaD)) = true := fun n l => okd_map (fun k => okd_lsa k n) l
  have h3 : ∀ (n : Nat) (l : List Lsa), okD (n + 2) (.list (l.map headD)) = true := fun n l => okd_map (fun k => okd_head k n) l
  have h4 : ∀ (n : Nat) (l : List Lsa), okD (n + 2) (.list (l.map fun l => keyD l.key)) = true := fun n l => okd_map (fun k => okd_key k.key n) l
  have h5 := okd_optI (nextT 1 (nowRows D now)) 7
  unfold tellsD
  show List.all _ (okD 7) = true
  simp only [List.all_cons, List.all_nil, Bool.and_true, Bool.and_eq_true]
  exact ⟨h1 5 _, h2 4 _, h3 5 _, h4 5 _, h4 5 _, h4 5 _, h5⟩
section
variable {w : World} {A : Around} {E : Value → Shared → Prop} {s : Shared} {h₀ : Heap} {L : Addr} {m : Str → Option Value} {env : Env} {ct elt : Expr} {x : Str} {scope : Scope} {cl : List (Str × Addr)}
/-- a comprehension with a test over a range -/
def RSrc (w : World) (A : Around) (h₀ : Heap) (L : Addr) (m : Str → Option Value) (env : Env) (ct elt : Expr) (x : Str) (scope : Scope) (cl : List (Str × Addr)) (Fin : Shared → List Value → List (Addr × Obj) → Prop) (xv : Value) (s₁ : Shared) : Prop :=
  LCt.CompSrcT PR w A h₀ L m env ct elt x scope cl Fin xv s₁
theorem lr_eval {iter : Expr} {px : Pos} {pos : Pos} {Q : Value → Shared → Prop} (F₀ : Fr h₀ L s.heap m)
    (hclos : closureFor scope env = pure cl) (hcell : ∀ y ∈ scope.names, y.2 ≠ .cell) (hkind : scope.kind = .function)
    (hnames : ∀ y ∈ scope.names, y.2 = .local → scope.names.lookup y.1 = some .local) (hx : scope.names.lookup x = some .local)
    (h : wpAny (model PR w) A (eval iter env) (RSrc w A h₀ L m env ct elt x scope cl (fun s₂ => LCg.FinE h₀ L m s₂ Q)) E s)
    (hs : ∀ x, foldedSetIterable iter env x = pure x := by intro _; rfl) :
    wpAny (model PR w) A (eval (.ListComp elt [⟨.Name x px, iter, [ct], 0⟩] scope pos) env) Q E s :=
  LCt.ListComp_T F₀ hclos hcell hkind hnames hx h hs
/-- a test that fails and leaves all as it was -/
def SkipR (h₀ : Heap) (L : Addr) (m : Str → Option Value) (s₁ : Shared) (led : Led) (ok : Bool) (s' : Shared) : Prop :=
  ok = false ∧ ∃ h' tk', s' = { s₁ with heap := h', toks := tk' } ∧ Fr h₀ L h' m ∧ News h₀ L h' led
theorem SkipR.mk {h₀ : Heap} {L : Addr} {m : Str → Option Value} {s₁ : Shared} {led : Led} {h' : Heap} {tk' : Nat} (F : Fr h₀ L h' m) (N : News h₀ L h' led) : SkipR h₀ L m s₁ led false { s₁ with heap := h', toks := tk' } := ⟨rfl, h', tk', rfl, F, N⟩
theorem RSrc.none {Fin : Shared → List Value → List (Addr × Obj) → Prop} {r : Addr} {a b : Int} {t u v : Tok} {n : Nat} {news : Led}
    (hh : A.handled = none) (F : Fr h₀ L s.heap m) (N : News h₀ L s.heap news) (hr : IsRange s.heap r a b 1 t u v) (hsm : Builtin.Range.small a b 1 = true) (hn : Builtin.Range.rangeSize a b 1 = ((n : Nat) : Int)) (hsz : n ≤ sizeLine)
    (turn : ∀ i t I oI C oC Da m₂ h tk (E' : Value → Shared → Prop), i < n → LCg.NsObj oC m₂ → m₂ x = some (.int (a + (i : Int)) t) → Fr h₀ L h m → News h₀ L h ((I, oI) :: (C, oC) :: (Da, lstO []) :: news) →
      wpAny (model PR w) A (isTrue ct (compEnvC scope cl C env) (eval ct (compEnvC scope cl C env))) (SkipR h₀ L m { s with heap := h, toks := tk } ((I, oI) :: (C, oC) :: (Da, lstO []) :: news)) E' { s with heap := h, toks := tk })
    (fin : ∀ g, Fin { s with heap := g } [] news) : RSrc w A h₀ L m env ct elt x scope cl Fin (.ref r) s := by
  refine LCt.CompSrcT.range hh F N hr hsm hn hsz fun g => ?_
  have key : ∀ k i, i + k = n → LCt.CompRestT PR w A h₀ L m env ct elt x scope cl { s with heap := g } (fun _ => True) (fun i v => ∃ t, v = .int (a + (i : Int)) t) (Fin { s with heap := g }) k i [] news := by
    intro k
    induction k with
    | zero => intro i _; exact fin g
    | succ k ih =>
      intro i hi
      refine LCt.CompRestT.succ ?_
      rintro v I oI C oC D m₂ h tk E' ⟨t, rfl⟩ hC hx F' N' off ne
      refine wpAny_mono (turn i t I oI C oC D m₂ h tk E' (by omega) hC hx F' N') (fun ok s' h' => ?_) fun _ _ e => e
      obtain ⟨rfl, h2, tk2, rfl, F2, N2⟩ := h'
      simp only [Bool.false_eq_true, if_false]
      exact ⟨h2, tk2, news, rfl, F2, N2, off, trivial, ih (i + 1) (by omega)⟩
  exact key n 0 (by omega)
end
end
section
/-- a range's iterator: no code object -/
def RIt (o : Obj) : Prop := o.cls = .type "range_iterator" ∧ ∀ vs k t, o.data = .fields vs → vs[1]? ≠ some (.str k t)
theorem loop_ruleP {prog : Program} {w : World} {A : Around} {E : Value → Shared → Prop} {s : Shared} {env : Env} {h₀ : Heap} {x : Str} {body : List Stmt} {Q : Flow → Shared → Prop}
    {I : Addr} {PO : Obj → Prop} {K : Led} {n : Nat} {P : Nat → Value → Prop} {St : Nat → Heap → Prop} {m₀ : Str → Option Value} {news : Led} (J : Nat → (Str → Option Value) → Led → Prop)
    (W : Walks prog w A I (I :: K.map (·.1)) [I] n P St) (hcls : ∀ i h, St i h → ∃ o, h.get? I = some o ∧ PO o) (hK : ∀ i m ns, J i m ns → ∀ p ∈ K, p ∈ ns)
    (hLI : env.locals ≠ I) (hI₀ : h₀.get? I = none) (hnw : ∀ p ∈ news, p.1 ≠ I) (hst : St 0 s.heap) (F : Fr h₀ env.locals s.heap m₀) (N : News h₀ env.locals s.heap news) (hj : J 0 m₀ news)
    (turn : ∀ i v m₁ ns h tk oI, i < n → P i v → J i m₁ ns → (∀ p ∈ ns, p.1 ≠ I) → PO oI → Fr h₀ env.locals h (fun y => if y = x then some v else m₁ y) → News h₀ env.locals h ((I, oI) :: ns) →
      wpAny (model prog w) A (execs body env) (FEnd h₀ env.locals (J (i + 1)) I oI { s with heap := h, toks := tk } Q) E { s with heap := h, toks := tk })
    (done : ∀ m₁ ns h tk, J n m₁ ns → Fr h₀ env.locals h m₁ → News h₀ env.locals h ns → Q .next { s with heap := h, toks := tk }) :
    LoopAtV prog w A h₀ env x body Q E (.ref I) s := by
  refine ⟨I, I :: K.map (·.1), [I], n, P, St, m₀, news, J, rfl, W, ?_, ?_, ?_, hst, F, N, hj, ?_, ?_⟩
  · intro hm
    rcases List.mem_cons.mp hm with e | hm
    · exact hLI e
    · obtain ⟨q, hq, e⟩ := List.mem_map.mp hm
      exact (N _ (hK _ _ _ hj q hq)).2.1 e
  · intro b hb
    rw [List.mem_singleton.mp hb]; exact hI₀
  · intro p hp hm
    exact hnw p hp (List.mem_singleton.mp hm)
  · rintro i v m₁ ns s₁ own ⟨hh', tk', rfl⟩ hin hP hJ hoff hown hget hall hst' F₁ N₁
    obtain ⟨oI, heI, hcI⟩ := hcls _ _ hst'
    have hoff' : ∀ p ∈ ns, p.1 ≠ I := fun p hp e => hoff p hp (List.mem_singleton.mpr e)
    have hIown : (I, oI) ∈ own := hall I (.head _) hI₀ oI heI
    have N₂ : News h₀ env.locals hh' ((I, oI) :: ns) := fun p hp => (List.mem_cons.mp hp).elim (fun e => N₁ p (List.mem_append_left _ (e ▸ hIown))) fun h => N₁ p (List.mem_append_right _ h)
    refine wpAny_mono (turn i v m₁ ns hh' tk' oI hin hP hJ hoff' hcI F₁ N₂) (fun f s₂ p => ?_) fun _ _ e => e
    have fin : (∃ h' tk m' all, s₂ = { s with heap := h', toks := tk } ∧ Fr h₀ env.locals h' m' ∧ News h₀ env.locals h' all ∧ (I, oI) ∈ all ∧ J (i + 1) m' (all.filter fun p => decide (p.1 ≠ I))) →
        LoopStepU h₀ env.locals [I] own (J (i + 1)) { s with heap := hh', toks := tk' } .next s₂ := by
      rintro ⟨h', tk, m', all, e, F', N', hI, hJ'⟩
      refine ⟨rfl, h', tk, m', _, e, F', fun p hp => ?_, fun p hp hq => ?_, hJ'⟩
      · rcases List.mem_append.mp hp with h | h
        · have hg := hget p h
          rcases List.mem_cons.mp (hown p h) with h1 | h1
          · rw [h1] at hg
            have h3 : p = (I, oI) := Prod.ext h1 (Option.some.inj (hg.symm.trans heI))
            rw [h3]; exact N' _ hI
          · obtain ⟨q, hq, e1⟩ := List.mem_map.mp h1
            have hqn := (N₂ q (.tail _ (hK _ _ _ hJ q hq))).1
            rw [← e1] at hg
            have h3 : p = q := Prod.ext e1.symm (Option.some.inj (hg.symm.trans hqn))
            rw [h3]; exact N' _ (List.mem_filter.mp (hK _ _ _ hJ' q hq)).1
        · exact N' p (List.mem_filter.mp h).1
      · have := (List.mem_filter.mp hp).2
        exact (of_decide_eq_true this) (List.mem_singleton.mp hq)
    cases f with
    | ret v => exact .ret p
    | brk => exact .brk p
    | next => exact .next (fin p)
    | cont => exact .cont (fin p)
  · rintro h' tk m' ns F' N' _ hJ
    exact done m' ns h' tk hJ F' N'
/-- for over a range -/
theorem loop_rangeP {prog : Program} {w : World} {A : Around} {E : Value → Shared → Prop} {s : Shared} {env : Env} {h₀ : Heap} {x : Str} {body : List Stmt} {Q : Flow → Shared → Prop}
    {r : Addr} {a₀ b₀ : Int} {t₀ u₀ v₀ : Tok} {n : Nat} {m₀ : Str → Option Value} {news : Led} (J : Nat → (Str → Option Value) → Led → Prop)
    (hh : A.handled = none) (hr : IsRange s.heap r a₀ b₀ 1 t₀ u₀ v₀) (hsmall : Builtin.Range.small a₀ b₀ 1 = true) (hsz : Builtin.Range.rangeSize a₀ b₀ 1 = (n : Int)) (F : Fr h₀ env.locals s.heap m₀) (N : News h₀ env.locals s.heap news) (hj : J 0 m₀ news)
    (turn : ∀ i t m₁ ns h tk I oI, i < n → J i m₁ ns → (∀ p ∈ ns, p.1 ≠ I) → RIt oI → Fr h₀ env.locals h (fun y => if y = x then some (.int (a₀ + (i : Int)) t) else m₁ y) → News h₀ env.locals h ((I, oI) :: ns) →
      wpAny (model prog w) A (execs body env) (FEnd h₀ env.locals (J (i + 1)) I oI { s with heap := h, toks := tk } Q) E { s with heap := h, toks := tk })
    (done : ∀ m₁ ns h tk, J n m₁ ns → Fr h₀ env.locals h m₁ → News h₀ env.locals h ns → Q .next { s with heap := h, toks := tk }) :
    wpAny (model prog w) A (pyIter (.ref r)) (fun it s₂ => LoopAtV prog w A h₀ env x body Q E it s₂) E s := by
  refine wpAny_pyIter_range hr hsmall ?_
  have W : Walks prog w A s.heap.objs.size [s.heap.objs.size] [s.heap.objs.size] n (fun i v => i < n ∧ ∃ t, v = .int (a₀ + i * 1) t)
      (fun i h => IsRangeIter h s.heap.objs.size (a₀ + (i : Nat) * 1) ((n : Int) - (i : Nat)) 1) := (Walks.range hh _ a₀ 1 n).bound
  refine loop_ruleP (K := []) (PO := RIt) J W (fun i h st => ⟨_, st, rfl, fun vs k t e => by cases e; simp [rawInt]⟩) (fun i m ns hJ p hp => nomatch hp) (Nat.ne_of_lt F.ns.lt) (next_is_new F) (fun p hp => Nat.ne_of_lt (Heap.lt_size (N p hp).1))
    (by show IsRangeIter _ _ _ _ _; rw [hsz]; simpa using Heap.get?_push_size _ rfl) (F.push _) (fun p hp => ⟨Heap.get?_push_of_some _ (N p hp).1, (N p hp).2⟩) hj ?_ (fun m₁ ns h tk hJ F' N' => done m₁ ns h tk hJ F' N')
  rintro i v m₁ ns h tk oI hi ⟨_, t, rfl⟩ hJ hoff hc F₁ N₁
  have e1 : a₀ + (i : Int) * 1 = a₀ + (i : Int) := by omega
  rw [e1] at F₁
  exact turn i t m₁ ns h tk _ oI hi hJ hoff hc F₁ N₁
end
section
theorem tNe : Value.type "tuple" ≠ Value.type "range_iterator" := by decide
theorem lNe : Value.type "list" ≠ Value.type "range_iterator" := by decide
theorem dNe : Value.type "dict" ≠ Value.type "range_iterator" := by decide
theorem cell_ne {news : Led} {h₀ h : Heap} {L pa b : Addr} {o : Obj} {v : Option Value} (N : News h₀ L h news) (hP : PoolIs news pa) (hb : (b, o) ∈ news) (hd : o.data = .cell v) : b ≠ pa := by
  rintro rfl
  obtain ⟨la, vs, ns, c, t, n, n2, hp, _⟩ := hP
  have := (N.get hb).symm.trans (N.get hp)
  rw [Option.some.inj this] at hd
  exact nomatch hd
/-- what stands between two turns of the law -/
def LawJ (w : World) (pa c3 c2 c1 : Addr) (late wh : Int) (i : Nat) (c : Addr × Int × Tok) (ns : Led) : Prop :=
  ∃ (R : Led) (o3 o2 o1 : Obj) (v3 v2 v1 : Option Value) (init : List Base) (first last : Base) (n : Nat),
    (c3, o3) ∈ ns ∧ (c2, o2) ∈ ns ∧ (c1, o1) ∈ ns ∧ o3.data = .cell v3 ∧ o2.data = .cell v2 ∧ o1.data = .cell v1 ∧ (∀ p ∈ R, p ∈ ns) ∧ (∀ p ∈ R, p.1 ≠ c3 ∧ p.1 ≠ c2 ∧ p.1 ≠ c1) ∧
    (c.1, W.listOf (allR (first :: init) last).toArray n) ∈ R ∧ c.1 ≠ pa ∧ PoolIs R pa ∧ TabIs R ∧ Stand w R (first :: init ++ [last]) ∧ Apart (first :: init ++ [last]) ∧ Rel (first :: init) last first.D late c.2.1 (7 + (i : Int)) ∧
    ((init = [] ∧ (i : Int) ≤ wh) ∨ ∃ b, init = [b] ∧ wh < (i : Int))
theorem stand_keep {w : World} {all R : Led} (k : ∀ b o, (b, o) ∈ all → (∀ v, o.data ≠ .cell v) → o.cls ≠ .type "range_iterator" → (b, o) ∈ R) {bs : List Base} (h : Stand w all bs) : Stand w R bs := by
  have dt : ∀ v D, DatIn all v D → DatIn R v D := fun v D hd => DatIn.upQ (fun p hp ⟨vs, n, e⟩ => by
      obtain ⟨b, o⟩ := p
      cases e
      exact k _ _ hp (fun v e => nomatch e) tNe) (fun p hp ⟨vs, n, e⟩ => by
      obtain ⟨b, o⟩ := p
      cases e
      exact k _ _ hp (fun v e => nomatch e) lNe) hd
  intro b hb
  obtain ⟨⟨dx, hs, t, n, m1, m2⟩, xs, n2, m3, hx, r⟩ := h b hb
  exact ⟨⟨dx, hs, t, n, k _ _ m1 (fun v e => nomatch e) (fun e => nomatch e), k _ _ m2 (fun v e => nomatch e) dNe⟩, xs, n2, k _ _ m3 (fun v e => nomatch e) dNe, hx.mono dt, r⟩
theorem LawJ.mk {w : World} {pa c3 c2 c1 la : Addr} {late wh now : Int} {i n : Nat} {t : Tok} {ns all : Led} {h₀ h : Heap} {L : Addr} {o3 o2 o1 : Obj} {v3 v2 v1 : Option Value} {init : List Base} {first last : Base} (N : News h₀ L h all)
    (hns : ∀ b o, (b, o) ∈ all → (o.cls ≠ .type "range_iterator" ∨ ∃ vs k t, o.data = .fields vs ∧ vs[1]? = some (.str k t)) → (b, o) ∈ ns) (hsub : ∀ p ∈ ns, p ∈ all) (k3 : (c3, o3) ∈ ns) (k2 : (c2, o2) ∈ ns) (k1 : (c1, o1) ∈ ns) (hd3 : o3.data = .cell v3) (hd2 : o2.data = .cell v2) (hd1 : o1.data = .cell v1)
    (hla : (la, W.listOf (allR (first :: init) last).toArray n) ∈ all) (hlp : la ≠ pa) (hP : PoolIs all pa) (hT : TabIs all) (hS : Stand w all (first :: init ++ [last])) (hA : Apart (first :: init ++ [last])) (hR : Rel (first :: init) last first.D late now (7 + (i : Int)))
    (hi : (init = [] ∧ (i : Int) ≤ wh) ∨ ∃ b, init = [b] ∧ wh < (i : Int)) : LawJ w pa c3 c2 c1 late wh i (la, now, t) ns := by
  have away := cell_off N (hsub _ k3) (hsub _ k2) (hsub _ k1) hd3 hd2 hd1
  have k : ∀ b o, (b, o) ∈ all → (∀ v, o.data ≠ .cell v) → (o.cls ≠ .type "range_iterator" ∨ ∃ vs k t, o.data = .fields vs ∧ vs[1]? = some (.str k t)) → (b, o) ∈ ns.filter fun p => decide (p.1 ≠ c3 ∧ p.1 ≠ c2 ∧ p.1 ≠ c1) := fun b o hm hv hc =>
    List.mem_filter.mpr ⟨hns b o hm hc, decide_eq_true (away b o hm hv)⟩
  refine ⟨ns.filter fun p => decide (p.1 ≠ c3 ∧ p.1 ≠ c2 ∧ p.1 ≠ c1), o3, o2, o1, v3, v2, v1, init, first, last, n, k3, k2, k1, hd3, hd2, hd1, fun p hp => (List.mem_filter.mp hp).1, fun p hp => of_decide_eq_true (List.mem_filter.mp hp).2,
    k _ _ hla (fun v e => nomatch e) (.inl lNe), hlp, ?_, ?_, stand_keep (fun b o hm hv hc => k b o hm hv (.inl hc)) hS, hA, hR, hi⟩
  · obtain ⟨la, vs, ns, c, t, n1, n2, hp1, hp2, hp3⟩ := hP
    exact ⟨la, vs, ns, c, t, n1, n2, k _ _ hp1 (fun v e => nomatch e) (.inl lNe), k _ _ hp2 (fun v e => nomatch e) (.inl lNe), hp3⟩
  · rcases hT with h | ⟨c', oc, vs, t, h, hk, hf, hv⟩
    · exact .inl (k _ _ h (fun v e => nomatch e) (.inl fun e => nomatch e))
    · exact .inr ⟨c', oc, vs, t, k _ _ h (fun v e => nomatch e) (.inl fun e => nomatch e), k _ _ hk (fun v e => by rw [hf] at e; exact nomatch e) (.inr ⟨vs, _, _, hf, hv⟩), hf, hv⟩
theorem iter_off {h₀ h : Heap} {L I : Addr} {all : Led} {oI : Obj} (N : News h₀ L h all) (kI : (I, oI) ∈ all) (hI : RIt oI) :
    ∀ b o, (b, o) ∈ all → (o.cls ≠ .type "range_iterator" ∨ ∃ vs k t, o.data = .fields vs ∧ vs[1]? = some (.str k t)) → (b, o) ∈ all.filter fun p => decide (p.1 ≠ I) := by
  intro b o hm hc
  refine List.mem_filter.mpr ⟨hm, decide_eq_true ?_⟩
  show b ≠ I
  rintro rfl
  have e := Option.some.inj ((N.get hm).symm.trans (N.get kI))
  subst e
  rcases hc with hc | ⟨vs, k, t, hf, hv⟩
  · exact hc hI.1
  · exact hI.2 vs k t hf hv
section
variable {rest : Led} {B : Addr} {o1 o2 o3 : Obj}
end
/-- the rows beside one more and three cells: the one goes -/
theorem rows_km (w : World) (base : Led) (a1 a2 a3 : Addr) (o1 o2 o3 : Obj) {v1 v2 v3 : Option Value} (e : Addr × Obj) (x d : Addr) (D : List Rw) (S : List Lsa) (now : Int) (ts : Tok) (hd3 : o3.data = .cell v3) (hd2 : o2.data = .cell v2) (hd1 : o1.data = .cell v1) (hn : ∀ p ∈ base, p.1 ≠ a3 ∧ p.1 ≠ a2 ∧ p.1 ≠ a1) (ho : DbObj base x d) (hdb : DbIs w base d D) (hS : rowsAt D now = S) :
    Ctr PR w (hd.heap_39 w.params) 112 6 400 [.ref x, .int now ts] (e :: (a3, o3) :: (a2, o2) :: (a1, o1) :: base)
      (fun r ns => ∃ rest, ns = (a3, o3) :: (a2, o2) :: (a1, o1) :: rest ∧ Ext [] [] base rest ∧ (∀ p ∈ rest, p.1 ≠ a3 ∧ p.1 ≠ a2 ∧ p.1 ≠ a1) ∧ (∀ p ∈ base, p ∈ rest) ∧ DatIn rest r (.list (S.map lsaD))) := by
  have C := rows_k w base a1 a2 a3 o1 o2 o3 x d D S now ts hd3 hd2 hd1 hn ho hdb hS
  unfold Ctr at C ⊢
  intro p loose mean mg mb dp un gd cn cs a ccd cl outer A₀ base' h₀ L m s Q E B F X N T hk hd hu' ret
  exact C p loose mean mg mb dp un gd cn cs a ccd cl outer A₀ base' h₀ L m s Q E B F X (fun p hp => N p (.tail _ hp)) T hk hd hu' ret
end
section
theorem small_rng {b : Int} (h0 : 0 ≤ b) (h1 : b ≤ 1000) : Builtin.Range.small 0 b 1 = true := by
  unfold Builtin.Range.small
  rw [rangeSize_nat]
  unfold Builtin.Range.rangeFitsLong
  have e : ((b - 0).toNat : Int) = b := by omega
  rw [e]
  have h2 : b + (1 - 1) = b := by omega
  simp only [show (1 : Int) > 0 by decide, if_true, h2, Bool.and_eq_true, Bool.or_eq_true, decide_eq_true_eq]
  refine ⟨⟨⟨⟨?_, ?_⟩, ?_⟩, ?_⟩, .inr ?_⟩ <;> constructor <;> omega
theorem datAll_at {ns : Led} {vs : List Value} {ds : List Dat} {i : Nat} {d : Dat} (h : DatAll ns vs ds) (hd : ds[i]? = some d) : ∃ v, vs[i]? = some v ∧ DatIn ns v d := by
  have hi : i < vs.length := by rw [datAll_len h]; exact (List.getElem?_eq_some_iff.mp hd).1
  obtain ⟨d', h1, h2⟩ := datAll_get i h (List.getElem?_eq_getElem hi)
  rw [hd] at h1
  cases h1
  exact ⟨_, List.getElem?_eq_getElem hi, h2⟩
theorem rowsAt_le {D : List Rw} {now : Int} {l : Lsa} (h : l ∈ rowsAt D now) : l.age ≤ 3600 := by
  unfold rowsAt at h
  obtain ⟨k, _, hk⟩ := List.mem_filterMap.mp h
  exact look_le hk
end
section
theorem it_ne {h₀ h : Heap} {L I b : Addr} {all : Led} {oI o : Obj} (N : News h₀ L h all) (kI : (I, oI) ∈ all) (hI : RIt oI) (hm : (b, o) ∈ all) (hc : o.cls ≠ .type "range_iterator") : b ≠ I := by
  rintro rfl
  have e := Option.some.inj ((N.get hm).symm.trans (N.get kI))
  subst e
  exact hc hI.1
theorem deed_pre {w : World} {h₀ h : Heap} {L I c3 c2 c1 : Addr} {all : Led} {oI o3 o2 o1 : Obj} {v3 v2 v1 : Option Value} {bs : List Base} (N : News h₀ L h all) (S : Stand w all bs) (T : TabIs all) (kI : (I, oI) ∈ all) (hI : RIt oI) (k3 : (c3, o3) ∈ all) (k2 : (c2, o2) ∈ all) (k1 : (c1, o1) ∈ all)
    (d3 : o3.data = .cell v3) (d2 : o2.data = .cell v2) (d1 : o1.data = .cell v1) : c3 ∉ dsOf bs ++ [170] ∧ c2 ∉ dsOf bs ++ [170] ∧ c1 ∉ dsOf bs ++ [170] ∧ I ∉ dsOf bs ++ [170] := by
  have aw := cell_off N k3 k2 k1 d3 d2 d1
  have hb : ∀ b ∈ bs, b.d ≠ c3 ∧ b.d ≠ c2 ∧ b.d ≠ c1 ∧ b.d ≠ I := fun b hb => by
    obtain ⟨xs, m, hm, _⟩ := (S b hb).2
    have a := aw _ _ hm fun v e => nomatch e
    exact ⟨a.1, a.2.1, a.2.2, it_ne N kI hI hm dNe⟩
  obtain ⟨ps, hT⟩ := T.obj
  have a := aw _ _ hT fun v e => nomatch e
  have aI := it_ne N kI hI hT fun e => nomatch e
  have go : ∀ c, (∀ b ∈ bs, b.d ≠ c) → (170 : Addr) ≠ c → c ∉ dsOf bs ++ [170] := fun c h1 h2 hm => by
    rcases List.mem_append.mp hm with hm | hm
    · obtain ⟨b, hb, e⟩ := List.mem_map.mp hm
      exact h1 b hb e
    · exact h2 (List.mem_singleton.mp hm).symm
  exact ⟨go _ (fun b h => (hb b h).1) a.1, go _ (fun b h => (hb b h).2.1) a.2.1, go _ (fun b h => (hb b h).2.2.1) a.2.2, go _ (fun b h => (hb b h).2.2.2) aI⟩
theorem neg2 (first : Base) (init : List Base) (last : Base) : ∃ b ∈ first :: init, (Value.ref first.x :: allR init last)[((-2 : Int) + ((Value.ref first.x :: allR init last).length : Int)).toNat]? = some (.ref b.x) := by
  have hne : (first :: init) ≠ [] := fun e => nomatch e
  refine ⟨(first :: init).getLast hne, List.getLast_mem hne, ?_⟩
  have el : (Value.ref first.x :: allR init last) = refs (first :: init) ++ [Value.ref last.x] := rfl
  rw [el]
  have e : ((-2 : Int) + ((refs (first :: init) ++ [Value.ref last.x]).length : Int)).toNat = init.length := by
    rw [List.length_append, refs_len, List.length_cons, List.length_singleton]; omega
  rw [e, List.getElem?_append_left (by rw [refs_len, List.length_cons]; omega), List.getElem?_map]
  have : (first :: init)[init.length]? = some ((first :: init).getLast hne) := by
    rw [List.getLast_eq_getElem, ← List.getElem?_eq_getElem]; rfl
  rw [this]; rfl
theorem neg2_le (first : Base) (init : List Base) (last : Base) : -(((Value.ref first.x :: allR init last).length : Int)) ≤ -2 := by
  have el : (Value.ref first.x :: allR init last) = refs (first :: init) ++ [Value.ref last.x] := rfl
  rw [el, List.length_append, refs_len, List.length_cons, List.length_singleton]; omega
theorem refs_up (f g : Base → List Rw) (bs : List Base) (last : Base) : allR (bs.map (Base.upd f)) (Base.upd g last) = allR bs last := by
  show refs (bs.map (Base.upd f)) ++ [Value.ref last.x] = refs bs ++ [Value.ref last.x]
  congr 1
  show (bs.map (Base.upd f)).map (fun b => Value.ref b.x) = bs.map fun b => Value.ref b.x
  rw [List.map_map]; rfl
theorem apart_upd {f g : Base → List Rw} {bs : List Base} {last : Base} (h : Apart (bs ++ [last])) : Apart (bs.map (Base.upd f) ++ [Base.upd g last]) := by
  unfold Apart at *
  rw [List.map_append, List.map_map] at *
  exact h
theorem db_nodup {w : World} {ns : Led} {d : Addr} {D : List Rw} (h : DbIs w ns d D) : (keysOf D).Nodup := by obtain ⟨_, _, _, _, r, _⟩ := h; exact r
theorem db_all {w : World} {ns : Led} {d : Addr} {D : List Rw} (h : DbIs w ns d D) : ∀ k ∈ keysOf D, k ∈ allKeys := by obtain ⟨_, _, _, _, _, r, _⟩ := h; exact r
end
section
/-- the new database, made beside the old ones -/
theorem allLt_mem {d : Nat} : ∀ {l : Led}, AllLt d l → ∀ p ∈ l, @LT.lt Nat _ p.1 d
  | [], _, p, h => nomatch h
  | _ :: _, a, p, h => by
    rcases List.mem_cons.mp h with rfl | h
    · exact a.1
    · exact allLt_mem a.2 p h
end
section
/-- the end of one `if` on whose both sides the same is known -/
def IEnd (h₀ : Heap) (L : Addr) (J : (Str → Option Value) → Led → Prop) (s₁ : Shared) (Q : Flow → Shared → Prop) (f : Flow) (s₂ : Shared) : Prop :=
  match f with
  | .next => ∃ h' tk m' all, s₂ = { s₁ with heap := h', toks := tk } ∧ Fr h₀ L h' m' ∧ News h₀ L h' all ∧ J m' all
  | f => Q f s₂
theorem IEnd.mk {σ : Type} {x : Str} {stored : List Str} {m₀ m' : Str → Option Value} {ps : σ → List (Str × Value)} {J' : Nat → σ → Led → Prop} {i : Nat} {h₀ h' : Heap} {L : Addr} {s₁ : Shared} {Q : Flow → Shared → Prop} {tk : Nat} {all : Led}
    (F : Fr h₀ L h' m') (N : News h₀ L h' all) (c : σ) (hj : J' i c all) (hps : ∀ p ∈ ps c, m' p.1 = some p.2) (hz : ∀ z, z ≠ x → (∀ p ∈ ps c, z ≠ p.1) → stored.contains z = false → m' z = m₀ z) :
    IEnd h₀ L (JJ x stored m₀ ps J' i) s₁ Q .next { s₁ with heap := h', toks := tk } := ⟨h', tk, m', all, rfl, F, N, c, hj, hps, hz⟩
inductive MarkI : Prop where
  | mk
theorem SkipR.of {h₀ : Heap} {L : Addr} {m : Str → Option Value} {s₁ : Shared} {led : Led} {h' : Heap} {tk' : Nat} {ok : Bool} (e : ok = false) (F : Fr h₀ L h' m) (N : News h₀ L h' led) : SkipR h₀ L m s₁ led ok { s₁ with heap := h', toks := tk' } := ⟨e, h', tk', rfl, F, N⟩
inductive MarkN : Prop where
  | mk
end
section
example : True := by
  k_with_none
  k_with "my enter" => first | (k_dflt (first | (refine' code_def ?k1q0 ?k2q0 ?k3q0 ?k4q0 ?k5q0 ?kAq0 ?kFq0 ?kKq0 ?k6q0 ?k7q0 ?k8q0 ?k9q0 ?kBq0 ?_ ?c2q0 ?c3q0 ?c4q0 ?c5q0; (case kAq0 => exact rfl); (case kFq0 => exact rfl); (case kKq0 => assumption); (case k1q0 => k_asm); (case k2q0 => k_asm); (case k3q0 => k_asm); (case k4q0 => k_asm); (case k5q0 => k_asm); (case k6q0 => k_is); (case k7q0 => k_is); (case k8q0 => ktr_room); (case k9q0 => first | exact BindsTo.of_eq rfl | exact binds_K (by k_in) rfl (by k_is) rfl rfl rfl); (case c5q0 => decide); (case kBq0 => exact locs rfl); (case c2q0 => exact rfl); (case c3q0 => exact rfl); (case c4q0 => exact rfl); k_whole; intro g' L' h' FG' F' N' B' X' T'; (try dsimp only); (try k_lift B'); (try k_fold)) | (refine' code_defC ?k1q0 ?k2q0 ?k3q0 ?k4q0 ?k5q0 ?kAq0 ?kFq0 ?kKq0 ?k6q0 ?k7q0 ?k8q0 ?k9q0 ?kBq0 ?kDq0 ?_ ?c2q0 ?c3q0 ?c4q0; (case kAq0 => exact rfl); (case kFq0 => exact rfl); (case kKq0 => assumption); (case k1q0 => k_asm); (case k2q0 => k_asm); (case k3q0 => k_asm); (case k4q0 => k_asm); (case k5q0 => k_asm); (case k6q0 => k_is); (case k7q0 => k_is); (case k8q0 => ktr_room); (case k9q0 => first | exact BindsTo.of_eq rfl | exact binds_K (by k_in) rfl (by k_is) rfl rfl rfl); (case kBq0 => exact rfl); (case kDq0 => decide +kernel); (case c2q0 => exact rfl); (case c3q0 => exact rfl); (case c4q0 => exact rfl); k_whole; intro g' L' h' tk' cells' FG' F' N' Y' B' X' T' l1; (try k_lt l1); k_cells Y'; (try simp only [List.cons_append, List.nil_append] at N'); (try dsimp only); (try k_lift B'); (try k_fold)))) | fail "no"
  k_with "mem" => first | (first | with_reducible assumption | exact List.Mem.head _ | ((with_reducible refine List.mem_cons_of_mem _ ?_); k_extra "mem") | ((with_reducible refine List.mem_append_right _ ?_); k_extra "mem") | k_extra "memx") | fail "no"
  k_with "sub" => first | (first | with_reducible exact fun _ h => h | ((with_reducible refine fun p h => List.mem_cons_of_mem _ ?_); revert p h; k_extra "sub") | ((with_reducible refine fun p h => List.mem_append_right _ ?_); revert p h; k_extra "sub") | with_reducible assumption) | fail "no"
  k_with "suf" => first | (first | with_reducible exact List.suffix_refl _ | ((with_reducible refine List.IsSuffix.trans ?_ (List.suffix_cons _ _)); k_extra "suf") | ((with_reducible refine List.IsSuffix.trans ?_ (List.suffix_append _ _)); k_extra "suf")) | fail "no"
  k_with "inteq" => first | (first | rfl | omega | (split <;> omega) | ((simp only [Lsa.aged]); (first | rfl | omega | (split <;> omega)))) | fail "no"
  k_with "dat" => first | (first | exact DatIn.none | exact DatIn.bool _ | with_reducible assumption | (refine dat_int ?_; k_extra "inteq") | exact DatIn.str _ _ | (refine' DatIn.mono ?hsq5 ?hdq5; (case hdq5 => with_reducible assumption); (case hsq5 => k_extra "sub")) | (refine' DatIn.tuple ?hmq5 ?hdq5; (case hmq5 => k_extra "mem"); (case hdq5 => k_extra "datall")) | (refine' DatIn.list ?hmq5 ?hdq5; (case hmq5 => k_extra "mem"); (case hdq5 => k_extra "datall")) | (refine' DatIn.mono ?hsq5 ?hdq5; (case hdq5 => assumption); (case hsq5 => k_extra "sub"))) | fail "no"
  k_with "datall" => first | (first | exact DatAll.nil | (refine' DatAll.cons ?_ ?_; (next => k_extra "dat"); (next => k_extra "datall")) | (refine' datAll_mono ?hsq6 ?hdq6; (case hdq6 => with_reducible assumption); (case hsq6 => k_extra "sub")) | k_extra "datallx") | fail "no"
  k_with "room" => first | (((try simp only [depth_under_make, depth_under_kw, depth_in1, depth_deeper, depth_caller]); (try dsimp only); first | omega | ktr_room)) | fail "no"
  k_with "units" => first | (((try simp only [units_in1, units_deeper, Around.mark_units, units_caller]); (try dsimp only); first | omega | ktr_units)) | fail "no"
  k_with "memx" => first | ((refine' Ext.tup ?eq9 _ ?hq9 ?cq9); (case cq9 => with_reducible exact rfl); (case eq9 => with_reducible assumption); (case hq9 => k_extra "mem")) | ((refine' Ext.lst ?eq9 _ ?hq9 ?cq9 ?nq9); (case cq9 => with_reducible exact rfl); (case eq9 => with_reducible assumption); (case nq9 => k_extra "notin"); (case hq9 => k_extra "mem")) | ((refine' Ext.inst ?eq9 _ ?hq9 ?cq9); (case cq9 => with_reducible exact rfl); (case eq9 => with_reducible assumption); (case hq9 => k_extra "mem")) | ((refine' Ext.kept ?eq9 _ ?hq9 ?n1q9 ?n2q9); (case eq9 => with_reducible assumption); (case n1q9 => k_extra "notin"); (case n2q9 => k_extra "notin"); (case hq9 => k_extra "mem")) | fail "no"
  k_with "notin" => first | exact List.not_mem_nil | ((with_reducible refine fun ee => ?_); (with_reducible refine absurd (List.mem_singleton.mp ee) ?_); with_reducible assumption) | (simp; done) | (simp; assumption) | fail "no"
  k_with "pool" => first | with_reducible assumption | ((with_reducible refine' PoolIs.sub (fun p hp => List.mem_cons_of_mem _ hp) ?peq11); (case peq11 => k_extra "pool")) | ((with_reducible refine' PoolIs.sub (fun p hp => List.mem_append_right _ hp) ?peq11); (case peq11 => k_extra "pool")) | fail "no"
  k_with "stand" => first | with_reducible assumption | ((with_reducible refine' Stand.sub ?peq12 (fun p hp => List.mem_cons_of_mem _ hp)); (case peq12 => k_extra "stand")) | ((with_reducible refine' Stand.sub ?peq12 (fun p hp => List.mem_append_right _ hp)); (case peq12 => k_extra "stand")) | ((refine' Stand.ext ?hq12 ?eq12 (fun _ _ => List.not_mem_nil)); (case eq12 => with_reducible assumption); (case hq12 => k_extra "stand")) | fail "no"
  k_with "subscriptTail Name Slice ref ref" => first | ((k_here; k_dflt (refine' tup_from1 ?Fq13 ?Nq13 ?lq13 ?_ ?sq13 ?tq13 ?zq13; (case Fq13 => k_asm); (case Nq13 => k_asm); (case lq13 => k_extra "mem"); (case sq13 => with_unfolding_all rfl); (case tq13 => (intro _; with_unfolding_all rfl)); (case zq13 => exact Nat.le_of_ble_eq_true rfl)); intro D' h' F' N' l1; (try k_sweep))) | fail "no"
  k_with "binaryOp Add ref ref" => first | ((k_here; k_dflt (refine' tup_add ?Fq14 ?Nq14 ?lq14 ?rq14 ?_ ?zq14; (case Fq14 => k_asm); (case Nq14 => k_asm); (case lq14 => k_extra "mem"); (case rq14 => k_extra "mem"); (case zq14 => exact Nat.le_of_ble_eq_true rfl)); intro D' h' F' N' l1; (try dsimp only [List.cons_append, List.nil_append] at N'); (try k_sweep))) | fail "no"
  k_with "kok" => first | (first | exact ok_cont _ _ | exact ok_head _ _ | exact ok_key _ _ | exact ok_lsa _ _) | fail "no"
  k_with "compareOp NotEq ref" => first | ((k_here; k_dflt (refine' dat_cmp_ne ?Nq16 ?aq16 ?bq16 ?kaq16 ?kbq16 ?huq16 ?_; (case Nq16 => k_asm); (case aq16 => k_extra "dat"); (case bq16 => k_extra "dat"); (case kaq16 => k_extra "kok"); (case kbq16 => k_extra "kok"); (case huq16 => ktr_units)))) | fail "no"
  k_with "ctr ends" => first | (( (case Bq17 => k_asm); (case Fq17 => k_asm); (case Xq17 => k_asm); (case Nq17 => k_asm); (case Tq17 => k_asm); (case hkq17 => first | exact rfl | assumption); (case hdq17 => ktr_room); (case huq17 => ktr_units))) | fail "no"
  k_with "obj" => first | (first | with_reducible assumption | (refine' dbObj_sub ?hsq18 ?hdq18; (case hdq18 => with_reducible assumption); (case hsq18 => k_extra "sub")) | (refine' ⟨_, _, _, _, ?m1q18, ?m2q18⟩; (case m1q18 => k_extra "mem"); (case m2q18 => k_extra "mem"))) | fail "no"
  k_with "call builtin:sorted" => first | ((k_here; (with_reducible show wpAny _ _ (call (Value.builtin "sorted") [Value.ref _]) _ _ _); k_dflt (refine' rows_sorted ?hhq19 ?Fq19 ?Nq19 ?dq19 ?_; (case hhq19 => rfl); (case Fq19 => k_asm); (case Nq19 => k_asm); (case dq19 => k_extra "db")); intro B' h' c' tk' vs' F' N' l1 dv')) | fail "no"
  k_with "tab" => first | with_reducible assumption | ((with_reducible refine' TabIs.sub ?peq20 (fun p hp => List.mem_cons_of_mem _ hp)); (case peq20 => k_extra "tab")) | ((with_reducible refine' TabIs.sub ?peq20 (fun p hp => List.mem_append_right _ hp)); (case peq20 => k_extra "tab")) | fail "no"
  k_with "call ref" => first | ((k_here; k_dflt (refine' Ctr.use (drawn_t _ _ _ _ _ ?hP0q21 ?hT0q21 ?hm0q21) ?Bq21 ?Fq21 ?Xq21 ?Nq21 ?Tq21 ?hkq21 ?hdq21 ?huq21 ?_; (case Bq21 => k_asm); (case Fq21 => k_asm); (case Xq21 => k_asm); (case Nq21 => k_asm); (case Tq21 => k_asm); (case hP0q21 => k_extra "pool"); (case hT0q21 => k_extra "tab"); (case hm0q21 => decide); (case hkq21 => first | exact rfl | assumption); (case hdq21 => k_extra "room"); (case huq21 => k_extra "units"); k_whole; intro r' news' h' tk' F' N' P'; obtain ⟨⟨e', p', v', t', er', v0', v1'⟩, hT'⟩ := P'; subst er'); (try dsimp only); (try k_fold))) | fail "no"
  k_with "eval ListComp" => first | ((k_here; k_dflt (refine' lc_eval ?Fq22 ?c1q22 ?c2q22 ?c3q22 ?c4q22 ?c5q22 ?_; (case Fq22 => k_asm); (case c1q22 => with_unfolding_all rfl); (case c2q22 => decide); (case c3q22 => rfl); (case c4q22 => decide); (case c5q22 => rfl)))) | fail "no"
  k_with "exec Assign cons ListComp" => first | ((k_here; k_dflt (refine' lc_assign ?Fq23 ?c0q23 ?cwq23 ?c1q23 ?c2q23 ?c3q23 ?c4q23 ?c5q23 ?c6q23 ?c7q23 ?_; (case Fq23 => k_asm); (case c0q23 => rfl); (case cwq23 => with_unfolding_all rfl); (case c1q23 => with_unfolding_all rfl); (case c2q23 => decide); (case c3q23 => rfl); (case c4q23 => decide); (case c5q23 => rfl); (case c6q23 => rfl); (case c7q23 => rfl)))) | fail "no"
  k_with "exec For Name Call cons nil" => first | ((k_here; (rename Fr _ _ _ _ => lF'); (with_unfolding_all refine' for_my lF' ?k1q24 ?k2q24 ?_; (case k1q24 => exact rfl); (case k2q24 => exact rfl); k_whole))) | fail "no"
  k_with "exec For Name Name cons nil" => first | ((k_here; (rename Fr _ _ _ _ => lF'); (with_unfolding_all refine' for_my lF' ?k1q25 ?k2q25 ?_; (case k1q25 => exact rfl); (case k2q25 => exact rfl); k_whole))) | fail "no"
  k_with "exec For Name Attribute cons nil" => first | ((k_here; (rename Fr _ _ _ _ => lF'); (with_unfolding_all refine' for_my lF' ?k1q26 ?k2q26 ?_; (case k1q26 => exact rfl); (case k2q26 => exact rfl); k_whole))) | fail "no"
  k_with "call builtin:list.append" => first | ((k_here; k_dflt (refine' append_my ?Fq27 ?Nq27 ?mq27 ?zq27 ?_; (case Fq27 => k_asm); (case Nq27 => k_asm); (case mq27 => k_extra "mem"); (case zq27 => assumption); k_whole; intro h' F' N'); (try dsimp only); (try k_fold))) | fail "no"
  k_with "datp" => first | (first | with_reducible assumption | ((with_reducible refine' DatIn.mono (fun p hp => List.mem_cons_of_mem _ hp) ?peq28); (case peq28 => k_extra "datp")) | ((with_reducible refine' DatIn.mono (fun p hp => List.mem_append_right _ hp) ?peq28); (case peq28 => k_extra "datp")) | (refine' Ext.dat ?eq28 ?hq28 ?nq28; (case eq28 => with_reducible assumption); (case hq28 => k_extra "datp"); (case nq28 => first | exact optD_noList _ | rfl))) | fail "no"
  k_with "dat" => first | (first | with_reducible exact DatIn.int _ _ | k_extra "datp" | (refine' DatIn.tuple ?hmq29 ?hdq29; (case hmq29 => k_extra "mem"); (case hdq29 => k_extra "datall"))) | fail "no"
  k_with "dbp" => first | (first | with_reducible assumption | ((with_reducible refine' DbIs.sub (fun p hp => List.mem_cons_of_mem _ hp) ?peq30); (case peq30 => k_extra "dbp")) | ((with_reducible refine' DbIs.sub (fun p hp => List.mem_append_right _ hp) ?peq30); (case peq30 => k_extra "dbp")) | (refine' Ext.other ?eq30 _ _ _ ?nq30 ?hq30; (case eq30 => with_reducible assumption); (case hq30 => k_extra "dbp"); (case nq30 => first | assumption | simp; done | (simp; assumption)))) | fail "no"
  k_with "db" => first | (k_extra "dbp") | fail "no"
  k_with "objp" => first | (first | with_reducible assumption | ((with_reducible refine' dbObj_sub (fun p hp => List.mem_cons_of_mem _ hp) ?peq32); (case peq32 => k_extra "objp")) | ((with_reducible refine' dbObj_sub (fun p hp => List.mem_append_right _ hp) ?peq32); (case peq32 => k_extra "objp")) | (refine' Ext.obj ?eq32 _ _ ?hq32; (case eq32 => with_reducible assumption); (case hq32 => k_extra "objp"))) | fail "no"
  k_with "obj" => first | (k_extra "objp") | fail "no"
  k_with "kin" => first | (first | assumption | (show Lsa.key _ ∈ _; assumption)) | fail "no"
  k_with "kkk" => first | (first | rfl | assumption) | fail "no"
  k_with "setItem ref" => first | ((k_here; (with_reducible show wpAny _ _ (setItem (Value.ref _) _ _) _ _ _); k_dflt (refine' rows_set2 ?Fq36 ?Nq36 ?dbq36 ?hvq36 ?hkq36 ?hkkq36 ?hrq36 ?huq36 ?_; (case Fq36 => k_asm); (case Nq36 => k_asm); (case dbq36 => k_extra "db"); (case hvq36 => k_extra "dat"); (case hkq36 => k_extra "dat"); (case hkkq36 => k_extra "kkk"); (case hrq36 => k_extra "kin"); (case huq36 => k_extra "units"); intro h' news' tk' F' N' e' db'); (try dsimp only); (try k_fold))) | fail "no"
  k_with "getMethod ref" => first | ((k_here; k_dflt (refine' rows_pop_meth ?Nq37 ?dbq37 ?_; (case Nq37 => k_asm); (case dbq37 => k_extra "db")))) | fail "no"
  k_with "call builtin:dict.pop" => first | ((k_here; k_dflt (first | (refine' rows_pop_some ?Fq38 ?Nq38 ?dbq38 ?hkq38 ?hrq38 ?huq38 ?_; (case Fq38 => k_asm); (case Nq38 => k_asm); (case dbq38 => k_extra "db"); (case hkq38 => k_extra "dat"); (case hrq38 => with_reducible assumption); (case huq38 => k_extra "units"); intro x' h' news' tk' F' N' e' db' dx'; obtain ⟨ax', ex'⟩ := tup_ref dx'; subst ex') | (refine' rows_pop_none ?Nq38 ?dbq38 ?hkq38 ?hrq38 ?huq38 ?_; (case Nq38 => k_asm); (case dbq38 => k_extra "db"); (case hkq38 => k_extra "dat"); (case hrq38 => with_reducible assumption); (case huq38 => k_extra "units"); intro tk')); (try dsimp only); (try k_fold))) | fail "no"
  k_with "subscriptTail" => first | ((k_here; (with_reducible show wpAny _ _ (subscriptTail _ _ (Value.ref _) (Value.int _ _)) _ _ _); k_dflt (refine' litem ?Nq39 ?mq39 ?aq39 ?bq39 ?vq39 ?_ ?sq39; (case Nq39 => k_asm); (case mq39 => k_extra "mem"); (case aq39 => first | decide | omega); (case bq39 => first | decide | omega); (case vq39 => first | exact rfl | assumption); (case sq39 => with_unfolding_all rfl); k_whole))) | fail "no"
  k_with "setItem ref int" => first | ((k_here; k_dflt (refine' lset ?Fq40 ?Nq40 ?mq40 ?aq40 ?bq40 ?cq40 ?_; (case Fq40 => k_asm); (case Nq40 => k_asm); (case mq40 => k_extra "mem"); (case aq40 => first | decide | omega); (case bq40 => first | decide | omega); (case cq40 => first | decide | omega | ((simp only [List.length_cons, List.length_nil]); omega)); k_whole; intro h' news' F' N' e' hm' kp'); (try dsimp only); (try k_fold))) | fail "no"
  k_with "call builtin:len" => first | ((k_here; (with_reducible show wpAny _ _ (call (Value.builtin "len") [Value.ref _]) _ _ _); k_dflt (refine' llen ?Nq41 ?mq41 ?fq41 ?_; (case Nq41 => k_asm); (case mq41 => k_extra "mem"); (case fq41 => first | decide | omega | ((simp only [List.length_cons, List.length_nil]); omega)); k_whole))) | fail "no"
  k_with "subscriptTail Name Slice ref ref" => first | ((k_here; (with_reducible show wpAny _ _ (subscriptTail _ (PySem.Expr.Slice _ _ none _) (Value.ref _) (Value.ref _)) _ _ _); k_dflt (first | (refine' slice_init ?Fq42 ?Nq42 ?lq42 ?_ ?sq42 ?tq42 ?zq42; (case Fq42 => k_asm); (case Nq42 => k_asm); (case lq42 => k_extra "mem"); (case sq42 => with_unfolding_all rfl); (case tq42 => (intro _; with_unfolding_all rfl)); (case zq42 => assumption)) | (refine' slice_one ?Fq42 ?Nq42 ?lq42 ?_ ?sq42 ?tq42 ?zq42; (case Fq42 => k_asm); (case Nq42 => k_asm); (case lq42 => k_extra "mem"); (case sq42 => with_unfolding_all rfl); (case tq42 => (intro _; with_unfolding_all rfl)); (case zq42 => assumption))); intro D' h' F' N' l1; (try k_sweep))) | fail "no"
  k_with "subscriptTail" => first | ((k_here; (with_reducible show wpAny _ _ (subscriptTail _ _ (Value.ref _) (Value.int _ _)) _ _ _); k_dflt (refine' last_item ?Nq43 ?mq43 ?zq43 ?_ ?sq43; (case Nq43 => k_asm); (case mq43 => k_extra "mem"); (case zq43 => assumption); (case sq43 => with_unfolding_all rfl); k_whole))) | fail "no"
  k_with "binaryOp Mult ref int" => first | ((k_here; (with_reducible show wpAny _ _ (binaryOp Operator.Mult (Value.ref _) (Value.int _ _)) _ _ _); k_dflt (refine' mul_my ?Fq44 ?Nq44 ?lq44 ?aq44 ?bq44 ?_; (case Fq44 => k_asm); (case Nq44 => k_asm); (case lq44 => k_extra "mem"); (case aq44 => k_extra "len1"); (case bq44 => k_extra "len3"); intro D' h' F' N' l1; (try k_sweep)))) | fail "no"
  k_with "len1" => first | (first | exact take1_le _ | exact Nat.le_refl _) | fail "no"
  k_with "len3" => first | (first | assumption | omega) | fail "no"
  k_with "okd" => first | (first | with_reducible exact okd_lsa _ _ | with_reducible exact okd_head _ _ | with_reducible exact okd_key _ _ | with_reducible exact okd_optD _ _ | with_reducible exact okd_optI _ _ | with_reducible exact okd_bool _ _ | with_reducible exact okd_int _ _ | with_reducible exact okd_none _ | ((with_reducible refine' okd_rep _ ?hq47); (case hq47 => k_extra "okd")) | ((with_reducible refine' okd_map ?hq47 _); (case hq47 => (intro _; k_extra "okd")))) | fail "no"
  k_with "datallx" => first | (first | ((with_reducible refine' datAll_repT ?hdq48); (case hdq48 => k_extra "datall")) | ((with_reducible refine' datAll_rep1 ?hdq48 _); (case hdq48 => k_extra "dat")) | ((with_reducible refine' datAll_mono (fun p hp => List.mem_cons_of_mem _ hp) ?peq48); (case peq48 => k_extra "datall")) | ((with_reducible refine' datAll_mono (fun p hp => List.mem_append_right _ hp) ?peq48); (case peq48 => k_extra "datall")) | (refine' Ext.datAllL ?eq48 ?hq48; (case eq48 => with_reducible assumption); (case hq48 => k_extra "datall"))) | fail "no"
  k_with "compareOp Eq ref ref" => first | ((k_here; (with_reducible show wpAny _ _ (compareOp CmpOp.Eq (Value.ref _) (Value.ref _)) _ _ _); k_dflt (refine' cmp_same ?Nq49 ?aq49 ?bq49 ?kaq49 ?huq49 ?_; (case Nq49 => k_asm); (case aq49 => k_extra "dat"); (case bq49 => k_extra "dat"); (case kaq49 => k_extra "okd"); (case huq49 => k_extra "units")))) | fail "no"
  k_with "compareOp NotEq ref ref" => first | ((k_here; (with_reducible show wpAny _ _ (compareOp CmpOp.NotEq (Value.ref _) (Value.ref _)) _ _ _); k_dflt (refine' cmp_same_ne ?Nq50 ?aq50 ?bq50 ?kaq50 ?huq50 ?_; (case Nq50 => k_asm); (case aq50 => k_extra "dat"); (case bq50 => k_extra "dat"); (case kaq50 => k_extra "okd"); (case huq50 => k_extra "units")))) | fail "no"
  k_with "subscriptTail" => first | (k_here; (with_reducible show wpAny _ _ (subscriptTail _ _ (Value.ref _) (Value.int _ _)) _ _ _); k_dflt (refine' titem ?Nq51 ?mq51 ?aq51 ?bq51 ?vq51 ?_ ?sq51; (case Nq51 => k_asm); (case mq51 => k_extra "mem"); (case aq51 => first | decide | omega); (case bq51 => first | decide | omega); (case vq51 => exact rfl); (case sq51 => with_unfolding_all rfl); k_whole)) | fail "no"
  k_with "call ref" => first | ((k_here; k_dflt (refine' Ctr.use (drawn_km _ _ _ _ _ _ _ _ _ _ _ _ _ _ ?g3q52 ?g2q52 ?g1q52 ?hu0q52 ?hn0q52 ?hP0q52 ?hT0q52 ?hm0q52) ?Bq52 ?Fq52 ?Xq52 ?Nq52 ?Tq52 ?hkq52 ?hdq52 ?huq52 ?_; (case Bq52 => k_asm); (case Fq52 => k_asm); (case Xq52 => k_asm); (case Nq52 => k_asm); (case Tq52 => k_asm); (case g3q52 => with_reducible assumption); (case g2q52 => with_reducible assumption); (case g1q52 => with_reducible assumption); (case hu0q52 => exact Nat.ne_of_beq_eq_false rfl); (case hn0q52 => with_reducible assumption); (case hP0q52 => k_extra "pool"); (case hT0q52 => k_extra "tab"); (case hm0q52 => decide); (case hkq52 => first | exact rfl | assumption); (case hdq52 => k_extra "room"); (case huq52 => k_extra "units"); k_whole; intro r' news' h' tk' F' N' P'; obtain ⟨rest', er1', ⟨e', p', v', t', er', v0', v1'⟩, hn', hT'⟩ := P'; subst er1'; subst er'); (try dsimp only); (try k_fold))) | fail "no"
  k_with "call ref" => first | ((k_here; k_dflt (refine' Ctr.use (rows_km _ _ _ _ _ _ _ _ _ _ _ _ _ _ _ ?g3q53 ?g2q53 ?g1q53 ?hn0q53 ?hoq53 ?hdbq53 ?hS0q53) ?Bq53 ?Fq53 ?Xq53 ?Nq53 ?Tq53 ?hkq53 ?hdq53 ?huq53 ?_; (case Bq53 => k_asm); (case Fq53 => k_asm); (case Xq53 => k_asm); (case Nq53 => k_asm); (case Tq53 => k_asm); (case g3q53 => with_reducible assumption); (case g2q53 => with_reducible assumption); (case g1q53 => with_reducible assumption); (case hn0q53 => with_reducible assumption); (case hoq53 => k_extra "obj"); (case hdbq53 => k_extra "db"); (case hS0q53 => first | exact rowsAt_on (by assumption) | exact rfl); (case hkq53 => first | exact rfl | assumption); (case hdq53 => k_extra "room"); (case huq53 => k_extra "units"); k_whole; intro r' news' h' tk' F' N' P'; obtain ⟨rest', er1', e', hn', sb', d'⟩ := P'; subst er1'; (have d2' := d'); obtain ⟨la', vs', n', e2', hm', da'⟩ := listD_open d2'; subst e2'); (try dsimp only); (try k_fold))) | fail "no"
  k_with "subscriptTail" => first | (k_here; (with_reducible show wpAny _ _ (subscriptTail _ _ (Value.ref _) (Value.int 0 _)) _ _ _); k_dflt (refine' first_item ?Nq54 ?mq54 ?_ ?sq54; (case Nq54 => k_asm); (case mq54 => k_extra "mem"); (case sq54 => with_unfolding_all rfl); k_whole)) | fail "no"
  k_with "subscriptTail" => first | (k_here; (with_reducible show wpAny _ _ (subscriptTail _ _ (Value.ref _) (Value.int _ _)) _ _ _); k_dflt (refine' menu_item ?Nq55 ?mq55 ?bq55 ?zq55 ?fq55 ?lq55 ?_ ?sq55; (case Nq55 => k_asm); (case mq55 => exact List.Mem.head _); (case bq55 => exact menu_ok (by decide) (by decide) (by decide) (by decide) (by decide)); (case zq55 => with_reducible assumption); (case fq55 => first | assumption | (simp; assumption)); (case lq55 => exact Nat.le_of_ble_eq_true rfl); (case sq55 => with_unfolding_all rfl); k_whole; intro a' t' a0' a1')) | fail "no"
  k_with "newTuple" => first | (k_here; k_dflt (refine' kup_newTuple ?Fq56 ?Nq56 ?_ ?zq56; (case Fq56 => k_asm); (case Nq56 => k_asm); (case zq56 => kmk_size)); intro D' h' F' N' l1; (try k_lt l1); (try k_sweep)) | fail "no"
  k_with "call ref" => first | ((k_here; k_dflt (refine' Ctr.use (aged_c _ _ _ _ _ _ ?hDq57) ?Bq57 ?Fq57 ?Xq57 ?Nq57 ?Tq57 ?hkq57 ?hdq57 ?huq57 ?_; (case Bq57 => k_asm); (case Fq57 => k_asm); (case Xq57 => k_asm); (case Nq57 => k_asm); (case Tq57 => k_asm); (case hDq57 => k_extra "dat"); (case hkq57 => first | exact rfl | assumption); (case hdq57 => k_extra "room"); (case huq57 => k_extra "units"); k_whole; intro r' news' h' tk' F' N' P'; obtain ⟨⟨tl', e'⟩, d'⟩ := P'; subst e'); (try dsimp only); (try k_fold))) | fail "no"
  k_with "eval ListComp" => first | ((k_here; (with_reducible show wpAny _ _ (eval (Expr.ListComp _ [⟨_, Expr.Call _ _ _ _, [_], _⟩] _ _) _) _ _ _); k_dflt (refine' lr_eval ?Fq58 ?c1q58 ?c2q58 ?c3q58 ?c4q58 ?c5q58 ?_; (case Fq58 => k_asm); (case c1q58 => with_unfolding_all rfl); (case c2q58 => decide); (case c3q58 => rfl); (case c4q58 => decide); (case c5q58 => rfl)))) | fail "no"
  k_with "subscriptTail" => first | (k_here; (with_reducible show wpAny _ _ (subscriptTail _ _ (Value.ref _) (Value.int _ _)) _ _ _); k_dflt (refine' litem ?Nq59 ?mq59 ?aq59 ?bq59 ?vq59 ?_ ?sq59; (case Nq59 => k_asm); (case mq59 => k_extra "mem"); (case vq59 => with_reducible assumption); (case aq59 => omega); (case bq59 => omega); (case sq59 => with_unfolding_all rfl); k_whole)) | fail "no"
  k_with "subscriptTail" => first | (k_here; (with_reducible show wpAny _ _ (subscriptTail _ _ (Value.ref _) (Value.int (-2) _)) _ _ _); k_dflt (refine' litem_neg ?Nq60 ?mq60 ?aq60 ?cq60 ?bq60 ?vq60 ?_ ?sq60; (case Nq60 => k_asm); (case mq60 => k_extra "mem"); (case vq60 => with_reducible assumption); (case aq60 => decide); (case cq60 => with_reducible assumption); (case bq60 => decide); (case sq60 => with_unfolding_all rfl); k_whole)) | fail "no"
  k_with "okd" => first | with_reducible assumption | fail "no"
  k_with "call ref" => first | (k_here; (with_reducible show wpAny _ _ (call (Value.ref 152) _) _ _ _); k_dflt (refine' call_cls ?k1q62 ?k2q62 ?k3q62 ?k4q62 ?k5q62 ?k6q62 ?_; (case k1q62 => k_asm); (case k2q62 => k_asm); (case k3q62 => k_asm); (case k4q62 => k_is); (case k5q62 => k_is); (case k6q62 => k_is); k_whole; intro x' d' h' F' N' l1 l2; (try k_lt l1); (try k_lt2 l2); (try k_sweep); k_enter)) | fail "no"
  k_with "callWith ref" => first | (k_here; (with_reducible show wpAny _ _ (callWith _ (Value.ref 152) _ _ _) _ _ _); k_dflt (refine' callWith_K0 ?k1q63 ?k2q63 ?_; (case k1q63 => k_in); (case k2q63 => k_is); k_whole)) | fail "no"
  k_with "compareOp Eq int int" => first | (refine' eq_int_b ?hbq64 ?_; (case hbq64 => with_reducible assumption)) | fail "no"
  k_with "call ref" => first | ((k_here; k_dflt (refine' Ctr.use (tells_s _ _ _ _ _ _ _ _ ?hoq65 ?hdbq65 ?hT0q65) ?Bq65 ?Fq65 ?Xq65 ?Nq65 ?Tq65 ?hkq65 ?hdq65 ?huq65 ?_; (case Bq65 => k_asm); (case Fq65 => k_asm); (case Xq65 => k_asm); (case Nq65 => k_asm); (case Tq65 => k_asm); (case hoq65 => k_extra "obj"); (case hdbq65 => k_extra "db"); (case hT0q65 => with_reducible assumption); (case hkq65 => first | exact rfl | assumption); (case hdq65 => k_extra "room"); (case huq65 => k_extra "units"); k_whole; intro r' news' h' tk' F' N' P'; obtain ⟨⟨tl', e'⟩, d'⟩ := P'; subst e'; (have d2' := d'); obtain ⟨a9', ea9'⟩ := tup_ref d2'; subst ea9'); (try dsimp only); (try k_fold))) | fail "no"
  k_with "call ref" => first | ((k_here; k_dflt (refine' Ctr.use (late_right_c _ _ _ _ _ _ _ _ _ _ _ _ ?ho1q66 ?hdb1q66 ?ho2q66 ?hdb2q66 ?h0xq66 ?h9xq66 ?hLxq66) ?Bq66 ?Fq66 ?Xq66 ?Nq66 ?Tq66 ?hkq66 ?hdq66 ?huq66 ?_; (case Bq66 => k_asm); (case Fq66 => k_asm); (case Xq66 => k_asm); (case Nq66 => k_asm); (case Tq66 => k_asm); (case h0xq66 => with_reducible assumption); (case h9xq66 => with_reducible assumption); (case hLxq66 => with_reducible assumption); (case ho1q66 => k_extra "obj"); (case hdb1q66 => k_extra "db"); (case ho2q66 => k_extra "obj"); (case hdb2q66 => k_extra "db"); (case hkq66 => first | exact rfl | assumption); (case hdq66 => k_extra "room"); (case huq66 => k_extra "units"); k_whole; intro r' news' h' tk' F' N' P'; obtain ⟨⟨tl', e'⟩, d'⟩ := P'; subst e'; cases d'); (try dsimp only); (try k_fold))) | fail "no"
  trivial
/-- an empty database is made -/
theorem newdb_c (w : World) (news : Led) :
   Ctr PR w (hd.heap_39 w.params) 152 6 200 [] news (fun r ns => ∃ xC dC dxC oC hC tC nC, r = .ref xC ∧ ns = (dC, oC) :: (xC, instObj 152 dxC) :: (dxC, dictOf [⟨hC, .str (Str.ofString "rows") tC, .ref dC⟩] nC) :: news ∧ oC.IsDictOf (PySem.strKind PR w) [] ∧ (dC == sysModules) = false ∧ ∀ p ∈ news, @LT.lt Nat _ p.1 dC) := by
  unfold Ctr
  intros
  rename_i hret
  refine' call_cls ?k1 ?k2 ?k3 ?k4 ?k5 ?k6 ?_
  case k1 => k_asm
  case k2 => k_asm
  case k3 => k_asm
  case k4 => k_is
  case k5 => k_is
  case k6 => k_is
  k_whole
  intro x' d' h' F' N' l1 l2
  (try k_lt l1); (try k_lt2 l2); (try k_sweep)
  walk_at "my enter"
  k_steps
  rename Fr _ _ _ _ => FF
  rename News _ _ _ _ => NF
  rename _ ∧ _ ∧ AllLt _ _ => aL
  refine hret _ _ _ _ (by k_asm) (by k_asm) ⟨_, _, _, _, _, _, _, rfl, rfl, by assumption, by assumption, allLt_mem aL.2.2⟩
end
section
example : True := by
  k_with_none
  trivial
section
variable {w : World} {c : Cx} {l : Loc} {n n0 : Led} {K : Frag} {env : Env} {D U : Nat} {pos : Pos}
theorem At.weak {s : Shared} (a : At c l n s) (hs : ∀ p ∈ n0, p ∈ n) : At c l n0 s := ⟨a.F, News.less a.N hs, a.g, a.d, a.o⟩
theorem G.weak {α : Type} {t : Sem α} {f : α → Led → Prop} (hs : ∀ p ∈ n0, p ∈ n) (h : G w c l n0 t f) : G w c l n t f := fun s a => h s (a.weak hs)
theorem GS.weak {t : Sem Flow} {f : Flow → Loc → Led → Prop} (hs : ∀ p ∈ n0, p ∈ n) (h : GS w c l n0 t f) : GS w c l n t f := fun s a => h s (a.weak hs)
/-- the ledger is a heap's -/
def Real (c : Cx) (n : Led) : Prop := ∃ h, News c.h₀ c.L h n
theorem G.real {α : Type} {t : Sem α} {f : α → Led → Prop} (h : Real c n → G w c l n t f) : G w c l n t f := fun s a => h ⟨_, a.N⟩ s a
theorem GS.real {t : Sem Flow} {f : Flow → Loc → Led → Prop} (h : Real c n → GS w c l n t f) : GS w c l n t f := fun s a => h ⟨_, a.N⟩ s a
section
variable {a b : Addr} {us vs : List Value} {nn mm : Nat} {x : Value} {k : Int} {u : Tok} {v i : PySem.Expr} {f : Value → Led → Prop}
theorem g_litem (hm : (a, W.listOf us.toArray nn) ∈ n) (h0 : 0 ≤ k) (hf : k < 2 ^ 63) (hv : us[k.toNat]? = some x) (hs : subscripted i false (.ref a) (.int k u) = operate [.ref a, .int k u] (getItem (.ref a) (.int k u))) (h : f x n) : G w c l n (subscriptTail v i (.ref a) (.int k u)) f := fun _ at_ => litem at_.N hm h0 hf hv ⟨n, h, at_⟩ hs
theorem g_lneg (hm : (a, W.listOf us.toArray nn) ∈ n) (h0 : k < 0) (h1 : -(us.length : Int) ≤ k) (hf : -(2 ^ 63) ≤ k) (hv : us[(k + us.length).toNat]? = some x) (hs : subscripted i false (.ref a) (.int k u) = operate [.ref a, .int k u] (getItem (.ref a) (.int k u))) (h : f x n) : G w c l n (subscriptTail v i (.ref a) (.int k u)) f := fun _ at_ => litem_neg at_.N hm h0 h1 hf hv ⟨n, h, at_⟩ hs
theorem g_llast (hm : (a, W.listOf (us ++ [x]).toArray nn) ∈ n) (hz : us.length ≤ 3) (hs : subscripted i false (.ref a) (.int (-1) u) = operate [.ref a, .int (-1) u] (getItem (.ref a) (.int (-1) u))) (h : f x n) : G w c l n (subscriptTail v i (.ref a) (.int (-1) u)) f := fun _ at_ => last_item at_.N hm hz ⟨n, h, at_⟩ hs
theorem g_menu (hm : (a, W.listOf us.toArray nn) ∈ n) (hb : ∀ x ∈ us, ∃ a t, x = .int a t ∧ 0 ≤ a ∧ a ≤ 3600) (h0 : 0 ≤ k) (h5 : k < (us.length : Int)) (hl : us.length ≤ 8) (hs : subscripted i false (.ref a) (.int k u) = operate [.ref a, .int k u] (getItem (.ref a) (.int k u))) (h : ∀ z t, 0 ≤ z → z ≤ 3600 → f (.int z t) n) : G w c l n (subscriptTail v i (.ref a) (.int k u)) f := fun _ at_ => menu_item at_.N hm hb h0 h5 hl (fun z t h1 h2 => ⟨n, h z t h1 h2, at_⟩) hs
theorem g_ladd (hm : (a, W.listOf us.toArray nn) ∈ n) (hm2 : (b, W.listOf vs.toArray mm) ∈ n) (hz : us.length ≤ 3) (hz2 : vs.length ≤ 3) (h : ∀ D, (∀ p ∈ n, p.1 < D) → let n' := (D, W.listOf (us ++ vs).toArray 0) :: n; f (.ref D) n') : G w c l n (binaryOp .Add (.ref a) (.ref b)) f := fun _ at_ =>
  ladd at_.F at_.N hm hm2 hz hz2 fun D h' F' N' lt => ⟨_, h D lt, at_.heap F' N'⟩
theorem g_lmul {j : Nat} (hm : (a, W.listOf us.toArray nn) ∈ n) (hv : us.length ≤ 1) (hk : j ≤ 6) (h : ∀ D, (∀ p ∈ n, p.1 < D) → let n' := (D, W.listOf (repL j us).toArray 0) :: n; f (.ref D) n') : G w c l n (binaryOp .Mult (.ref a) (.int ((j : Nat) : Int) u)) f := fun _ at_ =>
  mul_six at_.F at_.N hm hv hk fun D h' F' N' lt => ⟨_, h D lt, at_.heap F' N'⟩
theorem g_len (hm : (a, W.listOf us.toArray nn) ∈ n) (hz : us.length ≤ 1000) (h : ∀ tk, f (.int ((us.length : Nat) : Int) tk) n) : G w c l n (call (.builtin "len") [.ref a]) f := fun s at_ =>
  len_list (items := us.toArray) ⟨_, (at_.N _ hm).1, rfl, nn, rfl⟩ (by rw [List.size_toArray]; omega) ⟨n, by rw [List.size_toArray]; exact h _, at_.tok _⟩
theorem g_init {k1 : Nat} {p1 p2 p3 p4 : Pos} (hs : ∀ t H : Addr, subscripted (.Slice none (some (.UnaryOp .USub (.Constant (.int 1) k1 p1) p4)) none p2) false (.ref t) (.ref H) = operate [.ref H, .ref t] (getItem (.ref t) (.ref H)))
    (h : G w c l n (eval v env) fun o n1 => ∃ (la : Addr) (us : List Value) (x : Value) (nn : Nat), o = .ref la ∧ (la, W.listOf (us ++ [x]).toArray nn) ∈ n1 ∧ us.length ≤ 3 ∧ ∀ D, (∀ p ∈ n1, p.1 < D) → let n' := (D, W.listOf us.toArray 0) :: n1; f (.ref D) n') : G w c l n (eval (.Subscript v (.Slice none (some (.UnaryOp .USub (.Constant (.int 1) k1 p1) p4)) none p2) p3) env) f := fun s at_ =>
  Subscript_ (wpAny_mono (h s at_) (fun _ s1 ⟨n1, ⟨la, us, x, nn, e, hm, hz, p⟩, q⟩ => by
    subst e
    exact wpAny_Slice (evalPart_none_step (evalPart_some_step (UnaryOp_ (wpAny_Constant_int (neg_int (evalPart_none_step
      (kba_turn (value' := PySem.Expr.Name (Str.ofString "_") ⟨0, 0, 0, 0⟩) (fun _ => rfl) <| slice_init (s := { s1 with toks := s1.toks + 1 + 1 }) q.F q.N hm (fun D h' F' N' lt => ⟨_, p D lt, q.heap F' N'⟩) (hs _ _) (fun _ => by with_unfolding_all rfl) hz))))))) ) fun _ _ e => e)
theorem g_one {k1 : Nat} {p1 p2 p3 : Pos} (hs : ∀ t H : Addr, subscripted (.Slice none (some (.Constant (.int 1) k1 p1)) none p2) false (.ref t) (.ref H) = operate [.ref H, .ref t] (getItem (.ref t) (.ref H)))
    (h : G w c l n (eval v env) fun o n1 => ∃ (la : Addr) (us : List Value) (nn : Nat), o = .ref la ∧ (la, W.listOf us.toArray nn) ∈ n1 ∧ us.length ≤ 3 ∧ ∀ D, (∀ p ∈ n1, p.1 < D) → let n' := (D, W.listOf (us.take 1).toArray 0) :: n1; f (.ref D) n') : G w c l n (eval (.Subscript v (.Slice none (some (.Constant (.int 1) k1 p1)) none p2) p3) env) f := fun s at_ =>
  Subscript_ (wpAny_mono (h s at_) (fun _ s1 ⟨n1, ⟨la, us, nn, e, hm, hz, p⟩, q⟩ => by
    subst e
    exact wpAny_Slice (evalPart_none_step (evalPart_some_step (wpAny_Constant_int (evalPart_none_step
      (kba_turn (value' := PySem.Expr.Name (Str.ofString "_") ⟨0, 0, 0, 0⟩) (fun _ => rfl) <| slice_one (s := { s1 with toks := s1.toks + 1 }) q.F q.N hm (fun D h' F' N' lt => ⟨_, p D lt, q.heap F' N'⟩) (hs _ _) (fun _ => by with_unfolding_all rfl) hz))))) ) fun _ _ e => e)
end
/-- comparisons, truth -/
theorem g_cmp {x y : PySem.Expr} {op : CmpOp} {f : Value → Led → Prop} (hb : behindInMarks op y = false) (h : G w c l n (eval x env) fun a n1 => G w c l n1 (eval y env) fun b n2 => G w c l n2 (compareOp op a b) f) : G w c l n (eval (.Compare x [op] [y] pos) env) f := fun s at_ =>
  wpAny_Compare1 (wpAny_mono (h s at_) (fun _ _ ⟨_, p, q⟩ => wpAny_mono (p _ q) (fun _ _ ⟨_, p, q⟩ => p _ q) fun _ _ e => e) fun _ _ e => e) hb
theorem g_and {e₁ e₂ : PySem.Expr} {f : Value → Led → Prop} (h : G w c l n (eval e₁ env) fun v n1 => G w c l n1 (truthy v) fun b n2 => (b = true → G w c l n2 (eval e₂ env) f) ∧ (b = false → f v n2)) : G w c l n (eval (.BoolOp .And [e₁, e₂] pos) env) f := fun s at_ =>
  BoolOp_and (wpAny_mono (h s at_) (fun v _ ⟨_, p, q⟩ => wpAny_mono (p _ q) (fun b _ ⟨_, p, q⟩ => by
    cases b
    · rw [if_neg (by decide)]; exact ⟨_, p.2 rfl, q⟩
    · rw [if_pos rfl]; exact BoolOp_one (p.1 rfl _ q)) fun _ _ e => e) fun _ _ e => e)
theorem gb_not {x : PySem.Expr} {whole : Sem Value} {f : Bool → Led → Prop} (h : G w c l n (PySem.isTrue x env (eval x env)) fun b n' => f (!b) n') : G w c l n (PySem.isTrue (.UnaryOp .Not x pos) env whole) f := fun s at_ => isTrue_not (h s at_)
theorem gc_is_rn {a : Addr} {f : Value → Led → Prop} (h : f (.bool false) n) : G w c l n (compareOp .Is (.ref a) .none) f := fun _ at_ => is_ref_none ⟨n, h, at_⟩
theorem gc_isnot_rn {a : Addr} {f : Value → Led → Prop} (h : f (.bool true) n) : G w c l n (compareOp .IsNot (.ref a) .none) f := fun _ at_ => isnot_ref_none ⟨n, h, at_⟩
theorem gc_same_eq {x y : Value} {d : Dat} {f : Value → Led → Prop} (ok : Ok w K c D U) (ha : DatIn n x d) (hb : DatIn n y d) (ka : okD 8 d = true) (hU : 64 ≤ U) (h : f (.bool true) n) : G w c l n (compareOp .Eq x y) f := fun _ at_ => cmp_same at_.N ha hb ka (by have := ok.un; omega) ⟨n, h, at_⟩
section
variable {scope : Scope} {cl : List (Str × Addr)} {C : Addr} {x : Str} {f : Value → Led → Prop} {v : Value}
theorem gk_own {oC : Obj} {m₂ : Str → Option Value} (hm : (C, oC) ∈ n) (hC : LCg.NsObj oC m₂) (hx : m₂ x = some v) (hk : (compEnvC scope cl C env).scope.kind = .function) (hl : (compEnvC scope cl C env).kindOf x = some .local) (hd : (x == ("__debug__" : Str)) = false) (h : f v n) : G w c l n (eval (.Name x pos) (compEnvC scope cl C env)) f :=
  fun _ at_ => LCgL.ld_own at_.N hm hC hx ⟨n, h, at_⟩ hk hl hd
theorem gk_glob (ok : Ok w K c D U) (e : nsIn K mainGlobals x = some (some v)) (hg : env.globals = mainGlobals) (hk : (compEnvC scope cl C env).scope.kind = .function) (hx : (compEnvC scope cl C env).kindOf x = some .globalImplicit) (hd : (x == ("__debug__" : Str)) = false) (h : f v n) : G w c l n (eval (.Name x pos) (compEnvC scope cl C env)) f :=
  fun _ at_ => by
    obtain ⟨p, lo, _, mg, mb, T⟩ := ok.T
    exact LCgL.ld_global at_.F ok.X T e ⟨n, h, at_⟩ hg hk hx hd
theorem gk_free {cc : Addr} {o : Obj} (hc : cl.lookup x = some cc) (hm : (cc, o) ∈ n) (hd : o.data = .cell (some v)) (hk : (compEnvC scope cl C env).scope.kind = .function) (hx : (compEnvC scope cl C env).kindOf x = some .free) (hb : (x == ("__debug__" : Str)) = false) (hn : (x == ("__classdict__" : Str)) = false) (h : f v n) : G w c l n (eval (.Name x pos) (compEnvC scope cl C env)) f :=
  fun _ at_ => lcf_free at_.N hc hm hd ⟨n, h, at_⟩ hk hx hb hn
end
end
/-- comprehensions -/
def CF (w : World) (c : Cx) (l : Loc) (env : Env) (elt : PySem.Expr) (x : Str) (scope : Scope) (cl : List (Str × Addr)) (f : List Value → Led → Prop) (v : Value) (n1 : Led) : Prop :=
  ∀ s1, At c l n1 s1 → CSrc PR w c.A c.h₀ c.L (lk l) env [] elt x scope cl (fun _ ys ns => f ys ns) v s1
theorem CSrc.mono {prog : Program} {w : World} {A : Around} {h₀ : Heap} {L : Addr} {m : Str → Option Value} {env : Env} {ifs : List PySem.Expr} {elt : PySem.Expr} {x : Str} {scope : Scope} {cl : List (Str × Addr)} {F F' : Shared → List Value → Led → Prop} {v : Value} {s : Shared} (h : CSrc prog w A h₀ L m env ifs elt x scope cl F v s) (hF : ∀ ys ns, F s ys ns → F' s ys ns) : CSrc prog w A h₀ L m env ifs elt x scope cl F' v s := by
  obtain ⟨ax, its, k, news, Inv, a, b, d, e, f, g, hI, h0, T, fin⟩ := h
  exact ⟨ax, its, k, news, Inv, a, b, d, e, f, g, hI, h0, T, fun ys ns i => hF _ _ (fin ys ns i)⟩
theorem off1_all {D : Addr} : ∀ {l : Led}, LCg.Off1 D l → ∀ p ∈ l, p.1 ≠ D
  | [], _, _, h => nomatch h
  | _ :: _, x, p, h => by
    rcases List.mem_cons.mp h with rfl | h
    · exact x.1
    · exact off1_all x.2 p h
section
variable {w : World} {c : Cx} {l : Loc} {n : Led} {K : Frag} {env : Env} {D U : Nat} {pos px : Pos} {elt iter : PySem.Expr} {x : Str} {scope : Scope} {cl : List (Str × Addr)}
theorem g_lc {f : Value → Led → Prop} (hclos : closureFor scope env = pure cl) (hcell : ∀ y ∈ scope.names, y.2 ≠ .cell) (hkind : scope.kind = .function)
    (hnames : ∀ y ∈ scope.names, y.2 = .local → scope.names.lookup y.1 = some .local) (hx : scope.names.lookup x = some .local) (hs : ∀ v, foldedSetIterable iter env v = pure v)
    (h : G w c l n (eval iter env) (CF w c l env elt x scope cl fun ys ns => ∀ D, (∀ p ∈ ns, p.1 ≠ D) → let n' := (D, lstO ys) :: ns; f (.ref D) n')) : G w c l n (eval (.ListComp elt [⟨.Name x px, iter, [], 0⟩] scope pos) env) f := fun s at_ =>
  lc_eval at_.F hclos hcell hkind hnames hx (wpAny_mono (h s at_) (fun v s1 ⟨n1, p, q⟩ => CSrc.mono (p s1 q) fun ys ns r D h' tk F' N' o1 => ⟨_, r D (off1_all o1), ⟨F', N', q.g, q.d, q.o⟩⟩) fun _ _ e => e) hs
theorem gs_lc {y : Str} {py spos : Pos} {rest : List Stmt} {cn : Str} {cs : Scope} {a : Addr} {ccd : Value} {cl₀ : List (Str × Addr)} {f : Flow → Loc → Led → Prop}
    (hsw : swapsWith (.ListComp elt [⟨.Name x px, iter, [], 0⟩] scope pos) (some (.Name y py)) spos.line (envX cn cs c.L a ccd cl₀) = pure true)
    (hclos : closureFor scope (envX cn cs c.L a ccd cl₀) = pure cl) (hcell : ∀ z ∈ scope.names, z.2 ≠ .cell) (hkind : scope.kind = .function)
    (hnames : ∀ z ∈ scope.names, z.2 = .local → scope.names.lookup z.1 = some .local) (hx : scope.names.lookup x = some .local)
    (hy : (envX cn cs c.L a ccd cl₀).kindOf y = some .local) (hp : ((envX cn cs c.L a ccd cl₀).scope.kind == .class || ((envX cn cs c.L a ccd cl₀).scope.kind == .module && (envX cn cs c.L a ccd cl₀).locals != (envX cn cs c.L a ccd cl₀).globals)) = false) (hs : ∀ v, foldedSetIterable iter (envX cn cs c.L a ccd cl₀) v = pure v)
    (h : G w c l n (eval iter (envX cn cs c.L a ccd cl₀)) (CF w c l (envX cn cs c.L a ccd cl₀) elt x scope cl fun ys ns => ∀ D, (∀ p ∈ ns, p.1 ≠ D) → let n' := (D, lstO ys) :: ns; GS w c ((y, .ref D) :: l) n' (execs rest (envX cn cs c.L a ccd cl₀)) f)) : GS w c l n (execs (.Assign [.Name y py] (.ListComp elt [⟨.Name x px, iter, [], 0⟩] scope pos) spos :: rest) (envX cn cs c.L a ccd cl₀)) f :=
  gs_cons fun s at_ => lc_assign at_.F rfl hsw hclos hcell hkind hnames hx hy hp (wpAny_mono (h s at_) (fun v s1 ⟨n1, p, q⟩ => CSrc.mono (p s1 q) fun ys ns r D h' tk F' N' o1 => ⟨_, _, r D (off1_all o1), ⟨lk_cons ▸ F', N', q.g, q.d, q.o⟩⟩) fun _ _ e => e) hs
/-- what a turn leaves -/
structure TurnD (base : Led) (W : List Addr) (R : Led → Prop) (rd : Dat) (y : Value) (all : Led) : Prop where
  ext : Ext [] W base all
  db : R all
  res : DatIn all y rd
  new : noList rd = true ∨ ∃ a ks, y = .ref a ∧ (∀ p ∈ base, p.1 ≠ a) ∧ rd = .list ks ∧ noList.noLists ks = true
theorem like2 {s1 : Shared} {l2 : Loc} {n1 n2 : Led} {c' : Cx} {s2 : Shared} {h : Heap} {tk : Nat} (q : At c l n1 s1) (q2 : At c' l2 n2 s2) (e : c'.s0 = c.s0) : s2 = { { s1 with heap := h, toks := tk } with heap := s2.heap, toks := s2.toks } := by
  rw [q2.eta e]
  show Shared.mk _ _ _ _ _ = Shared.mk _ _ _ _ _
  rw [q.g, q.d, q.o]
theorem TurnD.end {s1 : Shared} {n1 base all : Led} {W : List Addr} {R : Led → Prop} {rd : Dat} {y : Value} {h : Heap} {tk : Nat} {s2 : Shared} {E : Value → Shared → Prop} (q : At c l n1 s1) (t : TurnD base W R rd y all) (q2 : At (c.withE E) l all s2) : MEnd c.h₀ c.L (lk l) { s1 with heap := h, toks := tk } base W R rd y s2 := by
  have e := like2 (h := h) (tk := tk) q q2 rfl
  rw [e]
  exact MEnd.mk q2.F q2.N t.ext t.db t.res t.new
theorem cf_mut {f : List Value → Led → Prop} {ax : Addr} {k : Nat} (ok : Ok w K c D U) (src : List Base) (g : Base → List Rw) (rd : Base → Dat) (hax : (ax, W.listOf (refs src).toArray k) ∈ n) (hS : Stand w n src) (hA : Apart src) (hsz : src.length ≤ sizeLine)
    (turn : ∀ (c' : Cx) ns b ys I oI C oC Da m₂, Ok w K c' D U → b ∈ src → Ext [] (dsOf src) n ns → DbObj ns b.x b.d → DbIs w ns b.d b.D → (b.d ≠ I ∧ b.d ≠ C ∧ b.d ≠ Da) → LCg.NsObj oC m₂ → m₂ x = some (.ref b.x) →
      G w c' l ((I, oI) :: (C, oC) :: (Da, lstO ys) :: ns) (eval elt (compEnvC scope cl C env)) (TurnD ((I, oI) :: (C, oC) :: (Da, lstO ys) :: ns) [b.d] (fun all => DbIs w all b.d (g b)) (rd b)))
    (fin : ∀ ys ns, Ext [] (dsOf src) n ns → Stand w ns (src.map (Base.upd g)) → DatAll ns ys (src.map rd) → f ys ns) : CF w c l env elt x scope cl f (.ref ax) n := fun s1 q =>
  CSrc.mut src g rd ok.hh q.F q.N hax hS hA hsz (fun ns b ys I oI C oC Da m₂ h tk E' hb e1 ob db hbd hI hC hx F' N' =>
    wpAny_mono (turn (c.withE E') ns b ys I oI C oC Da m₂ (ok.withE E') hb e1 ob db hbd hC hx _ ⟨F', N', q.g, q.d, q.o⟩) (fun y s2 ⟨all, t, q2⟩ => t.end q q2) fun _ _ e => e) fun ys ns e S d _ => fin ys ns e S d
theorem cf_pure {f : List Value → Led → Prop} {ax : Addr} {k : Nat} {its : List Value} {src : List Dat} (ok : Ok w K c D U) (g : Dat → Dat) (hax : (ax, W.listOf its.toArray k) ∈ n) (hD : DatAll n its src) (hsz : src.length ≤ sizeLine) (hg : ∀ d ∈ src, noList (g d) = true)
    (turn : ∀ (c' : Cx) tl ys v d I oI C oC Da m₂, Ok w K c' D U → d ∈ src → DatIn (tl ++ n) v d → LCg.NsObj oC m₂ → m₂ x = some v →
      G w c' l ((I, oI) :: (C, oC) :: (Da, lstO ys) :: (tl ++ n)) (eval elt (compEnvC scope cl C env)) fun y all => (I, oI) :: (C, oC) :: (Da, lstO ys) :: (tl ++ n) <:+ all ∧ DatIn all y (g d))
    (fin : ∀ ys tl, DatAll (tl ++ n) ys (src.map g) → f ys (tl ++ n)) : CF w c l env elt x scope cl f (.ref ax) n := fun s1 q =>
  CSrc.pure (fun d => some (g d)) ok.hh q.F q.N hax hD hsz (fun d hd d' e => by cases e; exact hg d hd) (fun tl ys v d I oI C oC Da m₂ h tk E' hd hv hC hx F' N' => by
    refine wpAny_tests_nil ?_
    simp only [if_true]
    refine wpAny_mono (turn (c.withE E') tl ys v d I oI C oC Da m₂ (ok.withE E') hd hv hC hx _ ⟨F', N', q.g, q.d, q.o⟩) (fun y s2 ⟨all, t, q2⟩ => ?_) fun _ _ e => e
    rw [like2 (h := h) (tk := tk) q q2 rfl]
    exact PEnd.mk q2.F q2.N t.1 rfl t.2) fun ys tl h => fin ys tl (by rw [List.filterMap_eq_map'] at h; exact h)
theorem cf_over1 {f : List Value → Led → Prop} {ax : Addr} {k : Nat} {vs : List Value} (ok : Ok w K c D U) (bx bd : Addr) (src : List Dat) (DD : Nat → List Rw) (rd : Dat) (hrd : noList rd = true) (hax : (ax, W.listOf vs.toArray k) ∈ n) (hv : DatAll n vs src) (ho : DbObj n bx bd) (hdb : DbIs w n bd (DD 0)) (hsz : src.length ≤ sizeLine)
    (turn : ∀ (c' : Cx) i dd ns v ys I oI C oC Da m₂, Ok w K c' D U → src[i]? = some dd → DatIn ns v dd → Ext [] [bd] n ns → DbObj ns bx bd → DbIs w ns bd (DD i) → (bd ≠ I ∧ bd ≠ C ∧ bd ≠ Da) → LCg.NsObj oC m₂ → m₂ x = some v →
      G w c' l ((I, oI) :: (C, oC) :: (Da, lstO ys) :: ns) (eval elt (compEnvC scope cl C env)) (TurnD ((I, oI) :: (C, oC) :: (Da, lstO ys) :: ns) [bd] (fun all => DbIs w all bd (DD (i + 1))) rd))
    (fin : ∀ ys ns, Ext [] [bd] n ns → DbObj ns bx bd → DbIs w ns bd (DD src.length) → DatAll ns ys (List.replicate src.length rd) → f ys ns) : CF w c l env elt x scope cl f (.ref ax) n := fun s1 q =>
  CSrc.over1 bx bd src DD rd hrd ok.hh q.F q.N hax hv ho hdb hsz (fun i dd ns v ys I oI C oC Da m₂ h tk E' hi hD e1 ob db hbd hI hC hx F' N' =>
    wpAny_mono (turn (c.withE E') i dd ns v ys I oI C oC Da m₂ (ok.withE E') hi hD e1 ob db hbd hC hx _ ⟨F', N', q.g, q.d, q.o⟩) (fun y s2 ⟨all, t, q2⟩ => t.end q q2) fun _ _ e => e) fin
end
end
section
/-- the four cells of a deed, the pool, what stood before -/
structure DF (news : Led) (pa a1 a2 a3 a4 : Addr) (o1 o2 o3 o4 : Obj) (n : Led) : Prop where
  ext : Ext [pa] [] news n
  k1 : (a1, o1) ∈ n
  k2 : (a2, o2) ∈ n
  k3 : (a3, o3) ∈ n
  k4 : (a4, o4) ∈ n
  pool : PoolIs n pa
section
variable {news n n' : Led} {pa a1 a2 a3 a4 : Addr} {o1 o2 o3 o4 : Obj} {c : Cx}
theorem DF.draw (h : DF news pa a1 a2 a3 a4 o1 o2 o3 o4 n) (na : a1 ≠ pa ∧ a2 ≠ pa ∧ a3 ≠ pa ∧ a4 ≠ pa) (e : Ext [pa] [] n n') (p : PoolIs n' pa) : DF news pa a1 a2 a3 a4 o1 o2 o3 o4 n' :=
  ⟨h.ext.trans e, e.kept _ h.k1 (not_mem1 na.1) List.not_mem_nil, e.kept _ h.k2 (not_mem1 na.2.1) List.not_mem_nil, e.kept _ h.k3 (not_mem1 na.2.2.1) List.not_mem_nil, e.kept _ h.k4 (not_mem1 na.2.2.2) List.not_mem_nil, p⟩
theorem DF.sub (h : DF news pa a1 a2 a3 a4 o1 o2 o3 o4 n) (hs : ∀ p ∈ n, p ∈ n') : DF news pa a1 a2 a3 a4 o1 o2 o3 o4 n' :=
  ⟨Ext.mid h.ext (fun _ h => h) hs, hs _ h.k1, hs _ h.k2, hs _ h.k3, hs _ h.k4, PoolIs.sub hs h.pool⟩
theorem real_fun {a : Addr} {o o' : Obj} (r : Real c n) (h : (a, o) ∈ n) (h' : (a, o') ∈ n) : o = o' := by
  obtain ⟨h0, N⟩ := r
  exact Option.some.inj ((N.get h).symm.trans (N.get h'))
theorem cell_away {a b : Addr} {o o' : Obj} {v : Option Value} (r : Real c n) (h : (a, o) ∈ n) (hd : o.data = .cell v) (h' : (b, o') ∈ n) (hd' : ∀ v, o'.data ≠ .cell v) : b ≠ a := by
  rintro rfl
  have := real_fun r h h'
  subst this
  exact hd' _ hd
/-- a cell is stored into: the others stay -/
theorem store_tup {a : Addr} {o o' : Obj} {v : Option Value} (r : Real c n) (h : (a, o) ∈ n) (hd : o.data = .cell v) {v' : Value} {d : Dat} (hD : DatIn n v' d) (hl : noList d = true) : DatIn ((a, o') :: n.filter fun p => decide (p.1 ≠ a)) v' d := by
  refine DatIn.upO ?_ hl hD
  rintro ⟨b, ob⟩ hp ⟨vs, k, rfl⟩
  exact .tail _ (List.mem_filter.mpr ⟨hp, decide_eq_true (cell_away r h hd hp fun v e => nomatch e)⟩)
theorem store_ext {a : Addr} {o o' : Obj} {v : Option Value} {P W : List Addr} (r : Real c n) (h : (a, o) ∈ n) (hd : o.data = .cell v) (e : Ext P W news n) (hf : ∀ p ∈ news, p.1 ≠ a) : Ext P W news ((a, o') :: n.filter fun p => decide (p.1 ≠ a)) := by
  obtain ⟨h0, N⟩ := id r
  refine Ext.tail (Ext.off N e (fun p hp => hp) (fun p hp o => decide_eq_true (hf p hp)) ?_)
  rintro ⟨b, ob⟩ hp ⟨vs, k, rfl⟩
  exact List.mem_filter.mpr ⟨hp, decide_eq_true (cell_away r h hd hp fun v e => nomatch e)⟩
theorem store_pool {a : Addr} {o o' : Obj} {v : Option Value} (r : Real c n) (h : (a, o) ∈ n) (hd : o.data = .cell v) (p : PoolIs n pa) : PoolIs ((a, o') :: n.filter fun p => decide (p.1 ≠ a)) pa := by
  obtain ⟨la, vs, ns, c', t, n1, n2, hp1, hp2, hp3⟩ := p
  exact ⟨la, vs, ns, c', t, n1, n2, .tail _ (List.mem_filter.mpr ⟨hp1, decide_eq_true (cell_away r h hd hp1 fun v e => nomatch e)⟩), .tail _ (List.mem_filter.mpr ⟨hp2, decide_eq_true (cell_away r h hd hp2 fun v e => nomatch e)⟩), hp3⟩
theorem DF.st1 {o' : Obj} {v : Option Value} (h : DF news pa a1 a2 a3 a4 o1 o2 o3 o4 n) (r : Real c n) (hd : o1.data = .cell v) (hf : ∀ p ∈ news, p.1 ≠ a1) (h2 : a2 ≠ a1) (h3 : a3 ≠ a1) (h4 : a4 ≠ a1) : DF news pa a1 a2 a3 a4 o' o2 o3 o4 ((a1, o') :: n.filter fun p => decide (p.1 ≠ a1)) :=
  ⟨store_ext r h.k1 hd h.ext hf, .head _, .tail _ (List.mem_filter.mpr ⟨h.k2, decide_eq_true h2⟩), .tail _ (List.mem_filter.mpr ⟨h.k3, decide_eq_true h3⟩), .tail _ (List.mem_filter.mpr ⟨h.k4, decide_eq_true h4⟩), store_pool r h.k1 hd h.pool⟩
theorem DF.st2 {o' : Obj} {v : Option Value} (h : DF news pa a1 a2 a3 a4 o1 o2 o3 o4 n) (r : Real c n) (hd : o2.data = .cell v) (hf : ∀ p ∈ news, p.1 ≠ a2) (h1 : a1 ≠ a2) (h3 : a3 ≠ a2) (h4 : a4 ≠ a2) : DF news pa a1 a2 a3 a4 o1 o' o3 o4 ((a2, o') :: n.filter fun p => decide (p.1 ≠ a2)) :=
  ⟨store_ext r h.k2 hd h.ext hf, .tail _ (List.mem_filter.mpr ⟨h.k1, decide_eq_true h1⟩), .head _, .tail _ (List.mem_filter.mpr ⟨h.k3, decide_eq_true h3⟩), .tail _ (List.mem_filter.mpr ⟨h.k4, decide_eq_true h4⟩), store_pool r h.k2 hd h.pool⟩
end
theorem GS.any {w : World} {c : Cx} {l : Loc} {n : Led} {t : Sem Flow} {f : Flow → Loc → Led → Prop} (P : Led → Prop) (hP : P n) (h : ∀ Z, P Z → GS w c l Z t f) : GS w c l n t f := h n hP
theorem G.any {α : Type} {w : World} {c : Cx} {l : Loc} {n : Led} {t : Sem α} {f : α → Led → Prop} (P : Led → Prop) (hP : P n) (h : ∀ Z, P Z → G w c l Z t f) : G w c l n t f := h n hP
theorem cells4 {L : Nat} : L + 1 + 1 + 1 ≠ L + 1 + 1 + 1 + 1 ∧ L + 1 + 1 ≠ L + 1 + 1 + 1 + 1 ∧ L + 1 ≠ L + 1 + 1 + 1 + 1 ∧ L + 1 + 1 ≠ L + 1 + 1 + 1 ∧ L + 1 ≠ L + 1 + 1 + 1 := by omega
theorem g_first {w : World} {c : Cx} {l : Loc} {n : Led} {a : Addr} {us : List Value} {nn : Nat} {x : Value} {u : Tok} {v i : PySem.Expr} {f : Value → Led → Prop} (hm : (a, W.listOf (x :: us).toArray nn) ∈ n) (hs : subscripted i false (.ref a) (.int 0 u) = operate [.ref a, .int 0 u] (getItem (.ref a) (.int 0 u))) (h : f x n) : G w c l n (subscriptTail v i (.ref a) (.int 0 u)) f :=
  g_litem hm (by decide) (by decide) rfl hs h
theorem DeedP.put {w : World} {news n n' : Led} {pa : Addr} {init : List Base} {last : Base} {l : Lsa} {late now q : Int} {D0 : List Rw} {r : Value} {c : Cx} (T : TabIs news) (N : Real c news) (hP : PoolIs news pa) (S : Stand w news (init ++ [last])) (e : Ext [pa] (dsOf (init ++ [last])) news n) (pl : PoolIs n pa) (p : PutP w n init last l late now r n') (R : Rel (init.map (Base.upd fun b => putRow b.D (l, now))) (Base.upd (fun b => putRow b.D (l.aged late, now)) last) D0 late now (q + 1)) : DeedP w news pa init last late now q r n' := by
  obtain ⟨h, N⟩ := N
  obtain ⟨e2, st, rfl⟩ := p
  obtain ⟨_, _, _, _, _, _, _, hp, _⟩ := id hP
  exact DeedP.of T N ⟨_, _, hp⟩ S (Ext.step e e2 (fun _ h => nomatch h) fun _ h => h) (PoolIs.ext e2 pl) st R
theorem draw_menu {n n' : Led} {pa Dm : Addr} {us : List Value} {nn : Nat} (hD : ∀ p ∈ n, p.1 < Dm) (hP : PoolIs n pa) (hm : (Dm, W.listOf us.toArray nn) ∈ (Dm, W.listOf us.toArray nn) :: n) (e : Ext [pa] [] ((Dm, W.listOf us.toArray nn) :: n) n') : (Dm, W.listOf us.toArray nn) ∈ n' := by
  refine e.lst _ hm rfl (not_mem1 ?_)
  obtain ⟨_, _, _, _, _, _, _, hp, _⟩ := hP
  exact (Nat.ne_of_lt (hD _ hp)).symm
theorem nd_of {w : World} {news : Led} {bs : List Base} {a : Addr} (hS : Stand w news bs) (hf : ∀ p ∈ news, p.1 ≠ a) : a ∉ dsOf bs := fun hm => by
  obtain ⟨b, hb, rfl⟩ := List.mem_map.mp hm
  obtain ⟨xs, m, hx, _⟩ := (hS b hb).2
  exact hf _ hx rfl
theorem gk_cell {w : World} {c : Cx} {l : Loc} {n : Led} {env : Env} {pos : Pos} {scope : Scope} {cl : List (Str × Addr)} {C : Addr} {x : Str} {f : Value → Led → Prop} {v : Value} {cc : Addr} {o : Obj} (hc : cl.lookup x = some cc) (hm : (cc, o) ∈ n) (hd : o.data = .cell (some v)) (hk : (compEnvC scope cl C env).scope.kind = .function) (hx : (compEnvC scope cl C env).kindOf x = some .cell) (hb : (x == ("__debug__" : Str)) = false) (h : f v n) : G w c l n (eval (.Name x pos) (compEnvC scope cl C env)) f :=
  fun _ at_ => lcf_cell at_.N hc hm hd ⟨n, h, at_⟩ hk hx hb
theorem DeedP.mut {w : World} {news n : Led} {pa : Addr} {init : List Base} {last : Base} {late now q : Int} {D0 : List Rw} {g : Base → List Rw} {c : Cx} (T : TabIs news) (N : Real c news) (hP : PoolIs news pa) (S : Stand w news (init ++ [last])) (e : Ext [pa] (dsOf (init ++ [last])) news n) (pl : PoolIs n pa) (S' : Stand w n ((init ++ [last]).map (Base.upd g))) (R : Rel (init.map (Base.upd g)) (Base.upd g last) D0 late now (q + 1)) : DeedP w news pa init last late now q (.bool true) n := by
  obtain ⟨h, N⟩ := N
  obtain ⟨_, _, _, _, _, _, _, hp, _⟩ := id hP
  rw [List.map_append] at S'
  exact DeedP.of T N ⟨_, _, hp⟩ S e pl S' R
end
section
example : True := by
  k_with_none
  k_with "memp" => first | (with_reducible exact List.mem_cons_self) | ((with_reducible refine List.mem_cons_of_mem _ ?_); k_extra "memp") | ((with_reducible refine List.mem_append_right _ ?_); k_extra "memp") | fail "no"
  k_with "sub" => first | with_reducible exact fun _ h => h | with_reducible assumption | ((with_reducible refine fun p h => List.mem_cons_of_mem _ ?_); revert p h; k_extra "sub") | ((with_reducible refine fun p h => List.mem_append_right _ ?_); revert p h; k_extra "sub") | ((with_reducible refine' sub_chain ?sh ?sk); (case sh => with_reducible assumption); (case sk => k_extra "sub")) | fail "no"
  k_with "memq" => first | with_reducible assumption | (refine' mem_upK ?hmq ?smq; (case hmq => with_reducible assumption); (case smq => k_extra "sub")) | k_extra "memp" | fail "no"
  k_with "lk" => first | exact rfl | with_reducible assumption | (refine' lk_skip rfl ?_; k_extra "lk") | fail "no"
  k_with "g1" => first
    | ((with_reducible refine' g_name ?gv ?ga ?gb ?gc ?_); (case ga => exact rfl); (case gb => exact rfl); (case gc => exact rfl); (case gv => k_extra "lk"))
    | ((with_reducible refine' g_cell ?gx ?gm ?gd ?ga ?gb ?gc ?_); (case ga => exact rfl); (case gb => exact rfl); (case gc => exact rfl); (case gx => exact rfl); (case gm => k_extra "memq"); (case gd => with_reducible assumption))
    | ((with_reducible refine' g_int ?_); intro tk)
    | (with_reducible refine' g_none ?_) | (with_reducible refine' g_bool ?_) | ((with_reducible refine' g_str ?_); intro tk)
    | ((with_reducible refine' g_glob ?go ?gv ?ga ?gb ?gc ?_); (case go => assumption); (case ga => exact rfl); (case gb => exact rfl); (case gc => exact rfl); (case gv => k_is))
    | ((with_reducible refine' g_built ?go ?gv ?gw ?gx ?ga ?gb ?gc ?_); (case go => assumption); (case ga => exact rfl); (case gb => exact rfl); (case gc => exact rfl); (case gv => k_is); (case gw => boot_fast); (case gx => decide))
    | ((with_reducible refine' gk_own ?gm ?gC ?gx ?ga ?gb ?gc ?_); (case ga => exact rfl); (case gb => exact rfl); (case gc => exact rfl); (case gC => with_reducible assumption); (case gx => with_reducible assumption); (case gm => k_extra "memq"))
    | ((with_reducible refine' gk_glob ?go ?gv ?gg ?ga ?gb ?gc ?_); (case go => assumption); (case gg => exact rfl); (case ga => exact rfl); (case gb => exact rfl); (case gc => exact rfl); (case gv => k_is))
    | ((with_reducible refine' gk_cell ?gx ?gm ?gd ?ga ?gb ?gc ?_); (case ga => exact rfl); (case gb => exact rfl); (case gc => exact rfl); (case gx => exact rfl); (case gm => k_extra "memq"); (case gd => with_reducible assumption))
    | ((with_reducible refine' gk_free ?gx ?gm ?gd ?ga ?gb ?gc ?ge ?_); (case ga => exact rfl); (case gb => exact rfl); (case gc => exact rfl); (case ge => exact rfl); (case gx => exact rfl); (case gm => k_extra "memq"); (case gd => with_reducible assumption))
    | (with_reducible refine' ga_nil ?_) | ((with_reducible refine' ga_cons ?ga ?_); (case ga => exact rfl))
    | ((with_reducible refine' g_meth ?ga ?_); (case ga => with_unfolding_all rfl))
    | ((with_reducible refine' g_call ?ga ?_); (case ga => with_unfolding_all rfl))
    | ((with_reducible refine' g_rest ?gs ?_); (case gs => (intro _ _; with_unfolding_all rfl)))
    | ((with_reducible refine' g_init ?gs ?_); (case gs => (intro _ _; with_unfolding_all rfl)))
    | ((with_reducible refine' g_one ?gs ?_); (case gs => (intro _ _; with_unfolding_all rfl)))
    | (with_reducible refine' g_subs ?_) | (with_reducible refine' g_bin ?_) | (with_reducible refine' g_tuple ?_) | (with_reducible refine' g_list ?_) | (with_reducible refine' g_un ?_) | (with_reducible refine' g_ifexp ?_)
    | ((with_reducible refine' g_callB ?ga ?gb ?_); (case ga => exact rfl); (case gb => exact rfl)) | ((with_reducible refine' g_callW ?go ?gv ?ga ?gb ?_); (case go => assumption); (case gv => k_is); (case ga => exact rfl); (case gb => exact rfl)) | ((with_reducible refine' g_callW0 ?go ?gv ?_); (case go => assumption); (case gv => k_is))
    | ((with_reducible refine' g_dbmeth ?gk ?go ?g1 ?g2 ?g3 ?g4 ?_); (case gk => assumption); (case go => with_reducible assumption); (case g1 => k_is); (case g2 => k_is); (case g3 => k_is); (case g4 => (intro _ _; k_get)))
    | ((with_reducible refine' g_attr ?ga ?_); (case ga => with_unfolding_all rfl))
    | ((with_reducible refine' g_rowsattr ?gk ?go ?g1 ?g2 ?g3 ?g4 ?g5 ?g6 ?_); (case gk => assumption); (case go => with_reducible assumption); (case g1 => k_is); (case g2 => k_is); (case g3 => k_is); (case g4 => k_is); (case g5 => (intro _ _; k_get)); (case g6 => k_handed))
    | (with_reducible refine' gc_is_nn ?_) | (with_reducible refine' gc_is_in ?_) | (with_reducible refine' gc_isnot_in ?_) | (with_reducible refine' gc_isnot_nn ?_) | (with_reducible refine' gc_is_rn ?_) | (with_reducible refine' gc_isnot_rn ?_)
    | (with_reducible refine' conj_t ?_) | (with_reducible refine' conj_f ?_)
    | (with_reducible refine' gs_nil ?_) | (with_reducible refine' thenF_next ?_) | (with_reducible refine' gs_ret ?_) | ((with_reducible refine' gs_assign ?ga ?gb ?gc ?_); (case ga => exact rfl); (case gb => exact rfl); (case gc => exact rfl))
    | ((with_reducible refine' gb_cmp ?ga ?_); (case ga => exact rfl)) | (with_reducible refine' gt_bool ?_) | (with_reducible refine' gb_and ?_) | (with_reducible refine' gb_and0 ?_) | (with_reducible refine' gb_or ?_) | (with_reducible refine' gb_or0 ?_) | (with_reducible refine' gb_not ?_)
    | ((with_reducible refine' g_cmp ?ga ?_); (case ga => exact rfl)) | (with_reducible refine' g_and ?_)
    | (with_reducible refine' gc_lt ?_) | (with_reducible refine' gc_le ?_) | (with_reducible refine' gc_gt ?_) | (with_reducible refine' gc_ge ?_) | (with_reducible refine' gc_eq ?_) | (with_reducible refine' gc_ne ?_)
    | ((with_reducible refine' g_add ?_); intro tk) | ((with_reducible refine' g_sub ?_); intro tk) | ((with_reducible refine' g_neg ?_); intro tk) | ((with_reducible refine' g_min ?go ?_); (case go => assumption); intro tk)
    | ((with_reducible refine' And.intro ?gz ?_); (case gz => exact Nat.le_of_ble_eq_true rfl); intro D' hD' n9')
    | ((with_reducible refine' g_cat ?gm ?gn ?gz ?_); (case gm => k_extra "memq"); (case gn => k_extra "memq"); (case gz => exact Nat.le_of_ble_eq_true rfl); intro D' hD' n9')
    | ((with_reducible refine' g_tup ?gm ?g0 ?gf ?gv ?gs ?_); (case gm => k_extra "memq"); (case g0 => decide); (case gf => decide); (case gv => exact rfl); (case gs => with_unfolding_all rfl))
    | fail "no"
  k_with "gi" => first | k_extra "g1" | (with_reducible refine' gs_if1 ?_) | (with_reducible refine' gs_if ?_) | fail "no"
  k_with "glc" => first
    | ((with_reducible refine' g_lc ?lb ?lc ?ld ?le ?lf ?li ?_); (case lb => with_unfolding_all rfl); (case lc => decide); (case ld => exact rfl); (case le => decide); (case lf => exact rfl); (case li => exact fun _ => rfl))
    | ((with_reducible refine' gs_lc ?la ?lb ?lc ?ld ?le ?lf ?lg ?lh ?li ?_); (case la => with_unfolding_all rfl); (case lb => with_unfolding_all rfl); (case lc => decide); (case ld => exact rfl); (case le => decide); (case lf => exact rfl); (case lg => exact rfl); (case lh => exact rfl); (case li => exact fun _ => rfl))
    | fail "no"
  trivial
theorem next_seq_c (w : World) (news : Led) (s : Int) (u : Tok) (hs : s < 2147483647) : Ctr PR w (hd.heap_39 w.params) 21 1 30 [.int s u] news (PureD news (.int (s + 1))) := by
  refine' Ctr.start (D := 0) (U := 20) (binds := [(Str.ofString "seq", .int s u)]) ?ho ?hcd ?hb ?hl ?c1 ?c2 ?c3 ?c4 ?d ?u rfl ?body
  case ho => k_is
  case hcd => k_is
  case hb => exact fun s X => BindsTo.of_eq rfl
  case hl => exact locs rfl
  case c1 => exact rfl
  case c2 => exact rfl
  case c3 => exact rfl
  case c4 => decide
  case d => decide
  case u => decide
  intro c ok pe
  repeat' (k_extra "g1")
  refine' ⟨fun e => absurd (of_decide_eq_true e) (by omega), fun _ => ?_⟩
  repeat' (k_extra "g1")
  exact ⟨List.suffix_refl _, dat_int rfl⟩
end
section
example : True := by
  k_with_none
  trivial
/-- a lambda's call -/
theorem Ctr.startL {w : World} {K : Frag} {f c' : Addr} {d u D U : Nat} {vs : List Value} {news : Led} {Post : Value → Led → Prop} {name qual : Str} {params : Arguments} {body : PySem.Expr} {scope : Scope} {cl : List (Str × Addr)} {pm ctv : Value} {binds l₀ : List (Str × Value)} {oc : Obj} {fs : Array Value} {t : Tok}
    (ho : (f, kla_obj name qual params body scope cl pm c' ctv) ∈ news) (hc : (c', oc) ∈ news) (hfd : oc.data = .fields fs) (hv : fs[1]? = some (.str qual t)) (hbind : bindArgs (kla_fn name qual params body scope cl pm (.ref c') ctv) ⟨vs, []⟩ = pure binds) (hloc : ∀ y ∈ binds, scope.names.lookup y.1 = some .local)
    (hco : scope.isCoroutine = false) (hgen : scope.isGenerator = false) (hk : scope.kind = .function) (hcell : ∀ x ∈ scope.names, x.2 ≠ .cell) (hd : D + 1 ≤ d) (hu : U + 3 ≤ u) (hl0 : binds.reverse = l₀)
    (hb : ∀ c : Cx, Ok w K c D U → G w c l₀ news (eval body (envX qual scope c.L f (.ref c') cl)) Post) : Ctr PR w K f d u vs news Post := by
  subst hl0
  unfold Ctr
  intro p loose mean mg mb dp un gd cn cs a ccd cl0 outer A₀ base h₀ L m s Q E B F X N T hks hdp hun ret
  refine wpAny_call (kla_code B F X N T rfl rfl hks ho (codeRec_news N hc hfd hv) ?room hbind hloc ?_ hco hgen hk hcell)
  case room => show dp < recursionLimit; omega
  intro g L' h₁ FG F' N' B' X' T'
  have ok : ∀ Eo, Ok w K ⟨(ktrTop dp un gd cn cs L a ccd cl0 outer).deeper (envX qual scope L' f (.ref c') cl), g, L', s, Eo⟩ D U := by
    intro Eo
    refine ⟨X', ⟨_, _, _, _, _, T'⟩, ?_, rfl, ?_, ?_⟩
    · intro _ f' d' u' vs' n' l' Post' C hd' hu' fp hfp s1 a1
      exact Ctr.use (cn := qual) (cs := scope) (a := f) (ccd := .ref c') (cl := cl) C B' a1.F X' a1.N T' hk (by show dp + 1 + d' < _; omega) (by show un + 3 + u' < _; omega) (fun r news' h' tk' F2 N2 P2 => ⟨news', hfp _ _ P2, F2, N2, a1.g, a1.d, a1.o⟩)
    · show un + 3 + U < _; omega
    · show dp + 1 + D < _; omega
  refine wpAny_mono (hb _ (ok _) _ ⟨F', N', rfl, rfl, rfl⟩) ?_ (fun _ _ e => e)
  rintro v s' ⟨n', hp, a'⟩
  refine leaveK_ a'.F a'.N fun kF kN => ?_
  have e := a'.eta rfl
  have q := ret v n' s'.heap s'.toks kF kN hp
  rw [← e] at q
  exact q
section
variable {w : World} {c : Cx} {l : Loc} {n : Led} {K : Frag} {env : Env} {D U : Nat} {pos px : Pos} {elt iter : PySem.Expr} {x : Str} {scope : Scope} {cl : List (Str × Addr)}
theorem cf_mut2 {f : List Value → Led → Prop} {ax : Addr} {k : Nat} (ok : Ok w K c D U) (src : List Base) (g : Base → List Rw) (rd : Base → Dat) (hax : (ax, W.listOf (refs src).toArray k) ∈ n) (hS : Stand w n src) (hA : Apart src) (hT : TabIs n) (h170 : ∀ b ∈ src, b.d ≠ 170) (hsz : src.length ≤ sizeLine)
    (turn : ∀ (c' : Cx) ns b ys I oI C oC Da m₂, Ok w K c' D U → b ∈ src → Ext [] (dsOf src ++ [170]) n ns → DbObj ns b.x b.d → DbIs w ns b.d b.D → TabIs ns → (∀ p ∈ ns, p.1 ≠ I ∧ p.1 ≠ C ∧ p.1 ≠ Da) → LCg.NsObj oC m₂ → m₂ x = some (.ref b.x) →
      G w c' l ((I, oI) :: (C, oC) :: (Da, lstO ys) :: ns) (eval elt (compEnvC scope cl C env)) fun y all => Real c all → TurnD ((I, oI) :: (C, oC) :: (Da, lstO ys) :: ns) [b.d, 170] (fun all => DbIs w all b.d (g b) ∧ TabIs (all.filter fun p => decide (p.1 ≠ I ∧ p.1 ≠ C ∧ p.1 ≠ Da))) (rd b) y all)
    (fin : ∀ ys ns, Ext [] (dsOf src ++ [170]) n ns → Stand w ns (src.map (Base.upd g)) → DatAll ns ys (src.map rd) → TabIs ns → f ys ns) : CF w c l env elt x scope cl f (.ref ax) n := fun s1 q =>
  CSrc.mut2 src g rd ok.hh q.F q.N hax hS hA hT h170 hsz (fun ns b ys I oI C oC Da m₂ h tk E' hb e1 ob db T1 _ off hI hC hx F' N' =>
    wpAny_mono (turn (c.withE E') ns b ys I oI C oC Da m₂ (ok.withE E') hb e1 ob db T1 off hC hx _ ⟨F', N', q.g, q.d, q.o⟩) (fun y s2 ⟨all, t, q2⟩ => (t ⟨_, q2.N⟩).end q q2) fun _ _ e => e) fun ys ns e S d T _ => fin ys ns e S d T
theorem g_lam {params : Arguments} {body : PySem.Expr} {clos : List (Str × Addr)} {base : Led} {f' : Value → Led → Prop} (ok : Ok w (hd.heap_39 w.params) c D U) (hb : ∀ p ∈ base, p ∈ n) (TI : TabIs base) (hcd : env.code = .ref 172) (hge : env.globals = mainGlobals) (hq : env.qual ++ "<lambda>" = lamQ) (hdef : defaultsOf params env = ([], [])) (hcl : closureFor scope env = pure clos)
    (h : ∀ f c' pm ctv oc vs t n', Ext [] [170] n n' → (170, tabObj #[rawInt 127, rawInt 28, .ref c']) ∈ n' → ((c', oc) ∈ base ∨ ∀ p ∈ n, p.1 ≠ c') → (f, kla_obj "<lambda>" lamQ params body scope clos pm c' ctv) ∈ n' → (c', oc) ∈ n' → oc.data = .fields vs → vs[1]? = some (.str lamQ t) → f' (.ref f) n') : G w c l n (eval (.Lambda params body scope ⟨127, 28, 127, 56⟩) env) f' := fun s at_ => by
  obtain ⟨p, lo, me, mg, mb, T⟩ := ok.T
  exact lam_any at_.F at_.N T (code_in ok.X) hb TI hcd hge hq hdef hcl fun f c' ctv oc vs t h' tk n' F' N' e a1 a2 a3 a4 a5 a6 => ⟨_, h f c' _ ctv oc vs t n' e a1 a2 a3 a4 a5 a6, at_.heap F' N'⟩
end
theorem g_freeN {w : World} {c : Cx} {l : Loc} {n : Led} {cn : Str} {cs : Scope} {a : Addr} {ccd : Value} {cl : List (Str × Addr)} {f : Value → Led → Prop} {x : Str} {pos : Pos} {v : Value} {cc : Addr} {o : Obj} (hx : List.lookup x cl = some cc) (hm : (cc, o) ∈ n) (hd : o.data = .cell (some v)) (hc : cs.kind = .function) (hk : (envX cn cs c.L a ccd cl).kindOf x = some .free) (hb : (x == Str.ofString "__debug__") = false) (hn : (x == ("__classdict__" : Str)) = false) (h : f v n) : G w c l n (eval (.Name x pos) (envX cn cs c.L a ccd cl)) f :=
  fun _ at_ => nameX_F at_.N hx hm hd ⟨n, h, at_⟩ hc hk hb hn
end
section
example : True := by
  k_with_none
  k_with "memp" => first | (with_reducible exact List.mem_cons_self) | ((with_reducible refine List.mem_cons_of_mem _ ?_); k_extra "memp") | ((with_reducible refine List.mem_append_right _ ?_); k_extra "memp") | fail "no"
  k_with "sub" => first | with_reducible exact fun _ h => h | with_reducible assumption | ((with_reducible refine fun p h => List.mem_cons_of_mem _ ?_); revert p h; k_extra "sub") | ((with_reducible refine fun p h => List.mem_append_right _ ?_); revert p h; k_extra "sub") | ((with_reducible refine' sub_chain ?sh ?sk); (case sh => with_reducible assumption); (case sk => k_extra "sub")) | fail "no"
  k_with "memq" => first | with_reducible assumption | (refine' mem_upK ?hmq ?smq; (case hmq => with_reducible assumption); (case smq => k_extra "sub")) | k_extra "memp" | fail "no"
  k_with "lk" => first | exact rfl | with_reducible assumption | (refine' lk_skip rfl ?_; k_extra "lk") | fail "no"
  k_with "g1" => first
    | ((with_reducible refine' g_name ?gv ?ga ?gb ?gc ?_); (case ga => exact rfl); (case gb => exact rfl); (case gc => exact rfl); (case gv => k_extra "lk"))
    | ((with_reducible refine' g_cell ?gx ?gm ?gd ?ga ?gb ?gc ?_); (case ga => exact rfl); (case gb => exact rfl); (case gc => exact rfl); (case gx => exact rfl); (case gm => k_extra "memq"); (case gd => with_reducible assumption))
    | ((with_reducible refine' g_int ?_); intro tk)
    | (with_reducible refine' g_none ?_) | (with_reducible refine' g_bool ?_) | ((with_reducible refine' g_str ?_); intro tk)
    | ((with_reducible refine' g_glob ?go ?gv ?ga ?gb ?gc ?_); (case go => assumption); (case ga => exact rfl); (case gb => exact rfl); (case gc => exact rfl); (case gv => k_is))
    | ((with_reducible refine' g_built ?go ?gv ?gw ?gx ?ga ?gb ?gc ?_); (case go => assumption); (case ga => exact rfl); (case gb => exact rfl); (case gc => exact rfl); (case gv => k_is); (case gw => boot_fast); (case gx => decide))
    | ((with_reducible refine' gk_own ?gm ?gC ?gx ?ga ?gb ?gc ?_); (case ga => exact rfl); (case gb => exact rfl); (case gc => exact rfl); (case gC => with_reducible assumption); (case gx => with_reducible assumption); (case gm => k_extra "memq"))
    | ((with_reducible refine' gk_glob ?go ?gv ?gg ?ga ?gb ?gc ?_); (case go => assumption); (case gg => exact rfl); (case ga => exact rfl); (case gb => exact rfl); (case gc => exact rfl); (case gv => k_is))
    | ((with_reducible refine' gk_cell ?gx ?gm ?gd ?ga ?gb ?gc ?_); (case ga => exact rfl); (case gb => exact rfl); (case gc => exact rfl); (case gx => exact rfl); (case gm => k_extra "memq"); (case gd => with_reducible assumption))
    | ((with_reducible refine' gk_free ?gx ?gm ?gd ?ga ?gb ?gc ?ge ?_); (case ga => exact rfl); (case gb => exact rfl); (case gc => exact rfl); (case ge => exact rfl); (case gx => exact rfl); (case gm => k_extra "memq"); (case gd => with_reducible assumption))
    | (with_reducible refine' ga_nil ?_) | ((with_reducible refine' ga_cons ?ga ?_); (case ga => exact rfl))
    | ((with_reducible refine' g_meth ?ga ?_); (case ga => with_unfolding_all rfl))
    | ((with_reducible refine' g_call ?ga ?_); (case ga => with_unfolding_all rfl))
    | ((with_reducible refine' g_rest ?gs ?_); (case gs => (intro _ _; with_unfolding_all rfl)))
    | ((with_reducible refine' g_init ?gs ?_); (case gs => (intro _ _; with_unfolding_all rfl)))
    | ((with_reducible refine' g_one ?gs ?_); (case gs => (intro _ _; with_unfolding_all rfl)))
    | (with_reducible refine' g_subs ?_) | (with_reducible refine' g_bin ?_) | (with_reducible refine' g_tuple ?_) | (with_reducible refine' g_list ?_) | (with_reducible refine' g_un ?_) | (with_reducible refine' g_ifexp ?_)
    | ((with_reducible refine' g_callB ?ga ?gb ?_); (case ga => exact rfl); (case gb => exact rfl)) | ((with_reducible refine' g_callW ?go ?gv ?ga ?gb ?_); (case go => assumption); (case gv => k_is); (case ga => exact rfl); (case gb => exact rfl)) | ((with_reducible refine' g_callW0 ?go ?gv ?_); (case go => assumption); (case gv => k_is))
    | ((with_reducible refine' g_dbmeth ?gk ?go ?g1 ?g2 ?g3 ?g4 ?_); (case gk => assumption); (case go => with_reducible assumption); (case g1 => k_is); (case g2 => k_is); (case g3 => k_is); (case g4 => (intro _ _; k_get)))
    | ((with_reducible refine' g_attr ?ga ?_); (case ga => with_unfolding_all rfl))
    | ((with_reducible refine' g_rowsattr ?gk ?go ?g1 ?g2 ?g3 ?g4 ?g5 ?g6 ?_); (case gk => assumption); (case go => with_reducible assumption); (case g1 => k_is); (case g2 => k_is); (case g3 => k_is); (case g4 => k_is); (case g5 => (intro _ _; k_get)); (case g6 => k_handed))
    | (with_reducible refine' gc_is_nn ?_) | (with_reducible refine' gc_is_in ?_) | (with_reducible refine' gc_isnot_in ?_) | (with_reducible refine' gc_isnot_nn ?_) | (with_reducible refine' gc_is_rn ?_) | (with_reducible refine' gc_isnot_rn ?_)
    | (with_reducible refine' conj_t ?_) | (with_reducible refine' conj_f ?_)
    | (with_reducible refine' gs_nil ?_) | (with_reducible refine' thenF_next ?_) | (with_reducible refine' gs_ret ?_) | ((with_reducible refine' gs_assign ?ga ?gb ?gc ?_); (case ga => exact rfl); (case gb => exact rfl); (case gc => exact rfl))
    | ((with_reducible refine' gb_cmp ?ga ?_); (case ga => exact rfl)) | (with_reducible refine' gt_bool ?_) | (with_reducible refine' gb_and ?_) | (with_reducible refine' gb_and0 ?_) | (with_reducible refine' gb_or ?_) | (with_reducible refine' gb_or0 ?_) | (with_reducible refine' gb_not ?_)
    | ((with_reducible refine' g_cmp ?ga ?_); (case ga => exact rfl)) | (with_reducible refine' g_and ?_)
    | (with_reducible refine' gc_lt ?_) | (with_reducible refine' gc_le ?_) | (with_reducible refine' gc_gt ?_) | (with_reducible refine' gc_ge ?_) | (with_reducible refine' gc_eq ?_) | (with_reducible refine' gc_ne ?_)
    | ((with_reducible refine' g_add ?_); intro tk) | ((with_reducible refine' g_sub ?_); intro tk) | ((with_reducible refine' g_neg ?_); intro tk) | ((with_reducible refine' g_min ?go ?_); (case go => assumption); intro tk)
    | ((with_reducible refine' And.intro ?gz ?_); (case gz => exact Nat.le_of_ble_eq_true rfl); intro D' hD' n9')
    | ((with_reducible refine' g_cat ?gm ?gn ?gz ?_); (case gm => k_extra "memq"); (case gn => k_extra "memq"); (case gz => exact Nat.le_of_ble_eq_true rfl); intro D' hD' n9')
    | ((with_reducible refine' g_tup ?gm ?g0 ?gf ?gv ?gs ?_); (case gm => k_extra "memq"); (case g0 => decide); (case gf => decide); (case gv => exact rfl); (case gs => with_unfolding_all rfl))
    | fail "no"
  k_with "gi" => first | k_extra "g1" | (with_reducible refine' gs_if1 ?_) | (with_reducible refine' gs_if ?_) | fail "no"
  k_with "glc" => first
    | ((with_reducible refine' g_lc ?lb ?lc ?ld ?le ?lf ?li ?_); (case lb => with_unfolding_all rfl); (case lc => decide); (case ld => exact rfl); (case le => decide); (case lf => exact rfl); (case li => exact fun _ => rfl))
    | ((with_reducible refine' gs_lc ?la ?lb ?lc ?ld ?le ?lf ?lg ?lh ?li ?_); (case la => with_unfolding_all rfl); (case lb => with_unfolding_all rfl); (case lc => decide); (case ld => exact rfl); (case le => decide); (case lf => exact rfl); (case lg => exact rfl); (case lh => exact rfl); (case li => exact fun _ => rfl))
    | fail "no"
  trivial
/-- the lambda tells by a key's middle -/
theorem tells_j {w : World} {news : Led} {f c' K ka : Addr} {pm ctv : Value} {oc oK : Obj} {vs : Array Value} {t : Tok} {k : Key} {params : Arguments} {body : PySem.Expr} {scope : Scope} {p1 p2 p3 p4 p5 p6 p7 p8 : Pos} {i1 i2 : Nat}
    (hP : params = { posonlyargs := [], args := [{ arg := Str.ofString "one", annotation := none, pos := p8 }], vararg := none, kwonlyargs := [], kw_defaults := [], kwarg := none, defaults := [] })
    (hB : body = .Compare (.Subscript (.Name (Str.ofString "one") p1) (.Constant (.int 1) i1 p2) p3) [.Eq] [.Subscript (.Name (Str.ofString "key") p4) (.Constant (.int 1) i2 p5) p6] p7)
    (hS : scope = { kind := .function, names := [(Str.ofString "one", .local), (Str.ofString "key", .free)], isGenerator := false, isCoroutine := false, more := [] })
    (hf : (f, kla_obj "<lambda>" lamQ params body scope [(Str.ofString "key", K)] pm c' ctv) ∈ news) (hc : (c', oc) ∈ news) (hd : oc.data = .fields vs) (hv : vs[1]? = some (.str lamQ t))
    (hK : (K, oK) ∈ news) (hKd : oK.data = .cell (some (.ref ka))) (hk : DatIn news (.ref ka) (keyD k)) : TellsBy w news f (fun j => j.1 == k.1) := by
  subst hP hB hS
  intro ns kv j hs hj
  have hf := hs _ hf
  have hc := hs _ hc
  have hK := hs _ hK
  have hk := DatIn.mono hs hk
  clear hs
  obtain ⟨a1, n1, t0, t1, t2, e1, hm1⟩ := keyD_open hj
  cases e1
  obtain ⟨a2, n2, u0, u1, u2, e2, hm2⟩ := keyD_open hk
  cases e2
  refine' Ctr.startL (D := 0) (U := 20) (binds := [(Str.ofString "one", .ref a1)]) hf hc hd hv ?hb ?hl ?c1 ?c2 ?c3 ?c4 ?d ?u rfl ?body
  case hb => exact rfl
  case hl => exact locs rfl
  case c1 => exact rfl
  case c2 => exact rfl
  case c3 => exact rfl
  case c4 => decide
  case d => decide
  case u => decide
  intro c ok
  repeat' (k_extra "g1")
  refine' g_freeN ?gx ?gm ?gd ?ga ?gb ?gc ?ge ?_
  case gx => exact rfl
  case ga => exact rfl
  case gb => exact rfl
  case gc => exact rfl
  case ge => exact rfl
  case gm => exact hK
  case gd => exact hKd
  repeat' (k_extra "g1")
  exact ⟨List.suffix_refl _, .bool _⟩
end
section
example : True := by
  k_with_none
  k_with "memp" => first | (with_reducible exact List.mem_cons_self) | ((with_reducible refine List.mem_cons_of_mem _ ?_); k_extra "memp") | ((with_reducible refine List.mem_append_right _ ?_); k_extra "memp") | fail "no"
  k_with "sub" => first | with_reducible exact fun _ h => h | with_reducible assumption | ((with_reducible refine fun p h => List.mem_cons_of_mem _ ?_); revert p h; k_extra "sub") | ((with_reducible refine fun p h => List.mem_append_right _ ?_); revert p h; k_extra "sub") | ((with_reducible refine' sub_chain ?sh ?sk); (case sh => with_reducible assumption); (case sk => k_extra "sub")) | fail "no"
  k_with "memq" => first | with_reducible assumption | (refine' mem_upK ?hmq ?smq; (case hmq => with_reducible assumption); (case smq => k_extra "sub")) | k_extra "memp" | fail "no"
  k_with "lk" => first | exact rfl | with_reducible assumption | (refine' lk_skip rfl ?_; k_extra "lk") | fail "no"
  k_with "g1" => first
    | ((with_reducible refine' g_name ?gv ?ga ?gb ?gc ?_); (case ga => exact rfl); (case gb => exact rfl); (case gc => exact rfl); (case gv => k_extra "lk"))
    | ((with_reducible refine' g_cell ?gx ?gm ?gd ?ga ?gb ?gc ?_); (case ga => exact rfl); (case gb => exact rfl); (case gc => exact rfl); (case gx => exact rfl); (case gm => k_extra "memq"); (case gd => with_reducible assumption))
    | ((with_reducible refine' g_int ?_); intro tk)
    | (with_reducible refine' g_none ?_) | (with_reducible refine' g_bool ?_) | ((with_reducible refine' g_str ?_); intro tk)
    | ((with_reducible refine' g_glob ?go ?gv ?ga ?gb ?gc ?_); (case go => assumption); (case ga => exact rfl); (case gb => exact rfl); (case gc => exact rfl); (case gv => k_is))
    | ((with_reducible refine' g_built ?go ?gv ?gw ?gx ?ga ?gb ?gc ?_); (case go => assumption); (case ga => exact rfl); (case gb => exact rfl); (case gc => exact rfl); (case gv => k_is); (case gw => boot_fast); (case gx => decide))
    | ((with_reducible refine' gk_own ?gm ?gC ?gx ?ga ?gb ?gc ?_); (case ga => exact rfl); (case gb => exact rfl); (case gc => exact rfl); (case gC => with_reducible assumption); (case gx => with_reducible assumption); (case gm => k_extra "memq"))
    | ((with_reducible refine' gk_glob ?go ?gv ?gg ?ga ?gb ?gc ?_); (case go => assumption); (case gg => exact rfl); (case ga => exact rfl); (case gb => exact rfl); (case gc => exact rfl); (case gv => k_is))
    | ((with_reducible refine' gk_cell ?gx ?gm ?gd ?ga ?gb ?gc ?_); (case ga => exact rfl); (case gb => exact rfl); (case gc => exact rfl); (case gx => exact rfl); (case gm => k_extra "memq"); (case gd => with_reducible assumption))
    | ((with_reducible refine' gk_free ?gx ?gm ?gd ?ga ?gb ?gc ?ge ?_); (case ga => exact rfl); (case gb => exact rfl); (case gc => exact rfl); (case ge => exact rfl); (case gx => exact rfl); (case gm => k_extra "memq"); (case gd => with_reducible assumption))
    | (with_reducible refine' ga_nil ?_) | ((with_reducible refine' ga_cons ?ga ?_); (case ga => exact rfl))
    | ((with_reducible refine' g_meth ?ga ?_); (case ga => with_unfolding_all rfl))
    | ((with_reducible refine' g_call ?ga ?_); (case ga => with_unfolding_all rfl))
    | ((with_reducible refine' g_rest ?gs ?_); (case gs => (intro _ _; with_unfolding_all rfl)))
    | ((with_reducible refine' g_init ?gs ?_); (case gs => (intro _ _; with_unfolding_all rfl)))
    | ((with_reducible refine' g_one ?gs ?_); (case gs => (intro _ _; with_unfolding_all rfl)))
    | (with_reducible refine' g_subs ?_) | (with_reducible refine' g_bin ?_) | (with_reducible refine' g_tuple ?_) | (with_reducible refine' g_list ?_) | (with_reducible refine' g_un ?_) | (with_reducible refine' g_ifexp ?_)
    | ((with_reducible refine' g_callB ?ga ?gb ?_); (case ga => exact rfl); (case gb => exact rfl)) | ((with_reducible refine' g_callW ?go ?gv ?ga ?gb ?_); (case go => assumption); (case gv => k_is); (case ga => exact rfl); (case gb => exact rfl)) | ((with_reducible refine' g_callW0 ?go ?gv ?_); (case go => assumption); (case gv => k_is))
    | ((with_reducible refine' g_dbmeth ?gk ?go ?g1 ?g2 ?g3 ?g4 ?_); (case gk => assumption); (case go => with_reducible assumption); (case g1 => k_is); (case g2 => k_is); (case g3 => k_is); (case g4 => (intro _ _; k_get)))
    | ((with_reducible refine' g_attr ?ga ?_); (case ga => with_unfolding_all rfl))
    | ((with_reducible refine' g_rowsattr ?gk ?go ?g1 ?g2 ?g3 ?g4 ?g5 ?g6 ?_); (case gk => assumption); (case go => with_reducible assumption); (case g1 => k_is); (case g2 => k_is); (case g3 => k_is); (case g4 => k_is); (case g5 => (intro _ _; k_get)); (case g6 => k_handed))
    | (with_reducible refine' gc_is_nn ?_) | (with_reducible refine' gc_is_in ?_) | (with_reducible refine' gc_isnot_in ?_) | (with_reducible refine' gc_isnot_nn ?_) | (with_reducible refine' gc_is_rn ?_) | (with_reducible refine' gc_isnot_rn ?_)
    | (with_reducible refine' conj_t ?_) | (with_reducible refine' conj_f ?_)
    | (with_reducible refine' gs_nil ?_) | (with_reducible refine' thenF_next ?_) | (with_reducible refine' gs_ret ?_) | ((with_reducible refine' gs_assign ?ga ?gb ?gc ?_); (case ga => exact rfl); (case gb => exact rfl); (case gc => exact rfl))
    | ((with_reducible refine' gb_cmp ?ga ?_); (case ga => exact rfl)) | (with_reducible refine' gt_bool ?_) | (with_reducible refine' gb_and ?_) | (with_reducible refine' gb_and0 ?_) | (with_reducible refine' gb_or ?_) | (with_reducible refine' gb_or0 ?_) | (with_reducible refine' gb_not ?_)
    | ((with_reducible refine' g_cmp ?ga ?_); (case ga => exact rfl)) | (with_reducible refine' g_and ?_)
    | (with_reducible refine' gc_lt ?_) | (with_reducible refine' gc_le ?_) | (with_reducible refine' gc_gt ?_) | (with_reducible refine' gc_ge ?_) | (with_reducible refine' gc_eq ?_) | (with_reducible refine' gc_ne ?_)
    | ((with_reducible refine' g_add ?_); intro tk) | ((with_reducible refine' g_sub ?_); intro tk) | ((with_reducible refine' g_neg ?_); intro tk) | ((with_reducible refine' g_min ?go ?_); (case go => assumption); intro tk)
    | ((with_reducible refine' And.intro ?gz ?_); (case gz => exact Nat.le_of_ble_eq_true rfl); intro D' hD' n9')
    | ((with_reducible refine' g_cat ?gm ?gn ?gz ?_); (case gm => k_extra "memq"); (case gn => k_extra "memq"); (case gz => exact Nat.le_of_ble_eq_true rfl); intro D' hD' n9')
    | ((with_reducible refine' g_tup ?gm ?g0 ?gf ?gv ?gs ?_); (case gm => k_extra "memq"); (case g0 => decide); (case gf => decide); (case gv => exact rfl); (case gs => with_unfolding_all rfl))
    | fail "no"
  k_with "gi" => first | k_extra "g1" | (with_reducible refine' gs_if1 ?_) | (with_reducible refine' gs_if ?_) | fail "no"
  k_with "glc" => first
    | ((with_reducible refine' g_lc ?lb ?lc ?ld ?le ?lf ?li ?_); (case lb => with_unfolding_all rfl); (case lc => decide); (case ld => exact rfl); (case le => decide); (case lf => exact rfl); (case li => exact fun _ => rfl))
    | ((with_reducible refine' gs_lc ?la ?lb ?lc ?ld ?le ?lf ?lg ?lh ?li ?_); (case la => with_unfolding_all rfl); (case lb => with_unfolding_all rfl); (case lc => decide); (case ld => exact rfl); (case le => decide); (case lf => exact rfl); (case lg => exact rfl); (case lh => exact rfl); (case li => exact fun _ => rfl))
    | fail "no"
  trivial
theorem deed_j (w : World) (news : Led) (pa la : Addr) (init : List Base) (last first : Base) (late form now : Int) (tl tf tn : Tok) (n : Nat)
    (hP : PoolIs news pa) (hla : (la, W.listOf (allR (first :: init) last).toArray n) ∈ news) (hlp : la ≠ pa) (hS : Stand w news (first :: init ++ [last])) (hA : Apart (first :: init ++ [last])) (h3 : (first :: init).length ≤ 2) (q : Int) (hR : Rel (first :: init) last first.D late now q) (h0 : 0 ≤ late) (h9 : late ≤ 900) (hq7 : 7 ≤ q) (hqm : q + 1 < 2147483647) (hTab : TabIs news) :
    Ctr PR w (hd.heap_39 w.params) 173 20 3000 [.ref pa, .ref la, .int late tl, .int form tf, .int now tn] news (DeedP w news pa (first :: init) last late now q) := by
  have hsame := hR.same
  have hr3 : (refs init).length ≤ 3 := by rw [refs_len]; exact Nat.le_trans (Nat.le_succ _) (Nat.le_trans h3 (by decide))
  have hla0 : (la, W.listOf (Value.ref first.x :: allR init last).toArray n) ∈ news := hla
  obtain ⟨ob, dbb⟩ := hS first (.head _)
  refine' Ctr.startC (D := 19) (U := 2900) (binds := [(Str.ofString "pool", .ref pa), (Str.ofString "bases", .ref la), (Str.ofString "late", .int late tl), (Str.ofString "form", .int form tf), (Str.ofString "now", .int now tn)]) ?ho ?hcd ?hb ?hl ?nd ?c1 ?c2 ?c3 ?d ?u ?l0 ?body
  case ho => k_is
  case hcd => k_is
  case hb => exact fun s X => BindsTo.of_eq rfl
  case hl => exact rfl
  case nd => decide +kernel
  case c1 => exact rfl
  case c2 => exact rfl
  case c3 => exact rfl
  case d => decide
  case u => decide
  case l0 => exact fun _ => rfl
  intro c ok pe cells Y lt
  have hY := CellsAre.four Y
  obtain ⟨o1, o2, o3, o4, hE, d1, d2, d3, d4⟩ := hY
  subst hE
  clear Y
  replace d4 : o4.data = .cell (some (.ref la)) := d4
  replace d3 : o3.data = .cell (some (.int now tn)) := d3
  replace d2 : o2.data = .cell none := d2
  replace d1 : o1.data = .cell none := d1
  refine' GS.real (fun rr => ?_)
  have RN : Real c news := by
    obtain ⟨h, N⟩ := rr
    exact ⟨h, News.less N fun p hp => List.mem_append_right _ hp⟩
  clear rr
  replace lt : ∀ p ∈ news, p.1 < c.L := lt
  show GS w c _ ((c.L + 1 + 1 + 1 + 1, o1) :: (c.L + 1 + 1 + 1, o2) :: (c.L + 1 + 1, o3) :: (c.L + 1, o4) :: news) _ _
  have hn : ∀ p ∈ news, p.1 ≠ c.L + 1 + 1 + 1 + 1 ∧ p.1 ≠ c.L + 1 + 1 + 1 ∧ p.1 ≠ c.L + 1 + 1 ∧ p.1 ≠ c.L + 1 := fun p hp => ne4 (lt p hp)
  have nd1 := nd_of hS fun p hp => (hn p hp).1
  have nd2 := nd_of hS fun p hp => (hn p hp).2.1
  have nd3 := nd_of hS fun p hp => (hn p hp).2.2.1
  have nd4 := nd_of hS fun p hp => (hn p hp).2.2.2
  have h170 : ∀ b ∈ first :: init ++ [last], b.d ≠ 170 := fun b hb e => by
    obtain ⟨h, N⟩ := RN
    obtain ⟨xs, m, hm, _⟩ := (hS b hb).2
    obtain ⟨ps, hp⟩ := hTab.obj
    rw [e] at hm
    have := (N.get hm).symm.trans (N.get hp)
    have e2 := congrArg Obj.cls (Option.some.inj this)
    exact nomatch e2
  have hsz3 : (first :: init ++ [last]).length ≤ 3 := by
    rw [List.length_append, List.length_singleton]
    exact Nat.succ_le_succ h3
  have hszL : (first :: init ++ [last]).length ≤ sizeLine := by rw [sizeLine_eq]; omega
  have hlaS : (la, W.listOf (refs (first :: init ++ [last])).toArray n) ∈ news := by rw [refs_snoc]; exact hla
  have inW : ∀ c, c ∈ dsOf (first :: init) → c ∈ dsOf (first :: init ++ [last]) := fun c hm => by rw [dsOf, List.map_append]; exact List.mem_append_left _ hm
  have inW7 : ∀ c, (∀ p ∈ news, p.1 ≠ c) → c ∉ dsOf (first :: init) ++ [170] := fun c hc hm => (List.mem_append.mp hm).elim (fun hm => nd_of hS hc (inW _ hm)) fun hm => by
    obtain ⟨ps, hp⟩ := hTab.obj
    exact hc _ hp (List.mem_singleton.mp hm).symm
  obtain ⟨na, nb⟩ : (c.L + 1 + 1 + 1 + 1 ≠ pa ∧ c.L + 1 + 1 + 1 ≠ pa ∧ c.L + 1 + 1 ≠ pa ∧ c.L + 1 ≠ pa) ∧ True := by
    obtain ⟨_, _, _, _, _, _, _, hp, _⟩ := id hP
    have q := hn _ hp
    exact ⟨⟨q.1.symm, q.2.1.symm, q.2.2.1.symm, q.2.2.2.symm⟩, trivial⟩
  refine' GS.any (DF news pa (c.L + 1 + 1 + 1 + 1) (c.L + 1 + 1 + 1) (c.L + 1 + 1) (c.L + 1) o1 o2 o3 o4) ⟨Ext.mid (Ext.refl _ _ news) (fun _ h => h) (fun p hp => .tail _ (.tail _ (.tail _ (.tail _ hp)))), .head _, .tail _ (.head _), .tail _ (.tail _ (.head _)), .tail _ (.tail _ (.tail _ (.head _))), PoolIs.sub (fun p hp => .tail _ (.tail _ (.tail _ (.tail _ hp)))) hP⟩ ?_
  intro Z H
  have K4 := H.k4
  repeat' (k_extra "g1")
  refine' g_first (H.ext.lst _ hla0 rfl (not_mem1 hlp)) ?hs ?_
  case hs => with_unfolding_all rfl
  repeat' (k_extra "g1")
  refine' gs_assignC ?ca ?cb ?cc ?cd ?_
  case ca => exact rfl
  case cb => exact rfl
  case cc => exact rfl
  case cd => with_unfolding_all rfl
  repeat' (k_extra "g1")
  refine' ok.can (drawn_c w Z pa 3 _ H.pool (by decide)) (by decide) (by decide) ?_
  rintro r1 Z1 ⟨e1, p1, v1, t1, rfl, v10, v11⟩
  have H1 := H.draw na e1 p1
  repeat' (k_extra "g1")
  refine' ok.can (drawn_c w Z1 pa 2 _ H1.pool (by decide)) (by decide) (by decide) ?_
  rintro r2 Z2 ⟨e2, p2, v2, t2, rfl, v20, v21⟩
  have H2 := H1.draw na e2 p2
  clear H1 H K4 e1 e2 p1 p2
  repeat' (k_extra "g1")
  refine' ⟨o1, none, .tail _ H2.k1, d1, ?_⟩
  intro o1' d1' r9 n10
  have H3 : DF news pa (c.L + 1 + 1 + 1 + 1) (c.L + 1 + 1 + 1) (c.L + 1 + 1) (c.L + 1) o1' o2 o3 o4 n10 := (H2.sub (fun p hp => .tail _ hp)).st1 r9 d1 (fun p hp => (hn p hp).1) cells4.1 cells4.2.1 cells4.2.2.1
  have dK : DatIn n10 (.ref D') (keyD (v1, 1 + v2)) := store_tup r9 (.tail _ H2.k1) d1 (.tuple (.head _) (.cons (.int _ _) (.cons (.int _ _) (.cons (.int _ _) .nil)))) rfl
  obtain ⟨k, hk, hkk⟩ : ∃ k, k ∈ allKeys ∧ k = (v1, 1 + v2) := ⟨_, key_in v10 v11 v20 v21, rfl⟩
  rw [← hkk] at dK
  clear H2 d1 o1 v10 v11 v20 v21 hkk r9 Z
  have S3 : Stand w n10 (first :: init ++ [last]) := hS.ext H3.ext (fun _ _ => List.not_mem_nil)
  obtain ⟨ob3, db3⟩ := S3 first (.head _)
  have K1 := H3.k1
  have K3 := H3.k3
  repeat' (k_extra "g1")
  refine' ok.can (look_c w n10 first.x first.d (.ref D') k first.D now tn ob3 db3 dK) (by decide) (by decide) ?_
  intro r4 Z4 P4
  have H4 := H3.sub (suf_sub P4.1)
  replace dK := DatIn.mono (suf_sub P4.1) dK
  have dH := P4.2
  clear P4 H3 S3 ob3 db3 K1 K3
  repeat' (k_extra "g1")
  have K1 := H4.k1
  have K3 := H4.k3
  have K4 := H4.k4
  refine' gs_if1 (G.mono (f := fun b n' => Z4 = n' ∧ (b = false → 2 ≤ form ∧ (form = 2 → (lookRow first.D k now).isSome = true))) ?test ?cont)
  case test =>
    repeat' (k_extra "g1")
    refine' ⟨fun e1 => ⟨rfl, fun h => nomatch h⟩, fun e1 => ?_⟩
    have f1 := of_decide_eq_false e1
    repeat' (k_extra "g1")
    refine' ⟨fun e2 => ?_, fun e2 => ?_⟩
    · cases hh : lookRow first.D k now with
      | none =>
        rw [hh] at dH
        cases dH
        repeat' (k_extra "g1")
        exact ⟨rfl, fun h => nomatch h⟩
      | some l =>
        rw [hh] at dH
        obtain ⟨a4, m4, v4, c4, rfl, _, _, _⟩ := lsaD_open dH
        repeat' (k_extra "g1")
        exact ⟨rfl, fun _ => ⟨by omega, fun _ => rfl⟩⟩
    · have f2 : form ≠ 2 := fun h => by simp [h] at e2
      repeat' (k_extra "g1")
      exact ⟨rfl, fun _ => ⟨by omega, fun h => absurd h f2⟩⟩
  case cont =>
    rintro b _ ⟨rfl, hb⟩
    refine' ⟨fun e => ?_, fun e => ?_⟩
    · clear hb
      repeat' (k_extra "g1")
      have H5 := H4.sub (n' := n9') (fun p hp => .tail _ hp)
      refine' ok.can (drawn_c w n9' pa 5 _ H5.pool (by decide)) (by decide) (by decide) ?_
      rintro r5 Z5 ⟨e5, p5, v5, t5, rfl, v50, v51⟩
      have m5 := draw_menu hD' H4.pool (.head _) e5
      have H6 := H5.draw na e5 p5
      have dK6 := e5.dat (DatIn.mono (news' := n9') (fun p hp => .tail _ hp) dK) rfl
      refine' g_menu m5 (menu_ok (by decide) (by decide) (by decide) (by decide) (by decide)) v50 v51 (Nat.le_of_ble_eq_true rfl) ?hs ?_
      case hs => with_unfolding_all rfl
      intro z tz z0 z1
      clear H4 H5 e5 p5 m5 v50 v51 dH K1 K3 K4 hD' dK
      have K1 := H6.k1
      have K3 := H6.k3
      have K4 := H6.k4
      obtain ⟨ka, kn, kt0, kt1, kt2, ek, hkm⟩ := keyD_open dK6
      cases ek
      repeat' (k_extra "g1")
      refine' g_cat ?m1 ?m2 ?m3 ?_
      case m1 => exact .tail _ (.head _)
      case m2 => exact .head _
      case m3 => exact Nat.le_of_ble_eq_true rfl
      intro D7 hD7 n7
      have dh7 : DatIn n7 (.ref D7) (headD ⟨z, k.1, k.2, 7, 0⟩) := .tuple (.head _) (.cons (.int _ _) (.cons (.int _ _) (.cons (.int _ _) (.cons (.int _ _) (.cons (.int _ _) (.cons (.int _ _) (.cons (.int _ _) .nil)))))))
      repeat' (k_extra "g1")
      have H7 := H6.sub (n' := n7) (fun p hp => .tail _ (.tail _ (.tail _ (.tail _ hp))))
      refine' ok.can (drawn_c w n7 pa 2 _ H7.pool (by decide)) (by decide) (by decide) ?_
      rintro r8 Z8 ⟨e8, p8, v8, t8, rfl, v80, v81⟩
      have H8 := H7.draw na e8 p8
      replace dh7 := e8.dat dh7 rfl
      clear H6 H7 e8 p8 K1 K3 K4 hkm dK6 hD'
      have K3 := H8.k3
      repeat' (k_extra "g1")
      have dl : DatIn n9' (.ref D') (lsaD ⟨z, k.1, k.2, 7, v8⟩) := .tuple (.head _) (.cons (DatIn.mono (fun p hp => .tail _ (.tail _ hp)) dh7) (.cons (.tuple (.tail _ (.head _)) (.cons (.str _ _) (.cons (.int _ _) (.cons (.int _ _) .nil)))) .nil))
      have H9 := H8.sub (n' := n9') (fun p hp => .tail _ (.tail _ hp))
      refine' ok.can (law_put_c w n9' la (first :: init) last _ ⟨z, k.1, k.2, 7, v8⟩ late now tl tn n _ (H9.ext.lst _ hla rfl (not_mem1 hlp)) (hS.ext H9.ext (fun _ _ => List.not_mem_nil)) hA h3 dl hk (put_hc hsame)) (by decide) (by decide) ?_
      intro r10 Z10 P10
      exact DeedP.put hTab RN hP hS (H9.ext.up fun _ h => nomatch h) H9.pool P10 (hR.put z1 (show (7 : Int) ≤ q + 1 by omega) z0 h0)
    · obtain ⟨f2, f3⟩ := hb e
      clear hb e
      k_extra "gi"
      repeat' (k_extra "g1")
      refine' ⟨fun e1 => ?_, fun e1 => ?_⟩
      · have f4 : form = 2 := eq_of_beq e1
        obtain ⟨l, hh⟩ := Option.isSome_iff_exists.mp (f3 f4)
        clear f3 f2 e1
        rw [hh] at dH
        have hls : l.seq ≤ q := look_seq (hR.fit first (.head _)) hh
        refine' gs_assignC ?ca ?cb ?cc ?cd ?_
        case ca => exact rfl
        case cb => exact rfl
        case cc => exact rfl
        case cd => with_unfolding_all rfl
        obtain ⟨a4, m4, v4, c4, rfl, x4, G4, C4⟩ := lsaD_open dH
        obtain ⟨b4, k4, u40, u41, u42, u43, u44, u45, u46, rfl, y4⟩ := headD_open G4
        obtain ⟨ka, kn, kt0, kt1, kt2, ek, hkm⟩ := keyD_open dK
        cases ek
        repeat' (k_extra "g1")
        refine' ok.can (next_seq_c w n9' l.seq u45 (by omega)) (by decide) (by decide) ?_
        intro r6 Z6 P6
        have e6 := P6.1
        obtain ⟨z6, rfl⟩ : ∃ z, r6 = .int (l.seq + 1) z := by cases P6.2; exact ⟨_, rfl⟩
        have hd6 := suf_sub e6 _ (show (D', tupO _ 0) ∈ n9' from .head _)
        have H6 := (H4.sub (n' := n9') fun p hp => .tail _ (.tail _ hp)).sub (suf_sub e6)
        have C6 := DatIn.mono (suf_sub e6) (DatIn.mono (news' := n9') (fun p hp => .tail _ (.tail _ hp)) C4)
        have x6 := suf_sub e6 _ (show _ ∈ n9' from .tail _ (.tail _ x4))
        clear H4 K1 K3 K4 P6
        repeat' (k_extra "g1")
        refine' g_cat ?m1 ?m2 ?m3 ?_
        case m1 => exact .tail _ hd6
        case m2 => exact .head _
        case m3 => exact Nat.le_of_ble_eq_true rfl
        intro D7 hD7 n7
        have dh7 : DatIn n7 (.ref D7) (headD ⟨0, k.1, k.2, l.seq + 1, l.c⟩) := .tuple (.head _) (.cons (.int _ _) (.cons (.int _ _) (.cons (.int _ _) (.cons (.int _ _) (.cons (.int _ _) (.cons (.int _ _) (.cons (.int _ _) .nil)))))))
        repeat' (k_extra "g1")
        have H8 := H6.sub (n' := n9') fun p hp => .tail _ (.tail _ (.tail _ hp))
        refine' ⟨o2, none, H8.k2, d2, ?_⟩
        intro o2' d2' r12 n12
        have dl := store_tup (o' := o2') (d := lsaD ⟨0, k.1, k.2, l.seq + 1, l.c⟩) r12 H8.k2 d2 (.tuple (.head _) (.cons (DatIn.mono (fun p hp => .tail _ hp) dh7) (.cons (DatIn.mono (fun p hp => .tail _ (.tail _ (.tail _ hp))) C6) .nil))) rfl
        have dk := store_tup (o' := o2') r12 H8.k2 d2 (DatIn.mono (news' := n9') (fun p hp => .tail _ (.tail _ (.tail _ (suf_sub e6 p (.tail _ (.tail _ hp)))))) dK) rfl
        have H9 : DF news pa (c.L + 1 + 1 + 1 + 1) (c.L + 1 + 1 + 1) (c.L + 1 + 1) (c.L + 1) o1' o2' o3 o4 n12 := H8.st2 r12 d2 (fun p hp => (hn p hp).2.1) cells4.1.symm cells4.2.2.2.1 cells4.2.2.2.2
        clear H8 H6 x6 C6 hd6 e6 r12 d2 dh7 dH dK x4 G4 C4 y4 hkm
        have K4 := H9.k4
        k_extra "glc"
        repeat' (k_extra "g1")
        refine' cf_mut ok (first :: init ++ [last]) (fun b => b.D) (fun b => headO (lookRow b.D k now)) (H9.ext.lst _ hlaS rfl (not_mem1 hlp)) (hS.ext H9.ext (fun _ _ => List.not_mem_nil)) hA hszL ?turn ?fin
        case turn =>
          intro c' ns b ys I oI C oC Da m₂ ok' hbm e1 ob dbb hbd hC hx
          have k1 := e1.kept _ H9.k1 List.not_mem_nil nd1
          have k3 := e1.kept _ H9.k3 List.not_mem_nil nd3
          obtain ⟨lb, hlb, hsq⟩ := hR.some hh b hbm
          have ob2 : DbObj ((I, oI) :: (C, oC) :: (Da, lstO ys) :: ns) b.x b.d := dbObj_sub (fun p hp => .tail _ (.tail _ (.tail _ hp))) ob
          repeat' (k_extra "g1")
          have dk2 := DatIn.mono (news' := (I, oI) :: (C, oC) :: (Da, lstO ys) :: ns) (fun p hp => .tail _ (.tail _ (.tail _ hp))) (e1.dat dk rfl)
          refine' ok'.can (look_s w _ b.x b.d _ k b.D lb now tn ob2 (DbIs.sub (fun p hp => .tail _ (.tail _ (.tail _ hp))) dbb) dk2 hlb) (by decide) (by decide) ?_
          intro r Z P
          have eP := P.1
          obtain ⟨g1, g2, g3, g4, rfl, g5, g6, _⟩ := lsaD_open P.2
          rw [hlb]
          repeat' (k_extra "g1")
          exact ⟨Ext.sub0 (suf_sub eP), DbIs.sub (suf_sub eP) (DbIs.sub (fun p hp => .tail _ (.tail _ (.tail _ hp))) dbb), g6, .inl rfl⟩
        case fin =>
          intro ys ns e1 S1 hY D2 hD2
          (try dsimp only)
          have K1 := e1.kept _ H9.k1 List.not_mem_nil nd1
          have K2 := e1.kept _ H9.k2 List.not_mem_nil nd2
          have K3 := e1.kept _ H9.k3 List.not_mem_nil nd3
          have K4 := e1.kept _ H9.k4 List.not_mem_nil nd4
          have dls := e1.dat dl rfl
          obtain ⟨ga, gn, gv, gc, ge, gm, GH, GC⟩ := lsaD_open dls
          cases ge
          obtain ⟨ha, hn1, w0, w1, w2, w3, w4, w5, w6, he, hm⟩ := headD_open GH
          cases he
          have hyl : ys.length ≤ 3 := by rw [datAll_len hY, List.length_map]; exact hsz3
          have hY2 : ∀ d ∈ (first :: init ++ [last]).map (fun b => headO (lookRow b.D k now)), ∃ lb : Lsa, d = headD lb ∧ lb.seq < l.seq + 1 := fun d hd => by
            obtain ⟨b, hb, rfl⟩ := List.mem_map.mp hd
            obtain ⟨lb, hlb, hsq⟩ := hR.some hh b hb
            exact ⟨lb, by rw [hlb]; rfl, by omega⟩
          obtain ⟨src, hsrc⟩ : ∃ src, (first :: init ++ [last]).map (fun b => headO (lookRow b.D k now)) = src := ⟨_, rfl⟩
          rw [hsrc] at hY hY2
          have hsl : src.length = ys.length := (datAll_len hY).symm
          have hsL : src.length ≤ sizeLine := by rw [sizeLine_eq]; omega
          rw [upd_id] at S1
          have eN : Ext [pa] (dsOf (first :: init ++ [last])) news ns := Ext.step (H9.ext.up fun _ h => nomatch h) e1 (fun _ h => nomatch h) fun _ h => h
          have pN := PoolIs.ext e1 H9.pool
          have hlN := e1.lst _ (H9.ext.lst _ hla rfl (not_mem1 hlp)) rfl List.not_mem_nil
          clear H9 e1 dl dk
          k_extra "gi"
          repeat' (k_extra "g1")
          k_extra "glc"
          repeat' (k_extra "g1")
          refine' cf_pure ok (fun _ => .int 1) (.head _) (DatAll.mono (fun p hp => .tail _ hp) hY) hsL (fun _ _ => rfl) ?turn ?fin
          case turn =>
            intro c' tl ys2 v d I oI C oC Da m₂ ok' hd hv hC hx
            obtain ⟨lb, rfl, hsq⟩ := hY2 d hd
            repeat' (k_extra "g1")
            refine' ok'.can (newer_of_c w _ (.ref ha) v ⟨0, k.1, k.2, l.seq + 1, l.c⟩ lb (DatIn.mono (fun p hp => .tail _ (.tail _ (.tail _ (List.mem_append_right _ (.tail _ hp))))) GH) (DatIn.mono (fun p hp => .tail _ (.tail _ (.tail _ hp))) hv)) (by decide) (by decide) ?_
            intro r Z P
            exact ⟨P.1, newer_up (x := ⟨0, k.1, k.2, l.seq + 1, l.c⟩) hsq ▸ P.2⟩
          case fin =>
            intro ysa tla hYa D3 hD3
            (try dsimp only)
            have hla3 : ysa.length ≤ 3 := by rw [datAll_len hYa, List.length_map, hsl]; exact hyl
            k_extra "glc"
            repeat' (k_extra "g1")
            refine' cf_pure ok (fun _ => .int (-1)) (.tail _ (List.mem_append_right _ (.head _))) (DatAll.mono (fun p hp => .tail _ (List.mem_append_right _ (.tail _ hp))) hY) hsL (fun _ _ => rfl) ?turn ?fin
            case turn =>
              intro c' tl ys2 v d I oI C oC Da m₂ ok' hd hv hC hx
              obtain ⟨lb, rfl, hsq⟩ := hY2 d hd
              repeat' (k_extra "g1")
              refine' ok'.can (newer_of_c w _ v (.ref ha) lb ⟨0, k.1, k.2, l.seq + 1, l.c⟩ (DatIn.mono (fun p hp => .tail _ (.tail _ (.tail _ hp))) hv) (DatIn.mono (fun p hp => .tail _ (.tail _ (.tail _ (List.mem_append_right _ (.tail _ (List.mem_append_right _ (.tail _ hp))))))) GH)) (by decide) (by decide) ?_
              intro r Z P
              exact ⟨P.1, newer_down (y := ⟨0, k.1, k.2, l.seq + 1, l.c⟩) hsq ▸ P.2⟩
            case fin =>
              intro ysb tlb hYb D4 hD4
              (try dsimp only)
              have hlb3 : ysb.length ≤ 3 := by rw [datAll_len hYb, List.length_map, hsl]; exact hyl
              refine' g_ladd (.tail _ (List.mem_append_right _ (.head _))) (.head _) hla3 hlb3 ?_
              intro D5 hD5 n5
              have m2 : (D2, W.listOf ys.toArray ys.length) ∈ n5 := .tail _ (.tail _ (List.mem_append_right _ (.tail _ (List.mem_append_right _ (.head _)))))
              have s5 : ∀ p ∈ ns, p ∈ n5 := fun p hp => .tail _ (.tail _ (List.mem_append_right _ (.tail _ (List.mem_append_right _ (.tail _ hp)))))
              have d5 : DatIn n5 (.ref D5) (.list (src.map (fun _ => .int 1) ++ src.map (fun _ => .int (-1)))) := .list (.head _) (datAll_app (datAll_mono (fun p hp => .tail _ (.tail _ (List.mem_append_right _ (.tail _ hp)))) hYa) (datAll_mono (fun p hp => .tail _ (.tail _ hp)) hYb))
              repeat' (k_extra "g1")
              refine' g_len (us := ys) (nn := ys.length) (.tail _ m2) (by omega) ?_
              intro tk6
              refine' g_lmul (us := [_]) (j := ys.length) (.head _) (Nat.le_of_ble_eq_true rfl) (by omega) ?_
              intro D7 hD7 n7
              repeat' (k_extra "g1")
              refine' g_len (us := ys) (nn := ys.length) (.tail _ (.tail _ (.tail _ m2))) (by omega) ?_
              intro tk8
              refine' g_lmul (us := [_]) (j := ys.length) (.head _) (Nat.le_of_ble_eq_true rfl) (by omega) ?_
              intro D9 hD9 n9
              refine' g_ladd (a := D7) (b := D9) (.tail _ (.tail _ (.head _))) (.head _) (rep1_le hyl) (rep1_le hyl) ?_
              intro D10 hD10 n10
              refine' gc_same_ne ok (DatIn.mono (fun p hp => .tail _ (.tail _ (.tail _ (.tail _ (.tail _ hp))))) d5) (.list (.head _) ?dd) ?okd (by decide) ?_
              case dd =>
                rw [map_const src (f := fun _ => Dat.int 1) fun _ _ => rfl, map_const src (f := fun _ => Dat.int (-1)) fun _ _ => rfl, hsl]
                exact datAll_app (datAll_rep1 (.int _ _) _) (datAll_rep1 (.int _ _) _)
              case okd => exact okd_app (okd_map (fun _ => okd_int _ _) _) (okd_map (fun _ => okd_int _ _) _)
              repeat' (k_extra "g1")
              have s10 : ∀ p ∈ ns, p ∈ n10 := fun p hp => .tail _ (.tail _ (.tail _ (.tail _ (.tail _ (s5 p hp)))))
              refine' ok.can (law_put_c w n10 la (first :: init) last _ ⟨0, k.1, k.2, l.seq + 1, l.c⟩ late now tl tn n _ (s10 _ hlN) (S1.sub s10) hA h3 (DatIn.mono s10 dls) hk (put_hc hsame)) (by decide) (by decide) ?_
              intro r11 Z11 P11
              exact DeedP.put hTab RN hP hS (Ext.mid eN (fun _ h => h) s10) (PoolIs.sub s10 pN) P11 (hR.put (by dsimp only; decide) (show l.seq + 1 ≤ q + 1 by omega) (by dsimp only; decide) h0)
      · have hlZ : (la, W.listOf (refs (first :: init ++ [last])).toArray n) ∈ Z4 := H4.ext.lst _ hlaS rfl (not_mem1 hlp)
        have hlr : (refs (first :: init ++ [last])).length ≤ 3 := by rw [refs_len]; exact hsz3
        have S4 := hS.ext H4.ext (fun _ _ => List.not_mem_nil)
        k_extra "gi"
        repeat' (k_extra "g1")
        refine' ⟨fun e2 => ?_, fun e2 => ?_⟩
        · clear e1 e2 f2 f3
          k_extra "glc"
          repeat' (k_extra "g1")
          refine' cf_mut ok (first :: init ++ [last]) (fun b => endRow b.D k now) (fun b => optD ((lookRow b.D k now).map fun l => l.aged 3600)) hlZ S4 hA hszL ?turn ?fin
          case turn =>
            intro c' ns b ys I oI C oC Da m₂ ok' hbm e1 ob dbb hbd hC hx
            have k1 := e1.kept _ H4.k1 List.not_mem_nil nd1
            have k3 := e1.kept _ H4.k3 List.not_mem_nil nd3
            have ob2 : DbObj ((I, oI) :: (C, oC) :: (Da, lstO ys) :: ns) b.x b.d := dbObj_sub (fun p hp => .tail _ (.tail _ (.tail _ hp))) ob
            repeat' (k_extra "g1")
            refine' ok'.can (end_c w _ b.x b.d _ k b.D now tn ob2 (DbIs.sub (fun p hp => .tail _ (.tail _ (.tail _ hp))) dbb) (DatIn.mono (fun p hp => .tail _ (.tail _ (.tail _ hp))) (e1.dat dK rfl))) (by decide) (by decide) ?_
            intro r Z P
            exact ⟨P.ext, P.db, P.res, .inl (optD_noList _)⟩
          case fin =>
            intro ys ns e1 S1 hY D2 hD2
            (try dsimp only)
            have hY2 : DatAll ns ys (List.replicate (refs (first :: init ++ [last])).length (optD ((lookRow first.D k now).map fun l => l.aged 3600))) := by
              rw [refs_len, ← map_const _ (hR.look (f := fun o => optD (o.map fun l => l.aged 3600)) (by cases h : lookRow first.D k now with | none => rfl | some l => exact congrArg lsaD (end_late (look_ge (hR.fit first (.head _)) h) h0)))]
              exact hY
            clear hY
            have K4 := e1.kept _ H4.k4 List.not_mem_nil nd4
            have hlN := e1.lst _ hlZ rfl List.not_mem_nil
            have dH2 := e1.dat dH (optD_noList _)
            have fin : ∀ n', (∀ p ∈ ns, p ∈ n') → DeedP w news pa (first :: init) last late now q (.bool true) n' := fun n' hs => DeedP.mut hTab RN hP hS (Ext.mid (Ext.step (H4.ext.up fun _ h => nomatch h) e1 (fun _ h => nomatch h) fun _ h => h) (fun _ h => h) hs) (PoolIs.sub hs (PoolIs.ext e1 H4.pool)) (S1.sub hs) (hR.end k h0)
            clear H4 e1 S1 dH dK S4 hlZ
            repeat' (k_extra "g1")
            cases hh : lookRow first.D k now with
            | none =>
              rw [hh] at dH2 hY2
              cases dH2
              repeat' (k_extra "g1")
              refine' g_len (us := refs (first :: init ++ [last])) (.tail _ (.tail _ hlN)) (by omega) ?_
              intro tk6
              refine' g_lmul (us := [_]) (.head _) (Nat.le_of_ble_eq_true rfl) (Nat.le_trans hlr (by decide)) ?_
              intro D7 hD7 n7
              refine' gc_same_eq ok (.list (.tail _ (.tail _ (.head _))) (datAll_mono (fun p hp => .tail _ (.tail _ (.tail _ hp))) hY2)) (.list (.head _) (datAll_rep1 .none _)) (okd_rep _ (okd_none _)) (by decide) ?_
              exact fin _ fun p hp => .tail _ (.tail _ (.tail _ hp))
            | some l =>
              rw [hh] at dH2 hY2
              obtain ⟨xa, xn, xv, xc, rfl, xm, xH, xC⟩ := lsaD_open dH2
              repeat' (k_extra "g1")
              refine' ok.can (aged_c w _ (.ref xa) l 3600 _ (DatIn.mono (fun p hp => .tail _ hp) dH2)) (by decide) (by decide) ?_
              intro r6 Z6 P6
              have s6 := suf_sub P6.1
              have K6 := s6 _ (.tail _ K4)
              repeat' (k_extra "g1")
              refine' g_len (us := refs (first :: init ++ [last])) (.tail _ (s6 _ (.tail _ hlN))) (by omega) ?_
              intro tk6
              refine' g_lmul (us := [_]) (.head _) (Nat.le_of_ble_eq_true rfl) (Nat.le_trans hlr (by decide)) ?_
              intro D7 hD7 n7
              refine' gc_same_eq ok (.list (.tail _ (.tail _ (s6 _ (.head _)))) (datAll_mono (fun p hp => .tail _ (.tail _ (s6 _ (.tail _ hp)))) hY2)) (.list (.head _) (datAll_rep1 (DatIn.mono (fun p hp => .tail _ (.tail _ hp)) P6.2) _)) (okd_rep _ (okd_lsa _ _)) (by decide) ?_
              exact fin _ fun p hp => .tail _ (.tail _ (s6 _ (.tail _ hp)))
        · clear e1 f2 f3
          k_extra "gi"
          repeat' (k_extra "g1")
          refine' ⟨fun e3 => ?_, fun e3 => ?_⟩
          · clear e2 e3
            repeat' (k_extra "g1")
            k_extra "glc"
            repeat' (k_extra "g1")
            refine' cf_mut ok (first :: init ++ [last]) (fun b => dropRow b.D k) (fun b => .bool (rowAt b.D k).isSome) hlZ S4 hA hszL ?turn ?fin
            case turn =>
              intro c' ns b ys I oI C oC Da m₂ ok' hbm e1 ob dbb hbd hC hx
              have k1 := e1.kept _ H4.k1 List.not_mem_nil nd1
              have ob2 : DbObj ((I, oI) :: (C, oC) :: (Da, lstO ys) :: ns) b.x b.d := dbObj_sub (fun p hp => .tail _ (.tail _ (.tail _ hp))) ob
              repeat' (k_extra "g1")
              refine' ok'.can (drop_c w _ b.x b.d _ k b.D ob2 (DbIs.sub (fun p hp => .tail _ (.tail _ (.tail _ hp))) dbb) (DatIn.mono (fun p hp => .tail _ (.tail _ (.tail _ hp))) (e1.dat dK rfl))) (by decide) (by decide) ?_
              intro r Z P
              exact ⟨P.ext, P.db, P.res, .inl rfl⟩
            case fin =>
              intro ys ns e1 S1 hY D2 hD2
              (try dsimp only)
              have hY2 : DatAll ns ys (List.replicate (refs (first :: init ++ [last])).length (.bool (lookRow first.D k now).isSome)) := by
                rw [refs_len, ← map_const _ (fun b hb => (congrArg Dat.bool (look_some (now := now))).trans (hR.look (f := fun o => .bool o.isSome) (by cases lookRow first.D k now <;> rfl) b hb))]
                exact hY
              clear hY
              have K4 := e1.kept _ H4.k4 List.not_mem_nil nd4
              have hlN := e1.lst _ hlZ rfl List.not_mem_nil
              have dH2 := e1.dat dH (optD_noList _)
              have fin : ∀ n', (∀ p ∈ ns, p ∈ n') → DeedP w news pa (first :: init) last late now q (.bool true) n' := fun n' hs => DeedP.mut hTab RN hP hS (Ext.mid (Ext.step (H4.ext.up fun _ h => nomatch h) e1 (fun _ h => nomatch h) fun _ h => h) (fun _ h => h) hs) (PoolIs.sub hs (PoolIs.ext e1 H4.pool)) (S1.sub hs) (hR.drop k).more
              clear H4 e1 S1 dH dK S4 hlZ
              repeat' (k_extra "g1")
              refine' G.mono (f := fun v n' => v = .bool (lookRow first.D k now).isSome ∧ (D2, lstO ys) :: ns = n') ?isn ?con
              case isn =>
                cases hh : lookRow first.D k now with
                | none =>
                  rw [hh] at dH2
                  cases dH2
                  repeat' (k_extra "g1")
                  exact ⟨rfl, rfl⟩
                | some l =>
                  rw [hh] at dH2
                  obtain ⟨xa, xn, xv, xc, rfl, xm, xH, xC⟩ := lsaD_open dH2
                  repeat' (k_extra "g1")
                  exact ⟨rfl, rfl⟩
              case con =>
                rintro _ _ ⟨rfl, rfl⟩
                repeat' (k_extra "g1")
                refine' g_len (us := refs (first :: init ++ [last])) (.tail _ (.tail _ hlN)) (by omega) ?_
                intro tk6
                refine' g_lmul (us := [_]) (.head _) (Nat.le_of_ble_eq_true rfl) (Nat.le_trans hlr (by decide)) ?_
                intro D7 hD7 n7
                refine' gc_same_eq ok (.list (.tail _ (.tail _ (.head _))) (datAll_mono (fun p hp => .tail _ (.tail _ (.tail _ hp))) hY2)) (.list (.head _) (datAll_rep1 (.bool _) _)) (okd_rep _ (okd_bool _ _)) (by decide) ?_
                exact fin _ fun p hp => .tail _ (.tail _ (.tail _ hp))
          · clear e2 e3
            clear hlZ
            obtain ⟨KS, hKS⟩ : ∃ KS, goneKeys (fun j => j.1 == k.1) first.D now = KS := ⟨_, rfl⟩
            have hr4 : (refs (first :: init)).length ≤ 3 := by rw [refs_len]; exact Nat.le_trans h3 (by decide)
            have hlZ : (la, W.listOf (refs (first :: init) ++ [Value.ref last.x]).toArray n) ∈ Z4 := H4.ext.lst _ hla rfl (not_mem1 hlp)
            have hT4 : TabIs Z4 := by
              obtain ⟨h, N⟩ := RN
              obtain ⟨_, _, _, _, _, _, _, hp, _⟩ := id hP
              exact TabIs.ext (w := w) hTab N H4.ext (fun x hx => by rw [List.mem_singleton.mp hx]; exact ⟨_, _, hp⟩) (fun x hx => nomatch hx)
            k_extra "glc"
            repeat' (k_extra "g1")
            refine' ⟨la, refs (first :: init), .ref last.x, n, rfl, hlZ, hr4, ?_⟩
            intro Dg hDg ng
            refine' cf_mut2 ok (first :: init) (fun b => dropAll b.D KS) (fun b => .list (KS.map keyD)) (.head _) ((S4.part fun b hb => List.mem_append_left _ hb).sub fun p hp => .tail _ hp) hA.init.1 (hT4.sub fun p hp => .tail _ hp) (fun b hb => h170 b (List.mem_append_left _ hb)) (by rw [sizeLine_eq]; exact Nat.le_trans h3 (by decide)) ?turn ?fin
            case turn =>
              intro c' ns b ys I oI C oC Da m₂ ok' hbm e1 ob dbb hTn off3 hC hx
              have k1 := e1.kept _ (.tail _ H4.k1) List.not_mem_nil (inW7 _ fun p hp => (hn p hp).1)
              have k3 := e1.kept _ (.tail _ H4.k3) List.not_mem_nil (inW7 _ fun p hp => (hn p hp).2.2.1)
              have dk1 := e1.dat (DatIn.mono (fun p hp => .tail _ hp) dK) rfl
              have hgk : goneKeys (fun j => j.1 == k.1) b.D now = KS := (goneKeys_eq _ (hR.same b hbm)).trans hKS
              have hb17 : ¬ b.d = 170 := h170 b (List.mem_append_left _ hbm)
              have s3 : ∀ p ∈ ns, p ∈ (I, oI) :: (C, oC) :: (Da, lstO ys) :: ns := fun p hp => .tail _ (.tail _ (.tail _ hp))
              have ob2 := dbObj_sub s3 ob
              have n17 : c.L + 1 + 1 + 1 + 1 ≠ 170 := fun e => inW7 _ (fun p hp => (hn p hp).1) (List.mem_append_right _ (List.mem_singleton.mpr e))
              repeat' (k_extra "g1")
              refine' g_lam ok' s3 hTn rfl rfl rfl rfl ?clos ?_
              case clos => with_unfolding_all rfl
              intro fz cz pm ctv oc vs t nz eA hTz hnew hfz hcz hdz hvz
              refine' G.real (fun rz => ?_)
              repeat' (k_extra "g1")
              have k1z := eA.kept _ (s3 _ k1) List.not_mem_nil (not_mem1 n17)
              have dbz := eA.other _ _ _ (not_mem1 hb17) (DbIs.sub s3 dbb)
              refine' ok'.can (swept_c w nz b.x b.d fz (fun j => j.1 == k.1) b.D now tn (eA.obj _ _ ob2) dbz (tells_j rfl rfl rfl hfz hcz hdz hvz k1z d1' (eA.dat (DatIn.mono s3 dk1) rfl)) _ _ _ _ hfz) (by decide) (by decide) ?_
              intro r Z P RZ
              rw [hgk] at P
              obtain ⟨eB, dbN, dN, yz, rfl, yf⟩ := P
              obtain ⟨xsB, nB, hmB, _⟩ := dbz
              have hcb : cz ≠ b.d := by
                rintro rfl
                have e := real_fun rz hcz hmB
                rw [e] at hdz
                exact nomatch hdz
              have h17 : (170 : Addr) ≠ I ∧ (170 : Addr) ≠ C ∧ (170 : Addr) ≠ Da := by
                obtain ⟨ps, hm⟩ := hTn.obj
                exact off3 _ hm
              have hcI : cz ≠ I ∧ cz ≠ C ∧ cz ≠ Da := by
                rcases hnew with hm | hm
                · exact off3 _ hm
                · exact ⟨(hm _ (.head _)).symm, (hm _ (.tail _ (.head _))).symm, (hm _ (.tail _ (.tail _ (.head _)))).symm⟩
              have tB := eB.kept _ hTz List.not_mem_nil (not_mem1 fun e => hb17 e.symm)
              have cB := eB.kept _ hcz List.not_mem_nil (not_mem1 hcb)
              refine ⟨Ext.trans (eA.up fun x hx => .tail _ hx) (eB.up fun x hx => by rw [List.mem_singleton.mp hx]; exact .head _), ⟨dbN, .inr ⟨cz, oc, vs, t, List.mem_filter.mpr ⟨tB, decide_eq_true h17⟩, List.mem_filter.mpr ⟨cB, decide_eq_true hcI⟩, hdz, hvz⟩⟩, dN, .inr ⟨yz, _, rfl, ?_, rfl, keysD_noLists _⟩⟩
              intro p hp
              by_cases h7 : p.1 = 170
              · rw [h7]; exact yf _ hTz
              · exact yf _ (eA.kept p hp List.not_mem_nil (not_mem1 h7))
            case fin =>
              intro ys ns e1 S1 hY hT1 D2 hD2
              (try dsimp only)
              have hY2 : DatAll ns ys (List.replicate (first :: init).length (.list (KS.map keyD))) := by
                rw [← map_const (f := fun _ : Base => Dat.list (KS.map keyD)) _ (fun _ _ => rfl)]
                exact hY
              clear hY
              have hyl : ys.length ≤ 3 := by rw [datAll_len hY2, List.length_replicate]; exact Nat.le_trans h3 (by decide)
              obtain ⟨y0, hy0⟩ : ∃ y0, ys[(0 : Int).toNat]? = some y0 := by
                cases ys with
                | nil => have := datAll_len hY2; simp at this
                | cons a r => exact ⟨a, rfl⟩
              obtain ⟨d0, hd0, hD0⟩ := datAll_get _ hY2 hy0
              have ed0 : d0 = .list (KS.map keyD) := by
                have := List.mem_of_getElem? hd0
                exact List.eq_of_mem_replicate this
              subst ed0
              obtain ⟨ga, gvs, gn, eg, hgm, hgd⟩ := listD_open hD0
              subst eg
              have hgl : gvs.length ≤ 6 := by rw [datAll_len hgd, List.length_map, ← hKS]; exact gone_len
              have hlm : last ∈ first :: init ++ [last] := List.mem_append_right _ (.head _)
              have hld : last.d ∉ dsOf (first :: init) ++ [170] := fun hm => (List.mem_append.mp hm).elim (fun hm => hA.init.2 hm) fun hm => h170 last hlm (List.mem_singleton.mp hm)
              have K4 := e1.kept _ (.tail _ H4.k4) List.not_mem_nil (inW7 _ fun p hp => (hn p hp).2.2.2)
              have hlN := e1.lst _ (.tail _ hlZ) rfl List.not_mem_nil
              have obL := e1.obj _ _ (dbObj_sub (fun p hp => .tail _ hp) (S4 last hlm).1)
              have dbL := e1.other _ _ _ hld (DbIs.sub (fun p hp => .tail _ hp) (S4 last hlm).2)
              have cld : c.L + 1 ≠ last.d := fun e => nd4 (e ▸ List.mem_map.mpr ⟨last, hlm, rfl⟩)
              have fW : ∀ x ∈ dsOf (first :: init) ++ [170], x ∈ dsOf (first :: init ++ [last]) ++ [170] := fun x hx => (List.mem_append.mp hx).elim (fun h => List.mem_append_left _ (inW _ h)) fun h => List.mem_append_right _ h
              have lW : ∀ x ∈ [last.d], x ∈ dsOf (first :: init ++ [last]) ++ [170] := fun x hx => by
                rw [List.mem_singleton.mp hx]
                exact List.mem_append_left _ (List.mem_map.mpr ⟨last, hlm, rfl⟩)
              have eN : Ext [pa] (dsOf (first :: init ++ [last]) ++ [170]) news ns := Ext.trans (H4.ext.up fun _ h => nomatch h) (Ext.mid (e1.weak (fun _ h => nomatch h) fW) (fun p hp => .tail _ hp) (fun _ h => h))
              have pN := PoolIs.ext e1 (PoolIs.sub (fun p hp => .tail _ hp) H4.pool)
              clear H4 e1 dK S4 hT4 hlZ dH hD0 hd0
              repeat' (k_extra "g1")
              refine' ⟨D2, ys, _, rfl, .head _, hyl, ?_⟩
              intro D3 hD3 n3
              repeat' (k_extra "g1")
              refine' g_len (us := ys) (nn := ys.length) (.tail _ (.head _)) (by omega) ?_
              intro tk6
              refine' g_lmul (us := ys.take 1) (j := ys.length) (.head _) (take1_le _) (by omega) ?_
              intro D7 hD7 n7
              refine' gc_same_eq ok (.list (.tail _ (.tail _ (.head _))) (datAll_mono (fun p hp => .tail _ (.tail _ (.tail _ hp))) hY2)) (.list (.head _) (datAll_mono (fun p hp => .tail _ (.tail _ (.tail _ hp))) (datAll_repT hY2))) (okd_rep _ (okd_map (fun k => okd_key k _) _)) (by decide) ?_
              have s7 : ∀ p ∈ ns, p ∈ n7 := fun p hp => .tail _ (.tail _ (.tail _ hp))
              have m7 : (D2, W.listOf ys.toArray ys.length) ∈ n7 := .tail _ (.tail _ (.head _))
              repeat' (k_extra "g1")
              refine' G.real (fun rx => ?_)
              have hDz : ∀ i kk, KS[i]? = some kk → dropAll last.D (KS.take (i + 1)) = dropRow (dropAll last.D (KS.take i)) kk := fun i kk h => by rw [take_snoc h, dropAll_snoc]
              k_extra "glc"
              repeat' (k_extra "g1")
              refine' g_litem m7 (Int.le_refl 0) ?lt0 hy0 ?hs ?_
              case lt0 => decide
              case hs => with_unfolding_all rfl
              refine' cf_over1 ok last.x last.d (KS.map keyD) (fun i => dropAll last.D (KS.take i)) (.bool true) rfl (s7 _ hgm) (datAll_mono s7 hgd) (dbObj_sub s7 obL) (show DbIs w _ last.d (dropAll last.D (KS.take 0)) from by rw [List.take_zero]; exact DbIs.sub s7 dbL) (by rw [List.length_map, ← hKS]; exact Nat.le_trans gone_len (by decide)) ?turn ?fin
              case turn =>
                intro c' i dd ns2 v ys2 I oI C oC Da m₂ ok' hi hDv e2 ob2 dbb2 hbd hC hx
                obtain ⟨kk, hkk, rfl⟩ : ∃ kk, KS[i]? = some kk ∧ dd = keyD kk := by
                  rw [List.getElem?_map] at hi
                  cases e : KS[i]? with
                  | none => rw [e] at hi; cases hi
                  | some kk => rw [e] at hi; exact ⟨kk, rfl, (Option.some.inj hi).symm⟩
                have hat := gone_at (i := i) (k := kk) (hR.late) (by rw [hKS]; exact hkk)
                rw [hKS] at hat
                have j4 := e2.kept _ (s7 _ K4) List.not_mem_nil (not_mem1 cld)
                have hla3 := e2.lst _ (s7 _ hlN) rfl List.not_mem_nil
                have s3 : ∀ p ∈ ns2, p ∈ (I, oI) :: (C, oC) :: (Da, lstO ys2) :: ns2 := fun p hp => .tail _ (.tail _ (.tail _ hp))
                have ob3 := dbObj_sub s3 ob2
                repeat' (k_extra "g1")
                refine' g_llast (s3 _ hla3) hr4 ?hs ?_
                case hs => with_unfolding_all rfl
                repeat' (k_extra "g1")
                refine' ok'.can (drop_c w _ last.x last.d v kk (dropAll last.D (KS.take i)) ob3 (DbIs.sub s3 dbb2) (DatIn.mono s3 hDv)) (by decide) (by decide) ?_
                intro r Z P
                exact ⟨P.ext, by have := P.db; rw [← hDz i kk hkk] at this; exact this, by have := P.res; rw [hat] at this; exact this, .inl rfl⟩
              case fin =>
                intro ysB nsB e3 ob3 dbb3 hYB DB hDB
                (try dsimp only)
                rw [List.length_map, List.take_length] at dbb3
                rw [← datAll_len hgd] at hYB
                have hT2 : TabIs nsB := by
                  obtain ⟨h, NX⟩ := rx
                  exact TabIs.ext (w := w) (hT1.sub s7) NX e3 (fun x hx => nomatch hx) (fun x hx => by rw [List.mem_singleton.mp hx]; exact ⟨_, DbIs.sub s7 dbL⟩)
                have hg2 := e3.lst _ m7 rfl List.not_mem_nil
                have hg3 := e3.lst _ (s7 _ hgm) rfl List.not_mem_nil
                repeat' (k_extra "g1")
                refine' g_litem (.tail _ (.tail _ hg2)) (Int.le_refl 0) ?lt0 hy0 ?hs ?_
                case lt0 => decide
                case hs => with_unfolding_all rfl
                repeat' (k_extra "g1")
                refine' g_len (us := gvs) (.tail _ (.tail _ hg3)) (by omega) ?_
                intro tk9
                refine' g_lmul (us := [_]) (j := gvs.length) (.head _) (Nat.le_of_ble_eq_true rfl) hgl ?_
                intro D9 hD9 n9
                refine' gc_same_eq ok (.list (.tail _ (.tail _ (.head _))) (datAll_mono (fun p hp => .tail _ (.tail _ (.tail _ hp))) hYB)) (.list (.head _) (datAll_rep1 (.bool _) _)) (okd_rep _ (okd_bool _ _)) (by decide) ?_
                have s9 : ∀ p ∈ nsB, p ∈ n9 := fun p hp => .tail _ (.tail _ (.tail _ hp))
                refine' ⟨rfl, ?_, ?_, hT2.sub s9, (fun b => dropAll b.D KS), (fun b => dropAll b.D KS), _, ?_, (hR.gone KS).more⟩
                · exact Ext.trans eN (Ext.mid (Ext.mid (e3.weak (fun _ h => nomatch h) lW) s7 (fun _ h => h)) (fun _ h => h) s9)
                · exact PoolIs.sub s9 (PoolIs.ext e3 (PoolIs.sub s7 pN))
                · refine Stand.app (((S1.sub s7).ext e3 ?_).sub s9) ?_
                  · intro b hb hm
                    refine hA.init.2 ?_
                    rw [← List.mem_singleton.mp hm, ← upd_ds (fun b => dropAll b.D KS) (first :: init)]
                    exact List.mem_map.mpr ⟨b, hb, rfl⟩
                  · intro b hb
                    rw [List.mem_singleton.mp hb]
                    exact ⟨dbObj_sub s9 ob3, DbIs.sub s9 dbb3⟩
end
section
example : True := by
  k_with_none
  k_with "memp" => first | (with_reducible exact List.mem_cons_self) | ((with_reducible refine List.mem_cons_of_mem _ ?_); k_extra "memp") | ((with_reducible refine List.mem_append_right _ ?_); k_extra "memp") | fail "no"
  k_with "sub" => first | with_reducible exact fun _ h => h | with_reducible assumption | ((with_reducible refine fun p h => List.mem_cons_of_mem _ ?_); revert p h; k_extra "sub") | ((with_reducible refine fun p h => List.mem_append_right _ ?_); revert p h; k_extra "sub") | ((with_reducible refine' sub_chain ?sh ?sk); (case sh => with_reducible assumption); (case sk => k_extra "sub")) | fail "no"
  k_with "memq" => first | with_reducible assumption | (refine' mem_upK ?hmq ?smq; (case hmq => with_reducible assumption); (case smq => k_extra "sub")) | k_extra "memp" | fail "no"
  k_with "lk" => first | exact rfl | with_reducible assumption | (refine' lk_skip rfl ?_; k_extra "lk") | fail "no"
  k_with "g1" => first
    | ((with_reducible refine' g_name ?gv ?ga ?gb ?gc ?_); (case ga => exact rfl); (case gb => exact rfl); (case gc => exact rfl); (case gv => k_extra "lk"))
    | ((with_reducible refine' g_cell ?gx ?gm ?gd ?ga ?gb ?gc ?_); (case ga => exact rfl); (case gb => exact rfl); (case gc => exact rfl); (case gx => exact rfl); (case gm => k_extra "memq"); (case gd => with_reducible assumption))
    | ((with_reducible refine' g_int ?_); intro tk)
    | (with_reducible refine' g_none ?_) | (with_reducible refine' g_bool ?_) | ((with_reducible refine' g_str ?_); intro tk)
    | ((with_reducible refine' g_glob ?go ?gv ?ga ?gb ?gc ?_); (case go => assumption); (case ga => exact rfl); (case gb => exact rfl); (case gc => exact rfl); (case gv => k_is))
    | ((with_reducible refine' g_built ?go ?gv ?gw ?gx ?ga ?gb ?gc ?_); (case go => assumption); (case ga => exact rfl); (case gb => exact rfl); (case gc => exact rfl); (case gv => k_is); (case gw => boot_fast); (case gx => decide))
    | ((with_reducible refine' gk_own ?gm ?gC ?gx ?ga ?gb ?gc ?_); (case ga => exact rfl); (case gb => exact rfl); (case gc => exact rfl); (case gC => with_reducible assumption); (case gx => with_reducible assumption); (case gm => k_extra "memq"))
    | ((with_reducible refine' gk_glob ?go ?gv ?gg ?ga ?gb ?gc ?_); (case go => assumption); (case gg => exact rfl); (case ga => exact rfl); (case gb => exact rfl); (case gc => exact rfl); (case gv => k_is))
    | ((with_reducible refine' gk_cell ?gx ?gm ?gd ?ga ?gb ?gc ?_); (case ga => exact rfl); (case gb => exact rfl); (case gc => exact rfl); (case gx => exact rfl); (case gm => k_extra "memq"); (case gd => with_reducible assumption))
    | ((with_reducible refine' gk_free ?gx ?gm ?gd ?ga ?gb ?gc ?ge ?_); (case ga => exact rfl); (case gb => exact rfl); (case gc => exact rfl); (case ge => exact rfl); (case gx => exact rfl); (case gm => k_extra "memq"); (case gd => with_reducible assumption))
    | (with_reducible refine' ga_nil ?_) | ((with_reducible refine' ga_cons ?ga ?_); (case ga => exact rfl))
    | ((with_reducible refine' g_meth ?ga ?_); (case ga => with_unfolding_all rfl))
    | ((with_reducible refine' g_call ?ga ?_); (case ga => with_unfolding_all rfl))
    | ((with_reducible refine' g_rest ?gs ?_); (case gs => (intro _ _; with_unfolding_all rfl)))
    | ((with_reducible refine' g_init ?gs ?_); (case gs => (intro _ _; with_unfolding_all rfl)))
    | ((with_reducible refine' g_one ?gs ?_); (case gs => (intro _ _; with_unfolding_all rfl)))
    | (with_reducible refine' g_subs ?_) | (with_reducible refine' g_bin ?_) | (with_reducible refine' g_tuple ?_) | (with_reducible refine' g_list ?_) | (with_reducible refine' g_un ?_) | (with_reducible refine' g_ifexp ?_)
    | ((with_reducible refine' g_callB ?ga ?gb ?_); (case ga => exact rfl); (case gb => exact rfl)) | ((with_reducible refine' g_callW ?go ?gv ?ga ?gb ?_); (case go => assumption); (case gv => k_is); (case ga => exact rfl); (case gb => exact rfl)) | ((with_reducible refine' g_callW0 ?go ?gv ?_); (case go => assumption); (case gv => k_is))
    | ((with_reducible refine' g_dbmeth ?gk ?go ?g1 ?g2 ?g3 ?g4 ?_); (case gk => assumption); (case go => with_reducible assumption); (case g1 => k_is); (case g2 => k_is); (case g3 => k_is); (case g4 => (intro _ _; k_get)))
    | ((with_reducible refine' g_attr ?ga ?_); (case ga => with_unfolding_all rfl))
    | ((with_reducible refine' g_rowsattr ?gk ?go ?g1 ?g2 ?g3 ?g4 ?g5 ?g6 ?_); (case gk => assumption); (case go => with_reducible assumption); (case g1 => k_is); (case g2 => k_is); (case g3 => k_is); (case g4 => k_is); (case g5 => (intro _ _; k_get)); (case g6 => k_handed))
    | (with_reducible refine' gc_is_nn ?_) | (with_reducible refine' gc_is_in ?_) | (with_reducible refine' gc_isnot_in ?_) | (with_reducible refine' gc_isnot_nn ?_) | (with_reducible refine' gc_is_rn ?_) | (with_reducible refine' gc_isnot_rn ?_)
    | (with_reducible refine' conj_t ?_) | (with_reducible refine' conj_f ?_)
    | (with_reducible refine' gs_nil ?_) | (with_reducible refine' thenF_next ?_) | (with_reducible refine' gs_ret ?_) | ((with_reducible refine' gs_assign ?ga ?gb ?gc ?_); (case ga => exact rfl); (case gb => exact rfl); (case gc => exact rfl))
    | ((with_reducible refine' gb_cmp ?ga ?_); (case ga => exact rfl)) | (with_reducible refine' gt_bool ?_) | (with_reducible refine' gb_and ?_) | (with_reducible refine' gb_and0 ?_) | (with_reducible refine' gb_or ?_) | (with_reducible refine' gb_or0 ?_) | (with_reducible refine' gb_not ?_)
    | ((with_reducible refine' g_cmp ?ga ?_); (case ga => exact rfl)) | (with_reducible refine' g_and ?_)
    | (with_reducible refine' gc_lt ?_) | (with_reducible refine' gc_le ?_) | (with_reducible refine' gc_gt ?_) | (with_reducible refine' gc_ge ?_) | (with_reducible refine' gc_eq ?_) | (with_reducible refine' gc_ne ?_)
    | ((with_reducible refine' g_add ?_); intro tk) | ((with_reducible refine' g_sub ?_); intro tk) | ((with_reducible refine' g_neg ?_); intro tk) | ((with_reducible refine' g_min ?go ?_); (case go => assumption); intro tk)
    | ((with_reducible refine' And.intro ?gz ?_); (case gz => exact Nat.le_of_ble_eq_true rfl); intro D' hD' n9')
    | ((with_reducible refine' g_cat ?gm ?gn ?gz ?_); (case gm => k_extra "memq"); (case gn => k_extra "memq"); (case gz => exact Nat.le_of_ble_eq_true rfl); intro D' hD' n9')
    | ((with_reducible refine' g_tup ?gm ?g0 ?gf ?gv ?gs ?_); (case gm => k_extra "memq"); (case g0 => decide); (case gf => decide); (case gv => exact rfl); (case gs => with_unfolding_all rfl))
    | fail "no"
  k_with "gi" => first | k_extra "g1" | (with_reducible refine' gs_if1 ?_) | (with_reducible refine' gs_if ?_) | fail "no"
  k_with "glc" => first
    | ((with_reducible refine' g_lc ?lb ?lc ?ld ?le ?lf ?li ?_); (case lb => with_unfolding_all rfl); (case lc => decide); (case ld => exact rfl); (case le => decide); (case lf => exact rfl); (case li => exact fun _ => rfl))
    | ((with_reducible refine' gs_lc ?la ?lb ?lc ?ld ?le ?lf ?lg ?lh ?li ?_); (case la => with_unfolding_all rfl); (case lb => with_unfolding_all rfl); (case lc => decide); (case ld => exact rfl); (case le => decide); (case lf => exact rfl); (case lg => exact rfl); (case lh => exact rfl); (case li => exact fun _ => rfl))
    | fail "no"
  trivial
theorem late_right_d (w : World) (news : Led) (x1 d1 x2 d2 : Addr) (D1 D2 : List Rw) (late now : Int) (tl tn : Tok) (ho1 : DbObj news x1 d1) (hdb1 : DbIs w news d1 D1) (ho2 : DbObj news x2 d2) (hdb2 : DbIs w news d2 D2) (h0 : 0 ≤ late) (h9 : late ≤ 900)
   (hL : ∀ k, lookRow D2 k now = (lookRow D1 k now).map fun l => l.aged late) :
   Ctr PR w (hd.heap_39 w.params) 187 14 1500 [.ref x1, .ref x2, .int late tl, .int now tn] news (PureD news (.bool true)) := by
  obtain ⟨S, hS⟩ : ∃ S, sortKeys D1 = S := ⟨_, rfl⟩
  have hS2 : sortKeys D2 = S := by
    rw [← hS]
    exact keysSame (now := now) (now' := now) fun k => by rw [hL]; cases lookRow D1 k now <;> rfl
  have hSl : S.length ≤ 6 := by
    rw [← hS]
    exact List.length_filter_le _ _
  refine' Ctr.start (D := 12) (U := 1400) (binds := [(Str.ofString "first", .ref x1), (Str.ofString "last", .ref x2), (Str.ofString "late", .int late tl), (Str.ofString "now", .int now tn)]) ?ho ?hcd ?hb ?hl ?c1 ?c2 ?c3 ?c4 ?d ?u rfl ?body
  case ho => k_is
  case hcd => k_is
  case hb => exact fun s X => BindsTo.of_eq rfl
  case hl => exact locs rfl
  case c1 => exact rfl
  case c2 => exact rfl
  case c3 => exact rfl
  case c4 => decide
  case d => decide
  case u => decide
  intro c ok pe
  repeat' (k_extra "gi")
  refine' ok.can (keys_s w news x2 d2 D2 S ho2 hdb2 hS2) (by decide) (by decide) ?_
  intro r1 n1 P1
  have s1 := suf_sub P1.1
  have o1 := dbObj_sub s1 ho1
  have b1 := DbIs.sub s1 hdb1
  repeat' (k_extra "gi")
  refine' ok.can (keys_s w n1 x1 d1 D1 S o1 b1 hS) (by decide) (by decide) ?_
  intro r2 n2 P2
  have s2 := suf_sub P2.1
  refine' gc_same_ne ok (DatIn.mono s2 P1.2) P2.2 ?_ (by decide) ?_
  · exact okd_map (fun k => okd_key k _) S
  repeat' (k_extra "gi")
  refine' gs_for_list ok pe rfl rfl (fun _ => rfl) ?_
  have o2 := dbObj_sub s2 o1
  have b2 := DbIs.sub s2 b1
  have t2 := suf_sub (P1.1.trans P2.1)
  repeat' (k_extra "gi")
  refine' ok.can (keys_s w n2 x1 d1 D1 S o2 b2 hS) (by decide) (by decide) ?_
  intro r3 n3 P3
  have t3 := P1.1.trans (P2.1.trans P3.1)
  obtain ⟨la, vs, nn, rfl, hm, hda⟩ := listD_open P3.2
  have hlen : vs.length = S.length := by rw [datAll_len hda, List.length_map]
  refine' ⟨la, vs, nn, fun _ l' n' => (lk l' (Str.ofString "first") = some (.ref x1) ∧ lk l' (Str.ofString "last") = some (.ref x2) ∧ lk l' (Str.ofString "late") = some (.int late tl) ∧ lk l' (Str.ofString "now") = some (.int now tn)) ∧ n3 <:+ n', rfl, hm, ⟨⟨rfl, rfl, rfl, rfl⟩, List.suffix_refl _⟩, fun i l' n' h => suf_sub h.2 _ hm, ?_, ?_⟩
  · rintro i v l' ns I oI hv ⟨⟨q1, q2, q3, q4⟩, s4⟩ hoff hcI
    obtain ⟨dd, hdd, hDv⟩ := datAll_get i hda hv
    obtain ⟨k, hk, rfl⟩ : ∃ k, S[i]? = some k ∧ dd = keyD k := by
      rw [List.getElem?_map] at hdd
      cases e : S[i]? with
      | none => rw [e] at hdd; cases hdd
      | some l => rw [e] at hdd; exact ⟨l, rfl, (Option.some.inj hdd).symm⟩
    obtain ⟨l, hl1⟩ : ∃ l, lookRow D1 k now = some l := by
      have hm := List.mem_of_getElem? hk
      rw [← hS] at hm
      have := (List.mem_filter.mp hm).2
      rw [look_some (now := now)] at this
      exact Option.isSome_iff_exists.mp this
    have hl2 : lookRow D2 k now = some (l.aged late) := by rw [hL, hl1]; rfl
    have hle := look_le hl1
    have hag : (l.aged late).age = min (l.age + late) 3600 := rfl
    have sI := suf_sub (t3.trans (s4.trans (List.suffix_cons (I, oI) ns)))
    have ob1 := dbObj_sub sI ho1
    have db1 := DbIs.sub sI hdb1
    have ob2 := dbObj_sub sI ho2
    have db2 := DbIs.sub sI hdb2
    have hDk := DatIn.mono (suf_sub (s4.trans (List.suffix_cons (I, oI) ns))) hDv
    refine' gs_let ?_
    intro lA nA fA
    refine' gs_assign2 ok rfl ?e3 ?e4 ?e1 ?e2 ?_
    case e1 => with_unfolding_all rfl
    case e2 => with_unfolding_all rfl
    case e3 => exact rfl
    case e4 => exact rfl
    repeat' (k_extra "gi")
    refine' ok.can (look_s w _ x1 d1 v k D1 l now tn ob1 db1 hDk hl1) (by decide) (by decide) ?_
    intro r4 n4 P4
    have s5 := suf_sub P4.1
    replace ob2 := dbObj_sub s5 ob2
    replace db2 := DbIs.sub s5 db2
    replace hDk := DatIn.mono s5 hDk
    repeat' (k_extra "gi")
    refine' ok.can (look_s w _ x2 d2 v k D2 (l.aged late) now tn ob2 db2 hDk hl2) (by decide) (by decide) ?_
    intro r5 n5 P5
    have s6 := suf_sub P5.1
    repeat' (k_extra "gi")
    obtain ⟨a4, m4, v4, c4, rfl, x4, H4, C4⟩ := lsaD_open P4.2
    obtain ⟨b4, k4, u40, u41, u42, u43, u44, u45, u46, rfl, y4⟩ := headD_open H4
    obtain ⟨a5, m5, v5, c5, rfl, x5, H5, C5⟩ := lsaD_open P5.2
    obtain ⟨b5, k5, u50, u51, u52, u53, u54, u55, u56, rfl, y5⟩ := headD_open H5
    refine' ⟨D', _, _, 0, rfl, .head _, ?_⟩
    have sD := suf_sub (P5.1.trans (List.suffix_cons (D', tupO [.ref a4, .ref a5] 0) n5))
    refine' gs_let ?_
    intro lB nB fB
    obtain ⟨dv, hdv⟩ : ∃ dv : Int, (if l.age < 3600 ∧ (l.aged late).age = 3600 then -1 else 0) = dv := ⟨_, rfl⟩
    refine' gs_assign ?ga ?gb ?gc ?_
    case ga => exact rfl
    case gb => exact rfl
    case gc => exact rfl
    refine' G.mono (f := fun v n' => (∃ tk, v = .int dv tk) ∧ n' = (D', tupO [.ref a4, .ref a5] 0) :: n5) ?_ ?_
    · repeat' (k_extra "gi")
      refine' ⟨fun e1 => ?_, fun e1 => ?_⟩
      · repeat' (k_extra "gi")
        refine' ⟨fun e2 => ?_, fun e2 => ?_⟩
        · repeat' (k_extra "gi")
          repeat' (k_extra "gi")
          exact ⟨⟨_, by rw [← hdv, if_pos ⟨of_decide_eq_true e1, by simpa using e2⟩]⟩, rfl⟩
        · refine' ⟨(fun e => nomatch e), fun _ => ?_⟩
          repeat' (k_extra "gi")
          exact ⟨⟨_, by rw [← hdv, if_neg (fun h => by simp [h.2] at e2)]⟩, rfl⟩
      · refine' ⟨(fun e => nomatch e), fun _ => ?_⟩
        repeat' (k_extra "gi")
        exact ⟨⟨_, by rw [← hdv, if_neg (fun h => absurd h.1 (of_decide_eq_false e1))]⟩, rfl⟩
    · rintro _ _ ⟨⟨tk, rfl⟩, rfl⟩
      repeat' (k_extra "gi")
      refine' ⟨b4, _, _, _, rfl, by k_extra "memq", Nat.le_of_ble_eq_true rfl, ?_⟩
      intro D2 hD2 nD2
      repeat' (k_extra "gi")
      refine' gc_same_ne ok (d := lsaD (l.aged late)) (DatIn.mono ?s1 P5.2) (DatIn.tuple List.mem_cons_self (.cons (DatIn.tuple (List.mem_cons_of_mem _ List.mem_cons_self) (.cons (dat_int ?s2) (.cons (.int _ _) (.cons (.int _ _) (.cons (.int _ _) (.cons (.int _ _) (.cons (.int _ _) (.cons (.int _ _) .nil)))))))) (.cons (DatIn.mono ?s3 C4) .nil))) (okd_lsa _ _) (by decide) ?_
      case s1 => k_extra "sub"
      case s2 => rw [hag]; omega
      case s3 => k_extra "sub"
      repeat' (k_extra "gi")
      repeat' (k_extra "gi")
      refine' ok.can (newer_of_c w _ (.ref b4) (.ref b5) l (l.aged late) (DatIn.mono ?s4 H4) (DatIn.mono ?s5 H5)) (by decide) (by decide) ?_
      case s4 => k_extra "sub"
      case s5 => k_extra "sub"
      intro r6 n6 P6
      have e6 := P6.1
      obtain ⟨z6, rfl⟩ : ∃ z, r6 = .int (newerI l (l.aged late)) z := by cases P6.2; exact ⟨_, rfl⟩
      repeat' (k_extra "gi")
      refine' ok.can (newer_of_c w _ (.ref b5) (.ref b4) (l.aged late) l (DatIn.mono ?s8 H5) (DatIn.mono ?s9 H4)) (by decide) (by decide) ?_
      case s8 => k_extra "sub"
      case s9 => k_extra "sub"
      intro r7 n7 P7
      have e7 := P7.1
      obtain ⟨z7, rfl⟩ : ∃ z, r7 = .int (newerI (l.aged late) l) z := by cases P7.2; exact ⟨_, rfl⟩
      repeat' (k_extra "gi")
      obtain ⟨w1, w2⟩ := late_newer h0 h9 hle hdv.symm
      refine' gc_same_ne ok (d := .tuple [.int dv, .int (0 - dv)]) (DatIn.tuple (List.mem_cons_of_mem _ List.mem_cons_self) (.cons (dat_int w1) (.cons (dat_int w2) .nil))) (DatIn.tuple List.mem_cons_self (.cons (.int _ _) (.cons (.int _ _) .nil))) (by simp [okD]) (by decide) ?_
      repeat' (k_extra "gi")
      repeat' (k_extra "gi")
      have sN : ∀ p ∈ (I, oI) :: ns, p ∈ n7 := sub_chain e7 (sub_chain e6 (fun p hp => by
        have := suf_sub P5.1 p (suf_sub P4.1 p hp)
        revert this
        exact (show ∀ p ∈ n5, p ∈ _ by k_extra "sub") p))
      show (I, oI) ∈ _ ∧ ∃ n0 : Led, (∀ p ∈ n0, p ∈ _ ∧ p.1 ≠ I) ∧ _
      refine' ⟨?_, ns, fun p hp => ⟨?_, hoff p hp⟩, ⟨by k_extra "lk", by k_extra "lk", by k_extra "lk", by k_extra "lk"⟩, s4⟩
      · exact (show ∀ p ∈ n7, p ∈ _ by k_extra "sub") _ (sN _ (.head _))
      · exact (show ∀ p ∈ n7, p ∈ _ by k_extra "sub") _ (sN _ (.tail _ hp))
  · rintro l' n' ⟨_, s4⟩
    repeat' (k_extra "gi")
    exact ⟨t3.trans s4, DatIn.bool _⟩
end
section
example : True := by
  k_with_none
  trivial
abbrev rngO (N : Int) (t u v : Tok) : Obj := { cls := .type "range", dict := none, data := .fields #[.int 0 t, .int N u, .int 1 v], slots := #[] }
section
variable {w : World} {c : Cx} {l : Loc} {n : Led} {K : Frag} {env : Env} {D U : Nat} {pos : Pos}
theorem g_range {N : Int} {t : Tok} {f : Value → Led → Prop} (h : ∀ D t1 t2 t3, (∀ p ∈ n, p.1 < D) → let n' := (D, rngO N t1 t2 t3) :: n; f (.ref D) n') : G w c l n (call (.type "range") [.int N t]) f := fun s at_ =>
  call_range_1 ⟨_, h s.heap.objs.size _ _ _ (fun p hp => Heap.lt_size (at_.N p hp).1), at_.heap (at_.F.push _) (news_pushed at_.F at_.N (fun _ _ e => Heap.get?_push_of_some _ e) (Heap.get?_push_size _ rfl) rfl)⟩
theorem g_listcopy {a : Addr} {us : List Value} {k : Nat} {f : Value → Led → Prop} (hm : (a, W.listOf us.toArray k) ∈ n) (hz : us.length ≤ 100) (h : ∀ D k, (∀ p ∈ n, p.1 < D) → let n' := (D, W.listOf us.toArray k) :: n; f (.ref D) n') : G w c l n (call (.type "list") [.ref a]) f := fun s at_ =>
  list_copyK at_.F at_.N (items := us.toArray) ⟨_, (at_.N _ hm).1, rfl, k, rfl⟩ (fun D k h' F' N' lt => ⟨_, h D k lt, at_.heap F' N'⟩) (by rw [List.size_toArray, sizeLine_eq]; omega)
theorem pick56 (us : List Value) : kms_pick us none (some 56) = us.take 56 := by
  unfold kms_pick kms_lo kms_hi
  simp
theorem g_take56 {v : PySem.Expr} {k1 : Nat} {p1 p2 p3 : Pos} {f : Value → Led → Prop} (hs : ∀ t H : Addr, subscripted (.Slice none (some (.Constant (.int 56) k1 p1)) none p2) false (.ref t) (.ref H) = operate [.ref H, .ref t] (getItem (.ref t) (.ref H)))
    (h : G w c l n (eval v env) fun o n1 => ∃ (la : Addr) (us : List Value), o = .ref la ∧ c.h₀.IsList la us.toArray ∧ us.length ≤ 100 ∧ ∀ D, (∀ p ∈ n1, p.1 < D) → let n' := (D, W.listOf (us.take 56).toArray 0) :: n1; f (.ref D) n') : G w c l n (eval (.Subscript v (.Slice none (some (.Constant (.int 56) k1 p1)) none p2) p3) env) f := fun s at_ =>
  Subscript_ (wpAny_mono (h s at_) (fun _ s1 ⟨n1, ⟨la, us, e, hm, hz, p⟩, q⟩ => by
    subst e
    exact wpAny_Slice (evalPart_none_step (evalPart_some_step (wpAny_Constant_int (evalPart_none_step
      (kba_turn (value' := PySem.Expr.Name (Str.ofString "_") ⟨0, 0, 0, 0⟩) (fun _ => rfl) <| kms_slice_lit (s := { s1 with toks := s1.toks + 1 }) q.F q.N (q.F.lst hm) .none (.int _ _) (pick56 us) (fun D h' F' N' lt => ⟨_, p D lt, q.heap F' N'⟩) (hs _ _) (fun _ => by with_unfolding_all rfl) (by rw [List.size_toArray, sizeLine_eq]; omega)))))) ) fun _ _ e => e)
theorem gs_assign3 {cn : Str} {cs : Scope} {a : Addr} {ccd : Value} {cl : List (Str × Addr)} {x y z : Str} {elts : List PySem.Expr} {k : Nat} {tpos : Pos} {e : PySem.Expr} {rest : List Stmt} {f : Flow → Loc → Led → Prop} (ok : Ok w K c D U) (hc : cs.kind = .function) (hx : (envX cn cs c.L a ccd cl).kindOf x = some .local) (hy : (envX cn cs c.L a ccd cl).kindOf y = some .local) (hz : (envX cn cs c.L a ccd cl).kindOf z = some .local)
    (hs1 : swapsWithSole [.Tuple elts k tpos] e pos.line (envX cn cs c.L a ccd cl) = pure false) (hs2 : swappedStores [.Tuple elts k tpos] e (envX cn cs c.L a ccd cl) = pure (some [x, y, z]))
    (h : G w c l n (eval e (envX cn cs c.L a ccd cl)) fun v n1 => ∃ (t : Addr) (u1 u2 u3 : Value) (nn : Nat), v = .ref t ∧ (t, tupO [u1, u2, u3] nn) ∈ n1 ∧ GS w c ((x, u1) :: (y, u2) :: (z, u3) :: l) n1 (execs rest (envX cn cs c.L a ccd cl)) f) : GS w c l n (execs (.Assign [.Tuple elts k tpos] e pos :: rest) (envX cn cs c.L a ccd cl)) f :=
  gs_cons fun s at_ => Assign_Tuple_swapped (wpAny_mono (h s at_) (fun _ s1 ⟨n1, ⟨t, u1, u2, u3, nn, e, hm, p⟩, q⟩ => by
    subst e
    refine unpackItemsN_ q.F q.N (News.isTup q.N hm) ok.hh rfl (fun h' F' N' => ?_)
    refine wpAny_assignInOrder_more (bindName_ (storeX_L (s := { s1 with heap := h' }) F' N' (fun h2 F2 N2 => ?_) hc hz))
    refine wpAny_assignInOrder_more (bindName_ (storeX_L (m := lk ((z, u3) :: l)) (lk_cons ▸ F2) N2 (fun h3 F3 N3 => ?_) hc hy))
    refine wpAny_assignInOrder_more (bindName_ (storeX_L (m := lk ((y, u2) :: (z, u3) :: l)) (lk_cons ▸ F3) N3 (fun h4 F4 N4 => ?_) hc hx))
    exact wpAny_assignInOrder_none ⟨_, _, p, ⟨lk_cons ▸ F4, N4, q.g, q.d, q.o⟩⟩) fun _ _ e => e) hs1 hs2
theorem gb_chain2 {x y z : PySem.Expr} {op op' : CmpOp} {whole : Sem Value} {f : Bool → Led → Prop} (hm : lastMarks [op, op'] [y, z] = false) (h : G w c l n (eval x env) fun a n1 => G w c l n1 (eval y env) fun b n2 => G w c l n2 (compareOp op a b) fun v n3 => G w c l n3 (truthy v) fun t n4 => (t = true → G w c l n4 (eval z env) fun d n5 => G w c l n5 (compareOp op' b d) fun v n6 => G w c l n6 (truthy v) f) ∧ (t = false → f false n4)) : G w c l n (PySem.isTrue (.Compare x [op, op'] [y, z] pos) env whole) f := fun s at_ =>
  isTrue_chain (wpAny_mono (h s at_) (fun a _ ⟨_, p, q⟩ => test_link (wpAny_mono (p _ q) (fun b _ ⟨_, p, q⟩ => wpAny_mono (p _ q) (fun v _ ⟨_, p, q⟩ => wpAny_mono (p _ q) (fun t _ ⟨_, p, q⟩ => by
    cases t
    · rw [if_neg (by decide)]; exact ⟨_, p.2 rfl, q⟩
    · rw [if_pos rfl]
      exact test_last (wpAny_mono (p.1 rfl _ q) (fun _ _ ⟨_, p, q⟩ => wpAny_mono (p _ q) (fun _ _ ⟨_, p, q⟩ => p _ q) fun _ _ e => e) fun _ _ e => e)) fun _ _ e => e) fun _ _ e => e) fun _ _ e => e)) fun _ _ e => e) hm
theorem gs_for_range {cn : Str} {cs : Scope} {a : Addr} {ccd : Value} {cl : List (Str × Addr)} {x : Str} {px : Pos} {iter : PySem.Expr} {body rest : List Stmt} {f : Flow → Loc → Led → Prop} (ok : Ok w K c D U) (hpe : Pe w c (envX cn cs c.L a ccd cl)) (hx : (envX cn cs c.L a ccd cl).kindOf x = some .local) (hp : ((envX cn cs c.L a ccd cl).scope.kind == .class || ((envX cn cs c.L a ccd cl).scope.kind == .module && (envX cn cs c.L a ccd cl).locals != (envX cn cs c.L a ccd cl).globals)) = false) (hs : ∀ v, foldedSetIterable iter (envX cn cs c.L a ccd cl) v = pure v)
    (h : G w c l n (eval iter (envX cn cs c.L a ccd cl)) fun v n1 => ∃ (r : Addr) (N : Nat) (t1 t2 t3 : Tok) (J : Nat → Loc → Led → Prop), v = .ref r ∧ (r, rngO (N : Int) t1 t2 t3) ∈ n1 ∧ N ≤ 1000 ∧ J 0 l n1 ∧
      (∀ i t l' ns I oI, i < N → J i l' ns → (∀ p ∈ ns, p.1 ≠ I) → RIt oI → GS w c ((x, .int (0 + (i : Int)) t) :: l') ((I, oI) :: ns) (execs body (envX cn cs c.L a ccd cl)) (loopF w c rest (envX cn cs c.L a ccd cl) I oI (J (i + 1)) f)) ∧
      (∀ l' n', J N l' n' → GS w c l' n' (execs rest (envX cn cs c.L a ccd cl)) f)) : GS w c l n (execs (.For (.Name x px) iter body [] pos :: rest) (envX cn cs c.L a ccd cl)) f :=
  gs_cons fun s at_ => by
    refine for_my (h₀ := c.h₀) (m := lk l) at_.F hx hp ?_ hs hpe
    refine wpAny_mono (h s at_) (fun v s1 ⟨n1, ⟨r, N, t1, t2, t3, J, e, hm, hN, hj, turn, done⟩, q⟩ => ?_) fun _ _ e => e
    subst e
    refine loop_rangeP (m₀ := lk l) (news := n1) (fun i m ns => ∃ l', m = lk l' ∧ J i l' ns) ok.hh (q.N _ hm).1 (small_rng (by omega) (by omega)) (by rw [rangeSize_nat]) q.F q.N ⟨l, rfl, hj⟩ ?_ ?_
    · rintro i t m₁ ns h' tk I oI hi ⟨l', rfl, hJ⟩ hoff hcI F' N'
      refine wpAny_mono (turn i t l' ns I oI hi hJ hoff hcI _ ⟨lk_cons ▸ F', N', q.g, q.d, q.o⟩) (fun fl s2 ⟨l2, n2, p2, q2⟩ => ?_) fun _ _ e => e
      have e2 : s2 = { s1 with heap := s2.heap, toks := s2.toks } := by
        have e3 := q2.eta rfl
        rw [e3]; show Shared.mk _ _ _ _ _ = Shared.mk _ _ _ _ _
        rw [q.g, q.d, q.o]
      have fin : ((I, oI) ∈ n2 ∧ ∃ n0 : Led, (∀ p ∈ n0, p ∈ n2 ∧ p.1 ≠ I) ∧ J (i + 1) l2 n0) → ∃ h' tk m' all, s2 = { s1 with heap := h', toks := tk } ∧ Fr c.h₀ c.L h' m' ∧ News c.h₀ c.L h' all ∧ (I, oI) ∈ all ∧ ∃ l', m' = lk l' ∧ J (i + 1) l' (all.filter fun p => decide (p.1 ≠ I)) := by
        rintro ⟨hI, n0, hn0, hJ2⟩
        refine ⟨s2.heap, s2.toks, lk l2, (I, oI) :: n0, e2, q2.F, News.less q2.N (fun p hp => by
          rcases List.mem_cons.mp hp with rfl | hp
          · exact hI
          · exact (hn0 p hp).1), .head _, l2, rfl, ?_⟩
        rw [show ((I, oI) :: n0).filter (fun p => decide (p.1 ≠ I)) = n0 from off_suf1 (tl := []) fun p hp => (hn0 p hp).2]
        exact hJ2
      cases fl with
      | ret v => exact ⟨l2, n2, p2, q2⟩
      | brk => exact ⟨l2, n2, p2, q2⟩
      | next => exact fin p2
      | cont => exact fin p2
    · rintro m₁ ns h' tk ⟨l', rfl, hJ⟩ F' N'
      exact ⟨l', ns, done l' ns hJ, ⟨F', N', q.g, q.d, q.o⟩⟩
/-- a comprehension over a range that takes nothing -/
theorem g_rc {ct elt iter : PySem.Expr} {x : Str} {px : Pos} {scope : Scope} {cl : List (Str × Addr)} {f : Value → Led → Prop} (ok : Ok w K c D U) (hclos : closureFor scope env = pure cl) (hcell : ∀ y ∈ scope.names, y.2 ≠ .cell) (hkind : scope.kind = .function)
    (hnames : ∀ y ∈ scope.names, y.2 = .local → scope.names.lookup y.1 = some .local) (hx : scope.names.lookup x = some .local) (hs : ∀ v, foldedSetIterable iter env v = pure v)
    (h : G w c l n (eval iter env) fun v n1 => ∃ (r : Addr) (N : Nat) (t1 t2 t3 : Tok), v = .ref r ∧ (r, rngO (N : Int) t1 t2 t3) ∈ n1 ∧ N ≤ 1000 ∧
      (∀ (c' : Cx) i t I oI C oC Da m₂, Ok w K c' D U → i < N → LCg.NsObj oC m₂ → m₂ x = some (.int (0 + (i : Int)) t) → G w c' l ((I, oI) :: (C, oC) :: (Da, lstO []) :: n1) (PySem.isTrue ct (compEnvC scope cl C env) (eval ct (compEnvC scope cl C env))) fun b n' => b = false ∧ ∀ p ∈ (I, oI) :: (C, oC) :: (Da, lstO []) :: n1, p ∈ n') ∧
      ∀ D, (∀ p ∈ n1, p.1 ≠ D) → let n' := (D, lstO []) :: n1; f (.ref D) n') : G w c l n (eval (.ListComp elt [⟨.Name x px, iter, [ct], 0⟩] scope pos) env) f := fun s at_ =>
  lr_eval at_.F hclos hcell hkind hnames hx (wpAny_mono (h s at_) (fun v s1 ⟨n1, ⟨r, N, t1, t2, t3, e, hm, hN, turn, fin⟩, q⟩ => by
    subst e
    refine RSrc.none ok.hh q.F q.N (q.N _ hm).1 (small_rng (by omega) (by omega)) (n := N) (by rw [rangeSize_nat]; congr 1) (by rw [sizeLine_eq]; omega) ?_ ?_
    · intro i t I oI C oC Da m₂ h tk E' hi hC hx' F' N'
      refine wpAny_mono (turn (c.withE E') i t I oI C oC Da m₂ (ok.withE E') hi hC hx' _ ⟨F', N', q.g, q.d, q.o⟩) (fun b s2 ⟨n2, p2, q2⟩ => ?_) fun _ _ e => e
      rw [like2 (h := h) (tk := tk) q q2 rfl]
      exact SkipR.of p2.1 q2.F (News.less q2.N p2.2)
    · intro g D h' tk F' N' o1
      exact ⟨_, fin D (off1_all o1), ⟨F', N', q.g, q.d, q.o⟩⟩) fun _ _ e => e) hs
end
end
section
theorem top_gs {w : World} {p : Program} {loose : List Str} {mean : ExcName → Option Value} {mg mb : Str → Option Value} {K : Frag} {g h₁ : Heap} {L f : Addr} {qual : Str} {scope : Scope} {cdv : Value} {binds l₀ : List (Str × Value)} {body : List Stmt} {n : Led} {tk : Nat} {s : Shared} {E : Value → Shared → Prop} {Q : Flow → Shared → Prop} (post : Flow → Loc → Led → Prop)
    (X : K.In g) (T : Top p loose mean mg mb g) (B : Below callerA g [] g) (F : Fr g L h₁ (bindL (envOfC qual scope L f cdv).kindOf binds fun _ => none)) (N : News g L h₁ n) (hk : scope.kind = .function)
    (hl0 : ∀ L, (binds.filter fun y => (envOfC qual scope L f cdv).kindOf y.1 == some .local).reverse = l₀)
    (pe : PassesOwn (model PR w) (callerA.deeper (envOfC qual scope L f cdv)) (envOfC qual scope L f cdv) E)
    (hb : ∀ c : Cx, c.L = L → c.h₀ = g → Ok w K c 40 6000 → Pe w c (envX qual scope c.L f cdv (cellsFrom (c.L + 1) scope.names [])) → GS w c l₀ n (execs body (envX qual scope c.L f cdv (cellsFrom (c.L + 1) scope.names []))) post)
    (fin : ∀ fl l n h' tk', post fl l n → Fr g L h' (lk l) → News g L h' n → Q fl { s with heap := h', toks := tk' }) :
    wpAny (model PR w) (callerA.deeper (envOfC qual scope L f cdv)) (execs body (envOfC qual scope L f cdv)) Q E { s with heap := h₁, toks := tk } := by
  have F2 : Fr g L h₁ (lk l₀) := by
    have e := bindL_filter (k := (envOfC qual scope L f cdv).kindOf) binds []
    rw [List.append_nil, hl0 L] at e
    rw [← e]
    exact F
  have ok : Ok w K ⟨callerA.deeper (envOfC qual scope L f cdv), g, L, s, E⟩ 40 6000 := by
    refine ⟨X, ⟨_, _, _, _, _, T⟩, ?_, rfl, ?_, ?_⟩
    · intro _ f' d' u' vs' n' l' Post' C hd' hu' fp hfp s1 a1
      exact Ctr.use (cn := qual) (cs := scope) (L := L) (a := f) (ccd := cdv) (cl := cellsFrom (L + 1) scope.names []) (outer := []) C B a1.F X a1.N T hk (Nat.lt_of_le_of_lt (Nat.add_le_add_left hd' _) (by decide)) (Nat.lt_of_le_of_lt (Nat.add_le_add_left hu' _) (by decide)) (fun r news' h' tk' F2 N2 P2 => ⟨news', hfp _ _ P2, F2, N2, a1.g, a1.d, a1.o⟩)
    · show callerA.units + 3 + 6000 < cLine; decide
    · show callerA.depth + 1 + 40 < recursionLimit; decide
  refine wpAny_mono (hb _ rfl rfl ok pe _ ⟨F2, N, rfl, rfl, rfl⟩) ?_ (fun _ _ e => e)
  rintro fl s' ⟨l', n', hp, a'⟩
  have e := a'.eta rfl
  rw [e]
  exact fin _ _ _ _ _ hp a'.F a'.N
end
section
theorem law_start_j {w : World} {c : Cx} {T lb dB xB dxB dA xA dxA pa D : Addr} {oT oB oA : Obj} {n1 nB nA n2 k : Nat} {hB hA : Int} {tB tA t0 : Tok} {ws : List Value} {zs : List Int} {rest : Led}
    (R : Real c ((T, oT) :: (lb, W.listOf #[.ref xA, .ref xB] n1) :: (dB, oB) :: (xB, instObj 152 dxB) :: (dxB, dictOf [⟨hB, .str (Str.ofString "rows") tB, .ref dB⟩] nB) :: (dA, oA) :: (xA, instObj 152 dxA) :: (dxA, dictOf [⟨hA, .str (Str.ofString "rows") tA, .ref dA⟩] nA) :: (pa, W.listOf #[.ref D, .int 0 t0] n2) :: (D, W.listOf ws.toArray k) :: rest))
    (hdB : oB.IsDictOf (PySem.strKind PR w) []) (hdA : oA.IsDictOf (PySem.strKind PR w) []) (loB : (dB == sysModules) = false) (loA : (dA == sysModules) = false) (hI : IntsAre ws zs) (hz : zs.length ≤ 56) (l1 : dA < dB) (l2 : D < pa) (hT : (170, tabObj #[]) ∈ rest) :
    ∃ (led : Led) (A B : Base) (n : Nat) (pa' lb' : Addr), pa' = pa ∧ lb' = lb ∧ ((T, oT) :: (lb, W.listOf #[.ref xA, .ref xB] n1) :: (dB, oB) :: (xB, instObj 152 dxB) :: (dxB, dictOf [⟨hB, .str (Str.ofString "rows") tB, .ref dB⟩] nB) :: (dA, oA) :: (xA, instObj 152 dxA) :: (dxA, dictOf [⟨hA, .str (Str.ofString "rows") tA, .ref dA⟩] nA) :: (pa, W.listOf #[.ref D, .int 0 t0] n2) :: (D, W.listOf ws.toArray k) :: rest) = led ∧ A.D = [] ∧ B.D = [] ∧ (∀ p ∈ rest, p ∈ led) ∧ PoolIs led pa ∧ Stand w led ([A] ++ [B]) ∧ Apart ([A] ++ [B]) ∧ (lb, W.listOf (allR [A] B).toArray n) ∈ led ∧ lb ≠ pa ∧ TabIs led := by
  obtain ⟨h, N⟩ := R
  refine ⟨_, ⟨xA, dA, []⟩, ⟨xB, dB, []⟩, n1, pa, lb, rfl, rfl, rfl, rfl, rfl, fun p hp => .tail _ (.tail _ (.tail _ (.tail _ (.tail _ (.tail _ (.tail _ (.tail _ (.tail _ (.tail _ hp))))))))), ?_, ?_, ?_, .tail _ (.head _), ?_, .inl ?_⟩
  · refine ⟨D, ws, zs, 0, t0, n2, k, ?_, ?_, Nat.ne_of_lt l2, hI, Int.le_refl _, hz⟩
    · iterate 8 (refine .tail _ ?_)
      exact .head _
    · iterate 9 (refine .tail _ ?_)
      exact .head _
  · intro b hb
    simp only [List.cons_append, List.nil_append, List.mem_cons, List.not_mem_nil, or_false] at hb
    rcases hb with rfl | rfl
    · refine ⟨⟨dxA, hA, tA, nA, ?_, ?_⟩, db_nil ?_ loA hdA⟩
      · iterate 6 (refine .tail _ ?_)
        exact .head _
      · iterate 7 (refine .tail _ ?_)
        exact .head _
      · iterate 5 (refine .tail _ ?_)
        exact .head _
    · refine ⟨⟨dxB, hB, tB, nB, ?_, ?_⟩, db_nil ?_ loB hdB⟩
      · iterate 3 (refine .tail _ ?_)
        exact .head _
      · iterate 4 (refine .tail _ ?_)
        exact .head _
      · iterate 2 (refine .tail _ ?_)
        exact .head _
  · have : dA ≠ dB := Nat.ne_of_lt l1
    simp [Apart, this]
  · rintro rfl
    have m8 := N.get (a := lb) (.tail _ (.tail _ (.tail _ (.tail _ (.tail _ (.tail _ (.tail _ (.tail _ (.head _)))))))))
    have e := (N.get (.tail _ (.head _))).symm.trans m8
    simp [W.listOf] at e
  · iterate 10 (refine .tail _ ?_)
    exact hT
/-- what stands amid a turn of the law -/
structure LF (w : World) (pa la I c3 c2 c1 : Addr) (oI o3 o2 o1 : Obj) (bs : List Base) (k : Nat) (n : Led) : Prop where
  kI : (I, oI) ∈ n
  k3 : (c3, o3) ∈ n
  k2 : (c2, o2) ∈ n
  k1 : (c1, o1) ∈ n
  lst : (la, W.listOf (refs bs).toArray k) ∈ n
  pool : PoolIs n pa
  tab : TabIs n
  stand : Stand w n bs
section
variable {w : World} {c : Cx} {pa la I c3 c2 c1 : Addr} {oI o3 o2 o1 : Obj} {v3 v2 v1 : Option Value} {bs : List Base} {k : Nat} {n n' : Led}
theorem LF.sub (h : LF w pa la I c3 c2 c1 oI o3 o2 o1 bs k n) (hs : ∀ p ∈ n, p ∈ n') : LF w pa la I c3 c2 c1 oI o3 o2 o1 bs k n' :=
  ⟨hs _ h.kI, hs _ h.k3, hs _ h.k2, hs _ h.k1, hs _ h.lst, PoolIs.sub hs h.pool, h.tab.sub hs, h.stand.sub hs⟩
theorem LF.draw (h : LF w pa la I c3 c2 c1 oI o3 o2 o1 bs k n) (na : I ≠ pa ∧ c3 ≠ pa ∧ c2 ≠ pa ∧ c1 ≠ pa) (hlp : la ≠ pa) (e : Ext [pa] [] n n') (p : PoolIs n' pa) (t : TabIs n') : LF w pa la I c3 c2 c1 oI o3 o2 o1 bs k n' :=
  ⟨e.kept _ h.kI (not_mem1 na.1) List.not_mem_nil, e.kept _ h.k3 (not_mem1 na.2.1) List.not_mem_nil, e.kept _ h.k2 (not_mem1 na.2.2.1) List.not_mem_nil, e.kept _ h.k1 (not_mem1 na.2.2.2) List.not_mem_nil,
    e.lst _ h.lst rfl (not_mem1 hlp), p, t, h.stand.ext e (fun _ _ => List.not_mem_nil)⟩
/-- a cell's store: what is no cell stays -/
theorem LF.keep (h : LF w pa la I c3 c2 c1 oI o3 o2 o1 bs k n) {a : Addr} {o o' : Obj} {v : Option Value} (r : Real c n) (ha : (a, o) ∈ n) (hd : o.data = .cell v) (hIa : I ≠ a) :
    let z := (a, o') :: n.filter fun p => decide (p.1 ≠ a)
    (I, oI) ∈ z ∧ (la, W.listOf (refs bs).toArray k) ∈ z ∧ PoolIs z pa ∧ TabIs z ∧ Stand w z bs := by
  have kp : ∀ b ob, (b, ob) ∈ n → (∀ v, ob.data ≠ .cell v) → (b, ob) ∈ (a, o') :: n.filter fun p => decide (p.1 ≠ a) := fun b ob hm hv => .tail _ (List.mem_filter.mpr ⟨hm, decide_eq_true (cell_away r ha hd hm hv)⟩)
  refine ⟨.tail _ (List.mem_filter.mpr ⟨h.kI, decide_eq_true hIa⟩), kp _ _ h.lst (fun v e => nomatch e), store_pool r ha hd h.pool, ?_, stand_keep (fun b o hm hv _ => kp b o hm hv) h.stand⟩
  rcases h.tab with hh | ⟨c', oc, vs, t, hh, hk, hf, hv⟩
  · exact .inl (kp _ _ hh (fun v e => nomatch e))
  · exact .inr ⟨c', oc, vs, t, kp _ _ hh (fun v e => nomatch e), kp _ _ hk (fun v e => by rw [hf] at e; exact nomatch e), hf, hv⟩
theorem LF.st1 {o' : Obj} {v : Option Value} (h : LF w pa la I c3 c2 c1 oI o3 o2 o1 bs k n) (hIa : I ≠ c1) (r : Real c n) (hd : o1.data = .cell v) (h3 : c3 ≠ c1) (h2 : c2 ≠ c1) : LF w pa la I c3 c2 c1 oI o3 o2 o' bs k ((c1, o') :: n.filter fun p => decide (p.1 ≠ c1)) := by
  obtain ⟨a1, a2, a3, a4, a5⟩ := h.keep (o' := o') r h.k1 hd hIa
  exact ⟨a1, .tail _ (List.mem_filter.mpr ⟨h.k3, decide_eq_true h3⟩), .tail _ (List.mem_filter.mpr ⟨h.k2, decide_eq_true h2⟩), .head _, a2, a3, a4, a5⟩
theorem LF.st2 {o' : Obj} {v : Option Value} (h : LF w pa la I c3 c2 c1 oI o3 o2 o1 bs k n) (hIa : I ≠ c2) (r : Real c n) (hd : o2.data = .cell v) (h3 : c3 ≠ c2) (h1 : c1 ≠ c2) : LF w pa la I c3 c2 c1 oI o3 o' o1 bs k ((c2, o') :: n.filter fun p => decide (p.1 ≠ c2)) := by
  obtain ⟨a1, a2, a3, a4, a5⟩ := h.keep (o' := o') r h.k2 hd hIa
  exact ⟨a1, .tail _ (List.mem_filter.mpr ⟨h.k3, decide_eq_true h3⟩), .head _, .tail _ (List.mem_filter.mpr ⟨h.k1, decide_eq_true h1⟩), a2, a3, a4, a5⟩
theorem LF.st3 {o' : Obj} {v : Option Value} (h : LF w pa la I c3 c2 c1 oI o3 o2 o1 bs k n) (hIa : I ≠ c3) (r : Real c n) (hd : o3.data = .cell v) (h2 : c2 ≠ c3) (h1 : c1 ≠ c3) : LF w pa la I c3 c2 c1 oI o' o2 o1 bs k ((c3, o') :: n.filter fun p => decide (p.1 ≠ c3)) := by
  obtain ⟨a1, a2, a3, a4, a5⟩ := h.keep (o' := o') r h.k3 hd hIa
  exact ⟨a1, .head _, .tail _ (List.mem_filter.mpr ⟨h.k2, decide_eq_true h2⟩), .tail _ (List.mem_filter.mpr ⟨h.k1, decide_eq_true h1⟩), a2, a3, a4, a5⟩
/-- data stay where a cell is stored into -/
theorem store_dat {a : Addr} {o o' : Obj} {v : Option Value} (r : Real c n) (h : (a, o) ∈ n) (hd : o.data = .cell v) {v' : Value} {d : Dat} (hD : DatIn n v' d) : DatIn ((a, o') :: n.filter fun p => decide (p.1 ≠ a)) v' d := by
  refine DatIn.upQ (fun p hp ⟨vs, k, e⟩ => ?_) (fun p hp ⟨vs, k, e⟩ => ?_) hD
  · obtain ⟨b, ob⟩ := p
    cases e
    exact .tail _ (List.mem_filter.mpr ⟨hp, decide_eq_true (cell_away r h hd hp fun v e => nomatch e)⟩)
  · obtain ⟨b, ob⟩ := p
    cases e
    exact .tail _ (List.mem_filter.mpr ⟨hp, decide_eq_true (cell_away r h hd hp fun v e => nomatch e)⟩)
end
/-- a, b = (x, y) where a stands in a cell -/
theorem gs_unpack2c {w : World} {c : Cx} {l : Loc} {n : Led} {K : Frag} {D U : Nat} {pos : Pos} {cn : Str} {cs : Scope} {a : Addr} {ccd : Value} {cl : List (Str × Addr)} {x y : Str} {px py : Pos} {k : Nat} {tpos : Pos} {e : PySem.Expr} {rest : List Stmt} {f : Flow → Loc → Led → Prop} {cc : Addr} (ok : Ok w K c D U) (hlk : List.lookup x cl = some cc) (hc : cs.kind = .function) (hx : (envX cn cs c.L a ccd cl).kindOf x = some .cell) (hy : (envX cn cs c.L a ccd cl).kindOf y = some .local)
    (hs1 : swapsWithSole [.Tuple [.Name x px, .Name y py] k tpos] e pos.line (envX cn cs c.L a ccd cl) = pure false) (hs2 : swappedStores [.Tuple [.Name x px, .Name y py] k tpos] e (envX cn cs c.L a ccd cl) = pure none)
    (h : G w c l n (eval e (envX cn cs c.L a ccd cl)) fun v n1 => ∃ (t : Addr) (u1 u2 : Value) (nn : Nat) (o : Obj) (v₀ : Option Value), v = .ref t ∧ (t, tupO [u1, u2] nn) ∈ n1 ∧ (cc, o) ∈ n1 ∧ o.data = .cell v₀ ∧ ∀ o' : Obj, o'.data = .cell (some u1) → Real c n1 → let n' := (cc, o') :: n1.filter (fun p => decide (p.1 ≠ cc)); GS w c ((y, u2) :: l) n' (execs rest (envX cn cs c.L a ccd cl)) f) : GS w c l n (execs (.Assign [.Tuple [.Name x px, .Name y py] k tpos] e pos :: rest) (envX cn cs c.L a ccd cl)) f :=
  gs_cons fun s at_ => Assign_Tuple (wpAny_mono (h s at_) (fun _ s1 ⟨n1, ⟨t, u1, u2, nn, o, v₀, e, hm, hcm, hcd, p⟩, q⟩ => by
    subst e
    refine unpackN_ q.F q.N (News.isTup q.N hm) ok.hh rfl rfl (fun h' F' N' => ?_)
    refine wpAny_assignInOrder_more (wpAny_assign_Name (storeX_C (s := { s1 with heap := h' }) (news := (cc, o) :: n1.filter (fun p => decide (p.1 ≠ cc))) F' (News.less N' fun p hp => by
      rcases List.mem_cons.mp hp with rfl | hp
      · exact hcm
      · exact (List.mem_filter.mp hp).1) hlk (.head fun p hp => of_decide_eq_true (List.mem_filter.mp hp).2) hcd (fun h2 o' F2 N2 hd' => ?_) hc hx))
    refine wpAny_assignInOrder_more (wpAny_assign_Name (storeX_L F2 N2 (fun h3 F3 N3 => ?_) hc hy))
    exact wpAny_assignInOrder_none ⟨_, _, p o' hd' ⟨_, q.N⟩, ⟨lk_cons ▸ F3, N3, q.g, q.d, q.o⟩⟩) fun _ _ e => e) hs1 hs2
theorem g_callT {w : World} {c : Cx} {l : Loc} {n : Led} {env : Env} {pos : Pos} {id : String} {e : PySem.Expr} {es : List PySem.Expr} {f : Value → Led → Prop} (hst : starEach (e :: es) env = (false, eval e env) :: starEach es env) (han : (backTo pos (starEach es env)).any (fun x => x.1) = false) (h : G w c l n (spliced (backTo pos (starEach (e :: es) env))) fun vs n2 => G w c l n2 (call (.type id) vs) f) :
    G w c l n (callWith pos (.type id) [] (backTo pos (starEach (e :: es) env)) []) f := fun s at_ =>
  PyProof.Rows.callWith_type1 (wpAny_mono (h s at_) (fun _ _ ⟨_, p, q⟩ => p _ q) fun _ _ e => e) hst han
theorem ints_take {vs : List Value} {ns : List Int} (h : IntsAre vs ns) : ∀ k, IntsAre (vs.take k) (ns.take k) := by
  induction h with
  | nil => intro k; cases k <;> exact .nil
  | cons _ _ _ ih =>
    intro k
    cases k with
    | zero => exact .nil
    | succ k => exact .cons _ _ (ih k)
theorem cells_pa {c : Cx} {n : Led} {pa c3 c2 c1 : Addr} {o3 o2 o1 : Obj} {v3 v2 v1 : Option Value} (r : Real c n) (hP : PoolIs n pa) (m3 : (c3, o3) ∈ n) (m2 : (c2, o2) ∈ n) (m1 : (c1, o1) ∈ n) (d3 : o3.data = .cell v3) (d2 : o2.data = .cell v2) (d1 : o1.data = .cell v1) : c3 ≠ pa ∧ c3 ≠ pa ∧ c2 ≠ pa ∧ c1 ≠ pa := by
  obtain ⟨h, N⟩ := r
  exact ⟨cell_ne N hP m3 d3, cell_ne N hP m3 d3, cell_ne N hP m2 d2, cell_ne N hP m1 d1⟩
theorem LF.start {w : World} {pa la c3 c2 c1 : Addr} {o3 o2 o1 : Obj} {A B : Base} {k : Nat} {n : Led} (m3 : (c3, o3) ∈ n) (m2 : (c2, o2) ∈ n) (m1 : (c1, o1) ∈ n) (hl : (la, W.listOf (allR [A] B).toArray k) ∈ n) (hP : PoolIs n pa) (hT : TabIs n) (hS : Stand w n ([A] ++ [B])) : LF w pa la c3 c3 c2 c1 o3 o3 o2 o1 ([A] ++ [B]) k n :=
  ⟨m3, m3, m2, m1, hl, hP, hT, hS⟩
/-- a draw, the table kept -/
theorem draw_j {w : World} {c : Cx} {l : Loc} {n : Led} {D U : Nat} {pa la I c3 c2 c1 : Addr} {oI o3 o2 o1 : Obj} {bs : List Base} {k : Nat} {many : Int} {tm : Tok} {f : Value → Led → Prop} (ok : Ok w (hd.heap_39 w.params) c D U) (H : LF w pa la I c3 c2 c1 oI o3 o2 o1 bs k n) (na : I ≠ pa ∧ c3 ≠ pa ∧ c2 ≠ pa ∧ c1 ≠ pa) (hlp : la ≠ pa) (hm : 1 ≤ many) (hD : 3 ≤ D) (hU : 300 ≤ U)
    (h : ∀ n' v t, LF w pa la I c3 c2 c1 oI o3 o2 o1 bs k n' → Ext [pa] [] n n' → 0 ≤ v → v < many → f (.int v t) n') : G w c l n (call (.ref 163) [.ref pa, .int many tm]) f := by
  refine ok.can (drawn_t w n pa many tm H.pool H.tab hm) hD hU ?_
  rintro r n' ⟨⟨e, p, v, t, rfl, v0, v1⟩, T⟩
  exact h n' v t (H.draw na hlp e p T) e v0 v1
/-- what stands between two turns -/
def LJ (w : World) (pa c3 c2 c1 : Addr) (late wh : Int) (i : Nat) (la : Addr) (nw : Int) (ns : Led) : Prop :=
  ∃ (o3 o2 o1 : Obj) (v3 v2 v1 : Option Value) (init : List Base) (first last : Base) (k : Nat), LF w pa la c3 c3 c2 c1 o3 o3 o2 o1 (first :: init ++ [last]) k ns ∧ o3.data = .cell v3 ∧ o2.data = .cell v2 ∧ o1.data = .cell v1 ∧ la ≠ pa ∧ Apart (first :: init ++ [last]) ∧ Rel (first :: init) last first.D late nw (7 + (i : Int)) ∧
    ((init = [] ∧ (i : Int) ≤ wh) ∨ ∃ b, init = [b] ∧ wh < (i : Int))
theorem LF.iter {w : World} {pa la c3 c2 c1 I : Addr} {o3 o2 o1 oI : Obj} {bs : List Base} {k : Nat} {n : Led} (h : LF w pa la c3 c3 c2 c1 o3 o3 o2 o1 bs k n) : LF w pa la I c3 c2 c1 oI o3 o2 o1 bs k ((I, oI) :: n) :=
  ⟨.head _, .tail _ h.k3, .tail _ h.k2, .tail _ h.k1, .tail _ h.lst, PoolIs.sub (fun p hp => .tail _ hp) h.pool, h.tab.sub (fun p hp => .tail _ hp), h.stand.sub (fun p hp => .tail _ hp)⟩
theorem LF.off {w : World} {c : Cx} {pa la c3 c2 c1 I : Addr} {o3 o2 o1 oI : Obj} {bs : List Base} {k : Nat} {n : Led} (h : LF w pa la I c3 c2 c1 oI o3 o2 o1 bs k n) (r : Real c n) (hI : RIt oI) (i3 : c3 ≠ I) (i2 : c2 ≠ I) (i1 : c1 ≠ I) : LF w pa la c3 c3 c2 c1 o3 o3 o2 o1 bs k (n.filter fun p => decide (p.1 ≠ I)) := by
  obtain ⟨h0, N⟩ := r
  have k0 := iter_off N h.kI hI
  have e3 : (c3, o3) ∈ n.filter fun p => decide (p.1 ≠ I) := List.mem_filter.mpr ⟨h.k3, decide_eq_true i3⟩
  refine ⟨e3, e3, List.mem_filter.mpr ⟨h.k2, decide_eq_true i2⟩, List.mem_filter.mpr ⟨h.k1, decide_eq_true i1⟩, k0 _ _ h.lst (.inl lNe), ?_, ?_, stand_keep (fun b o hm _ hc => k0 b o hm (.inl hc)) h.stand⟩
  · obtain ⟨la, vs, ns, c, t, n1, n2, hp1, hp2, hp3⟩ := h.pool
    exact ⟨la, vs, ns, c, t, n1, n2, k0 _ _ hp1 (.inl lNe), k0 _ _ hp2 (.inl lNe), hp3⟩
  · rcases h.tab with hh | ⟨c', oc, vs, t, hh, hk, hf, hv⟩
    · exact .inl (k0 _ _ hh (.inl fun e => nomatch e))
    · exact .inr ⟨c', oc, vs, t, k0 _ _ hh (.inl fun e => nomatch e), k0 _ _ hk (.inr ⟨vs, _, _, hf, hv⟩), hf, hv⟩
theorem I_pa {c : Cx} {n : Led} {pa I : Addr} {oI : Obj} (r : Real c n) (hP : PoolIs n pa) (kI : (I, oI) ∈ n) (hI : RIt oI) : I ≠ pa := by
  obtain ⟨h, N⟩ := r
  exact pool_ne N hP kI (by rw [hI.1]; decide)
theorem cellsL3 {L : Nat} : L + 1 + 1 + 1 ≠ L + 1 ∧ L + 1 + 1 ≠ L + 1 ∧ L + 1 + 1 + 1 ≠ L + 1 + 1 := by omega
theorem gs_expr {w : World} {c : Cx} {l : Loc} {n : Led} {env : Env} {pos : Pos} {e : PySem.Expr} {rest : List Stmt} {f : Flow → Loc → Led → Prop} (hi : interactive env = false) (hs : swapsWith e none pos.line env = pure false) (h : G w c l n (eval e env) fun v n' => (∃ b, v = .bool b) ∧ GS w c l n' (execs rest env) f) : GS w c l n (execs (.Expr e pos :: rest) env) f :=
  gs_cons fun s at_ => wpAny_Expr (wpAny_mono (h s at_) (fun v _ ⟨_, ⟨⟨b, e⟩, p⟩, q⟩ => by subst e; exact ⟨_, _, p, q⟩) fun _ _ e => e) hi hs
theorem gs_skip {w : World} {c : Cx} {l : Loc} {n : Led} {env : Env} {f : Flow → Loc → Led → Prop} {J : Loc → Led → Prop} (h : J l n) : GS w c l n (execs [] env) (joinF J f) := gs_nil h
theorem gb_call {w : World} {c : Cx} {l : Loc} {n : Led} {env : Env} {e : PySem.Expr} {whole : Sem Value} {f : Bool → Led → Prop} (he : PySem.isTrue e env whole = (do let v ← whole; standAt e.pos; holding [v] (truthy v))) (h : G w c l n whole fun v n1 => G w c l n1 (truthy v) f) : G w c l n (PySem.isTrue e env whole) f := fun s at_ =>
  isTrue_plain (wpAny_mono (h s at_) (fun _ _ ⟨_, p, q⟩ => p _ q) fun _ _ e => e) he
end
section
example : True := by
  k_with_none
  k_with "memp" => first | (with_reducible exact List.mem_cons_self) | ((with_reducible refine List.mem_cons_of_mem _ ?_); k_extra "memp") | ((with_reducible refine List.mem_append_right _ ?_); k_extra "memp") | fail "no"
  k_with "sub" => first | with_reducible exact fun _ h => h | with_reducible assumption | ((with_reducible refine fun p h => List.mem_cons_of_mem _ ?_); revert p h; k_extra "sub") | ((with_reducible refine fun p h => List.mem_append_right _ ?_); revert p h; k_extra "sub") | ((with_reducible refine' sub_chain ?sh ?sk); (case sh => with_reducible assumption); (case sk => k_extra "sub")) | fail "no"
  k_with "memq" => first | with_reducible assumption | (refine' mem_upK ?hmq ?smq; (case hmq => with_reducible assumption); (case smq => k_extra "sub")) | k_extra "memp" | fail "no"
  k_with "lk" => first | exact rfl | with_reducible assumption | (refine' lk_skip rfl ?_; k_extra "lk") | fail "no"
  k_with "g1" => first
    | ((with_reducible refine' g_name ?gv ?ga ?gb ?gc ?_); (case ga => exact rfl); (case gb => exact rfl); (case gc => exact rfl); (case gv => k_extra "lk"))
    | ((with_reducible refine' g_cell ?gx ?gm ?gd ?ga ?gb ?gc ?_); (case ga => exact rfl); (case gb => exact rfl); (case gc => exact rfl); (case gx => exact rfl); (case gm => k_extra "memq"); (case gd => with_reducible assumption))
    | ((with_reducible refine' g_int ?_); intro tk)
    | (with_reducible refine' g_none ?_) | (with_reducible refine' g_bool ?_) | ((with_reducible refine' g_str ?_); intro tk)
    | ((with_reducible refine' g_glob ?go ?gv ?ga ?gb ?gc ?_); (case go => assumption); (case ga => exact rfl); (case gb => exact rfl); (case gc => exact rfl); (case gv => k_is))
    | ((with_reducible refine' g_built ?go ?gv ?gw ?gx ?ga ?gb ?gc ?_); (case go => assumption); (case ga => exact rfl); (case gb => exact rfl); (case gc => exact rfl); (case gv => k_is); (case gw => boot_fast); (case gx => decide))
    | ((with_reducible refine' gk_own ?gm ?gC ?gx ?ga ?gb ?gc ?_); (case ga => exact rfl); (case gb => exact rfl); (case gc => exact rfl); (case gC => with_reducible assumption); (case gx => with_reducible assumption); (case gm => k_extra "memq"))
    | ((with_reducible refine' gk_glob ?go ?gv ?gg ?ga ?gb ?gc ?_); (case go => assumption); (case gg => exact rfl); (case ga => exact rfl); (case gb => exact rfl); (case gc => exact rfl); (case gv => k_is))
    | ((with_reducible refine' gk_cell ?gx ?gm ?gd ?ga ?gb ?gc ?_); (case ga => exact rfl); (case gb => exact rfl); (case gc => exact rfl); (case gx => exact rfl); (case gm => k_extra "memq"); (case gd => with_reducible assumption))
    | ((with_reducible refine' gk_free ?gx ?gm ?gd ?ga ?gb ?gc ?ge ?_); (case ga => exact rfl); (case gb => exact rfl); (case gc => exact rfl); (case ge => exact rfl); (case gx => exact rfl); (case gm => k_extra "memq"); (case gd => with_reducible assumption))
    | ((with_reducible refine' g_take56 ?gs ?_); (case gs => (intro _ _; with_unfolding_all rfl)))
    | (with_reducible refine' ga_nil ?_) | ((with_reducible refine' ga_cons ?ga ?_); (case ga => exact rfl))
    | ((with_reducible refine' g_meth ?ga ?_); (case ga => with_unfolding_all rfl))
    | ((with_reducible refine' g_call ?ga ?_); (case ga => with_unfolding_all rfl))
    | ((with_reducible refine' g_rest ?gs ?_); (case gs => (intro _ _; with_unfolding_all rfl)))
    | ((with_reducible refine' g_init ?gs ?_); (case gs => (intro _ _; with_unfolding_all rfl)))
    | ((with_reducible refine' g_one ?gs ?_); (case gs => (intro _ _; with_unfolding_all rfl)))
    | (with_reducible refine' g_subs ?_) | (with_reducible refine' g_bin ?_) | (with_reducible refine' g_tuple ?_) | (with_reducible refine' g_list ?_) | (with_reducible refine' g_un ?_)
    | ((with_reducible refine' g_callT ?ga ?gb ?_); (case ga => exact rfl); (case gb => exact rfl)) | (with_reducible refine' g_range ?_)
    | ((with_reducible refine' g_callB ?ga ?gb ?_); (case ga => exact rfl); (case gb => exact rfl)) | ((with_reducible refine' g_callW ?go ?gv ?ga ?gb ?_); (case go => assumption); (case gv => k_is); (case ga => exact rfl); (case gb => exact rfl)) | ((with_reducible refine' g_callW0 ?go ?gv ?_); (case go => assumption); (case gv => k_is))
    | ((with_reducible refine' g_dbmeth ?gk ?go ?g1 ?g2 ?g3 ?g4 ?_); (case gk => assumption); (case go => with_reducible assumption); (case g1 => k_is); (case g2 => k_is); (case g3 => k_is); (case g4 => (intro _ _; k_get)))
    | ((with_reducible refine' g_attr ?ga ?_); (case ga => with_unfolding_all rfl))
    | ((with_reducible refine' g_rowsattr ?gk ?go ?g1 ?g2 ?g3 ?g4 ?g5 ?g6 ?_); (case gk => assumption); (case go => with_reducible assumption); (case g1 => k_is); (case g2 => k_is); (case g3 => k_is); (case g4 => k_is); (case g5 => (intro _ _; k_get)); (case g6 => k_handed))
    | (with_reducible refine' gc_is_nn ?_) | (with_reducible refine' gc_is_in ?_) | (with_reducible refine' gc_isnot_in ?_) | (with_reducible refine' gc_isnot_nn ?_) | (with_reducible refine' gc_is_rn ?_) | (with_reducible refine' gc_isnot_rn ?_)
    | (with_reducible refine' conj_t ?_) | (with_reducible refine' conj_f ?_)
    | (with_reducible refine' thenF_next ?_) | (with_reducible refine' gs_ret ?_) | ((with_reducible refine' gs_assign ?ga ?gb ?gc ?_); (case ga => exact rfl); (case gb => exact rfl); (case gc => exact rfl))
    | ((with_reducible refine' gb_cmp ?ga ?_); (case ga => exact rfl)) | (with_reducible refine' gt_bool ?_) | (with_reducible refine' gb_and ?_) | (with_reducible refine' gb_and0 ?_) | (with_reducible refine' gb_or ?_) | (with_reducible refine' gb_or0 ?_) | (with_reducible refine' gb_not ?_)
    | ((with_reducible refine' g_cmp ?ga ?_); (case ga => exact rfl)) | (with_reducible refine' g_and ?_)
    | (with_reducible refine' gc_lt ?_) | (with_reducible refine' gc_le ?_) | (with_reducible refine' gc_gt ?_) | (with_reducible refine' gc_ge ?_) | (with_reducible refine' gc_eq ?_) | (with_reducible refine' gc_ne ?_)
    | ((with_reducible refine' gb_chain2 ?ga ?_); (case ga => exact rfl))
    | ((with_reducible refine' g_add ?_); intro tk) | ((with_reducible refine' g_sub ?_); intro tk) | ((with_reducible refine' g_neg ?_); intro tk) | ((with_reducible refine' g_min ?go ?_); (case go => assumption); intro tk)
    | ((with_reducible refine' And.intro ?gz ?_); (case gz => exact Nat.le_of_ble_eq_true rfl); intro D' hD' n9')
    | ((with_reducible refine' g_cat ?gm ?gn ?gz ?_); (case gm => k_extra "memq"); (case gn => k_extra "memq"); (case gz => exact Nat.le_of_ble_eq_true rfl); intro D' hD' n9')
    | ((with_reducible refine' g_tup ?gm ?g0 ?gf ?gv ?gs ?_); (case gm => k_extra "memq"); (case g0 => decide); (case gf => decide); (case gv => exact rfl); (case gs => with_unfolding_all rfl))
    | fail "no"
  k_with "gi" => first | k_extra "g1" | (with_reducible refine' gs_if1 ?_) | (with_reducible refine' gs_if ?_) | fail "no"
  k_with "glc" => first
    | ((with_reducible refine' g_lc ?lb ?lc ?ld ?le ?lf ?li ?_); (case lb => with_unfolding_all rfl); (case lc => decide); (case ld => exact rfl); (case le => decide); (case lf => exact rfl); (case li => exact fun _ => rfl))
    | ((with_reducible refine' gs_lc ?la ?lb ?lc ?ld ?le ?lf ?lg ?lh ?li ?_); (case la => with_unfolding_all rfl); (case lb => with_unfolding_all rfl); (case lc => decide); (case ld => exact rfl); (case le => decide); (case lf => exact rfl); (case lg => exact rfl); (case lh => exact rfl); (case li => exact fun _ => rfl))
    | fail "no"
  k_with "grc" => first
    | ((with_reducible refine' g_rc ?lo ?lb ?lc ?ld ?le ?lf ?li ?_); (case lo => assumption); (case lb => with_unfolding_all rfl); (case lc => decide); (case ld => exact rfl); (case le => decide); (case lf => exact rfl); (case li => exact fun _ => rfl))
    | fail "no"
  trivial
theorem law1 : PySem.Challenge.rw_sj0177_01.Holds := _root_.hd (by
  k_go0
  clear codeHd
  dsimp only
  refine' top_gs (fun fl _ n => retV fl = .bool true ∧ TabIs n) ?tX ?tT ?tB ?tF ?tN ?tk ?tl ?tp ?tb ?tf
  case tX => assumption
  case tT => assumption
  case tB => assumption
  case tF => assumption
  case tN => assumption
  case tk => exact rfl
  case tl => exact fun _ => rfl
  case tp => passes_own
  case tf =>
    rintro fl l n h' tk' ⟨e, hT⟩ F N
    obtain ⟨psz, hpz⟩ := hT.obj
    cases fl with
    | ret v =>
      have e2 : v = .bool true := e
      subst e2
      clear e
      k_steps
    | next => exact nomatch e
    | brk => exact nomatch e
    | cont => exact nomatch e
  case tb =>
    rename IntsAre _ _ => hInt
    rename Frag.In _ _ => hXX
    intro c hcL hcg ok pe
    rename List Int => ws
    rename News _ _ _ _ => N0
    clear N0
    rename World => ww
    rename (Obj.data _ = Data.cell (bindC _ _ _ (Str.ofString "later"))) => d3
    rename (Obj.data _ = Data.cell (bindC _ _ _ (Str.ofString "before"))) => d2
    rename (Obj.data _ = Data.cell (bindC _ _ _ (Str.ofString "gap"))) => d1
    replace d3 : _ = Data.cell none := d3
    replace d2 : _ = Data.cell none := d2
    replace d1 : _ = Data.cell none := d1
    rename Heap.IsList (ghostOf _ _) _ _ => hBase
    rw [← hcg] at hBase
    have l17 : 170 < c.L := by rw [hcL]; assumption
    rw [← hcL]
    show GS ww c [(Str.ofString "script", Value.ref _)] _ _ _
    refine' gs_assign3 ok ?e1 ?e2 ?e3 ?e4 ?e5 ?e6 ?_
    case e1 => exact rfl
    case e5 => with_unfolding_all rfl
    case e6 => with_unfolding_all rfl
    case e2 => exact rfl
    case e3 => exact rfl
    case e4 => exact rfl
    repeat' (k_extra "g1")
    have hlen : ws.length ≤ 63 := by
      rename ¬ (((63 : Nat) : Int) < _) => hc
      omega
    have hvl := ints_len hInt
    refine' ⟨_, _, rfl, hBase, by omega, ?_⟩
    intro Ds hDs ns
    repeat' (k_extra "g1")
    refine' g_listcopy (.head _) (Nat.le_trans (List.length_take_le _ _) (by decide)) ?_
    intro D k hD nD
    repeat' (k_extra "g1")
    have l2 : D < D' := hD' _ (.head _)
    refine' ok.can (newdb_c ww n9') (by decide) (by decide) ?_
    rintro r1 n1 ⟨xA, dA, dxA, oA, hA, tA, nA, rfl, rfl, hdA, loA, ltA⟩
    repeat' (k_extra "g1")
    refine' ok.can (newdb_c ww _) (by decide) (by decide) ?_
    rintro r2 n2 ⟨xB, dB, dxB, oB, hB, tB, nB, rfl, rfl, hdB, loB, ltB⟩
    have l1 : dA < dB := ltB _ (.head _)
    repeat' (k_extra "g1")
    refine' ⟨D', _, _, _, 0, rfl, .head _, ?_⟩
    refine' GS.real (fun rr => ?_)
    obtain ⟨led, bA, bB, nl, pa, lb, epa, elb, hled, hAD, hBD, sR, hP, hS, hA, hlb, hlp, hT⟩ := law_start_j (w := ww) rr hdB hdA loB loA (ints_take hInt 56) (List.length_take_le _ _) l1 l2 (.tail _ (.tail _ (.tail _ (.tail _ (.head _)))))
    refine' GS.weak (n0 := led) (fun p hp => by rw [← hled] at hp; exact hp) ?_
    have m3 := sR _ (.tail _ (.head _))
    have m2 := sR _ (.tail _ (.tail _ (.head _)))
    have m1 := sR _ (.tail _ (.tail _ (.tail _ (.head _))))
    clear rr hled
    subst epa elb
    refine' GS.real (fun rr => ?_)
    have na := cells_pa rr hP m3 m2 m1 d3 d2 d1
    have H := LF.start m3 m2 m1 hlb hP hT hS
    repeat' (k_extra "g1")
    refine' draw_j ok H na hlp (by decide) (by decide) (by decide) ?_
    intro nA vL tL HA _ vL0 vL1
    repeat' (k_extra "g1")
    refine' draw_j ok HA na hlp (by decide) (by decide) (by decide) ?_
    intro nB vW tW HB _ vW0 vW1
    repeat' (k_extra "g1")
    rename Tok => tkW
    refine' gs_for_range ok pe rfl rfl (fun _ => rfl) ?_
    repeat' (k_extra "g1")
    refine' draw_j ok HB na hlp (by decide) (by decide) (by decide) ?_
    intro nC vR tR HC _ vR0 vR1
    repeat' (k_extra "g1")
    intro r t1 t2 t3 hr nr
    refine' ⟨r, (4 + vR).toNat, t1, t2, t3, fun i l' ns => ∃ la nw tn, (lk l' (Str.ofString "pool") = some (.ref pa) ∧ lk l' (Str.ofString "bases") = some (.ref la) ∧ lk l' (Str.ofString "now") = some (.int nw tn) ∧ lk l' (Str.ofString "late") = some (.int vL tL) ∧ lk l' (Str.ofString "when") = some (.int (1 + vW) tkW)) ∧ LJ ww pa (c.L + 1 + 1 + 1) (c.L + 1 + 1) (c.L + 1) vL (1 + vW) i la nw ns, rfl, ?rm, by omega, ?st, ?turn, ?done⟩
    case rm =>
      rw [show (((4 + vR).toNat : Nat) : Int) = 4 + vR by omega]
      exact .head _
    case st =>
      exact ⟨lb, 0, _, ⟨rfl, rfl, rfl, rfl, rfl⟩, _, _, _, _, _, _, [], bA, bB, nl, HC.sub (fun p hp => .tail _ hp), d3, d2, d1, hlp, hA, rel_nil hAD hBD _ _ _, .inl ⟨rfl, by omega⟩⟩
    case done =>
      rintro l' n' ⟨la, nw, tn, _, o3, o2, o1, v3, v2, v1, init, first, last, k, HF, _⟩
      repeat' (k_extra "g1")
      exact ⟨rfl, HF.tab⟩
    case turn =>
      clear HA HB HC H na m3 m2 m1 d3 d2 d1 hr nr rr hAD hBD sR hP hS hA hlb hlp hT
      rintro i t l' ns I oI hi ⟨la, nw, tn, ⟨q1, q2, q3, q4, q5⟩, o3, o2, o1, v3, v2, v1, init, first, last, k, HF, d3, d2, d1, hlp, hA, hR, hiR⟩ hoff hIt
      have i3 : c.L + 1 + 1 + 1 ≠ I := hoff _ HF.k3
      have i2 : c.L + 1 + 1 ≠ I := hoff _ HF.k2
      have i1 : c.L + 1 ≠ I := hoff _ HF.k1
      have H : LF ww pa la I _ _ _ oI o3 o2 o1 (first :: init ++ [last]) k ((I, oI) :: ns) := HF.iter
      clear HF hoff
      refine' GS.real (fun rr => ?_)
      have na : I ≠ pa ∧ c.L + 1 + 1 + 1 ≠ pa ∧ c.L + 1 + 1 ≠ pa ∧ c.L + 1 ≠ pa := ⟨I_pa rr H.pool H.kI hIt, (cells_pa rr H.pool H.k3 H.k2 H.k1 d3 d2 d1).2⟩
      clear rr
      refine' gs_assignC ?ca ?cb ?cc ?cd ?_
      case ca => exact rfl
      case cb => exact rfl
      case cc => exact rfl
      case cd => with_unfolding_all rfl
      repeat' (k_extra "g1")
      refine' draw_j ok (H.sub (n' := n9') (fun p hp => .tail _ hp)) na hlp (by decide) (by decide) (by decide) ?_
      intro n1 v1d t1d H1 e1 v10 v11
      have m5 := draw_menu hD' H.pool (.head _) e1
      refine' g_menu m5 (menu_ok (by decide) (by decide) (by decide) (by decide) (by decide)) v10 v11 (Nat.le_of_ble_eq_true rfl) ?hs ?_
      case hs => with_unfolding_all rfl
      intro agap tgap gap0 gap1
      refine' ⟨o1, v1, H1.k1, d1, ?_⟩
      intro o1' d1' rr n2
      have H2 : LF ww pa la I _ _ _ oI o3 o2 o1' (first :: init ++ [last]) k n2 := H1.st1 i1.symm rr d1 cellsL3.1 cellsL3.2.1
      clear H H1 e1 m5 v10 v11 hD' rr d1
      have K1 := H2.k1
      obtain ⟨ob2, db2⟩ := H2.stand first (.head _)
      refine' gs_unpack2c ok ?ca ?cb ?cc ?cd ?ce ?cf ?_
      case ce => with_unfolding_all rfl
      case cf => with_unfolding_all rfl
      case ca => exact rfl
      case cb => exact rfl
      case cc => exact rfl
      case cd => exact rfl
      repeat' (k_extra "g1")
      refine' g_first H2.lst ?hs ?_
      case hs => with_unfolding_all rfl
      repeat' (k_extra "g1")
      obtain ⟨S0, hS0⟩ : ∃ S0, rowsAt first.D nw = S0 := ⟨_, rfl⟩
      have hS1 : rowsAt first.D (nw + agap) = S0.map fun l => l.aged agap := by rw [rowsAt_on gap0, hS0]
      have hlen0 : S0.length ≤ 6 := hS0 ▸ rowsAt_len
      have hle0 : ∀ l ∈ S0, l.age ≤ 3600 := fun l hl => rowsAt_le (hS0 ▸ hl)
      refine' ok.can (rows_c ww n2 first.x first.d first.D nw tn ob2 db2) (by decide) (by decide) ?_
      rintro r3 n3 ⟨e3, dB⟩
      rw [hS0] at dB
      have H3 := H2.sub (suf_sub e3)
      clear H2 e3 K1 ob2 db2
      have K1 := H3.k1
      repeat' (k_extra "g1")
      have H4 := H3.sub (n' := n9') (fun p hp => .tail _ hp)
      refine' ⟨D', _, _, 0, o2, v2, rfl, .head _, H4.k2, d2, ?_⟩
      intro o2' d2' rr n5
      have H5 : LF ww pa la I _ _ _ oI o3 o2' o1' (first :: init ++ [last]) k n5 := H4.st2 i2.symm rr d2 cellsL3.2.2 cellsL3.2.1.symm
      replace dB := store_dat (o' := o2') rr H4.k2 d2 (DatIn.mono (news' := n9') (fun p hp => .tail _ hp) dB)
      clear H4 H3 rr d2 K1 hD'
      obtain ⟨ob5, db5⟩ := H5.stand first (.head _)
      refine' gs_assignC ?ca ?cb ?cc ?cd ?_
      case ca => exact rfl
      case cb => exact rfl
      case cc => exact rfl
      case cd => with_unfolding_all rfl
      repeat' (k_extra "g1")
      refine' g_first H5.lst ?hs ?_
      case hs => with_unfolding_all rfl
      repeat' (k_extra "g1")
      refine' ok.can (rows_c ww n5 first.x first.d first.D (nw + agap) _ ob5 db5) (by decide) (by decide) ?_
      rintro r6 n6 ⟨e6, dL⟩
      rw [hS1] at dL
      have H6 := H5.sub (suf_sub e6)
      replace dB := DatIn.mono (suf_sub e6) dB
      clear H5 e6 ob5 db5
      refine' ⟨o3, v3, H6.k3, d3, ?_⟩
      intro o3' d3' rr n7
      have H7 : LF ww pa la I _ _ _ oI o3' o2' o1' (first :: init ++ [last]) k n7 := H6.st3 i3.symm rr d3 cellsL3.2.2.symm cellsL3.1.symm
      replace dB := store_dat (o' := o3') rr H6.k3 d3 dB
      replace dL := store_dat (o' := o3') rr H6.k3 d3 dL
      clear H6 rr d3
      obtain ⟨lbef, vbef, nbef, rfl, hbef, dab⟩ := listD_open dB
      obtain ⟨llat, vlat, nlat, rfl, hlat, dal⟩ := listD_open dL
      have hlb6 : vbef.length = S0.length := by rw [datAll_len dab, List.length_map]
      have hll6 : vlat.length = S0.length := by rw [datAll_len dal, List.length_map, List.length_map]
      have K3 := H7.k3
      have K2 := H7.k2
      have K1 := H7.k1
      k_extra "gi"
      repeat' (k_extra "g1")
      k_extra "glc"
      repeat' (k_extra "g1")
      refine' cf_pure ok (fun d => lsaD ((lsaOf d).aged agap)) hbef dab (by rw [List.length_map]; exact Nat.le_trans hlen0 (by decide)) (fun _ _ => rfl) ?turn ?fin
      case turn =>
        intro c' tl ys v d I2 oI2 C oC Da m₂ ok' hd hv hC hx
        obtain ⟨l, hl, rfl⟩ := List.mem_map.mp hd
        repeat' (k_extra "g1")
        refine' ok'.can (aged_c ww _ v l agap tgap (DatIn.mono (fun p hp => .tail _ (.tail _ (.tail _ hp))) hv)) (by decide) (by decide) ?_
        intro r Z P
        exact P
      case fin =>
        intro ysa tla hYa DA hDA
        (try dsimp only)
        have s8 : ∀ p ∈ n7, p ∈ (DA, lstO ysa) :: (tla ++ n7) := fun p hp => .tail _ (List.mem_append_right _ hp)
        obtain ⟨n8, hn8⟩ : ∃ n8, (DA, lstO ysa) :: (tla ++ n7) = n8 := ⟨_, rfl⟩
        have dY : DatIn n8 (.ref DA) (.list ((S0.map fun l => l.aged agap).map lsaD)) := by
          rw [← hn8]
          refine .list (.head _) (datAll_mono (fun p hp => .tail _ hp) ?_)
          rw [List.map_map] at hYa ⊢
          exact hYa
        rw [hn8] at s8 ⊢
        refine' gc_same_ne ok (DatIn.mono s8 dL) dY (okd_map (fun l => okd_lsa l _) _) (by decide) ?_
        have H8 := H7.sub s8
        replace dab := datAll_mono s8 dab
        replace dal := datAll_mono s8 dal
        have hbef8 := s8 _ hbef
        have hlat8 := s8 _ hlat
        clear H7 dY dB dL s8 hbef hlat hn8 hYa hDA K1 K2 K3
        have K3 := H8.k3
        have K2 := H8.k2
        repeat' (k_extra "g1")
        k_extra "gi"
        repeat' (k_extra "g1")
        k_extra "grc"
        repeat' (k_extra "g1")
        refine' g_len (us := vlat) hlat8 (by omega) ?_
        intro tk9
        repeat' (k_extra "g1")
        intro rg t1 t2 t3 hrg nrg
        refine' ⟨rg, vlat.length, t1, t2, t3, rfl, .head _, by omega, ?_, ?_⟩
        · intro c' ib tb I2 oI2 C oC Da m₂ ok' hib hC hx
          obtain ⟨l, hl⟩ : ∃ l, S0[ib]? = some l := ⟨_, List.getElem?_eq_getElem (by omega)⟩
          have hl1 : (S0.map lsaD)[ib]? = some (lsaD l) := by rw [List.getElem?_map, hl]; rfl
          have hl2 : ((S0.map fun l => l.aged agap).map lsaD)[ib]? = some (lsaD (l.aged agap)) := by rw [List.getElem?_map, List.getElem?_map, hl]; rfl
          obtain ⟨vb, hvb, dvb⟩ := datAll_at dab hl1
          obtain ⟨vl, hvl, dvl⟩ := datAll_at dal hl2
          have eib : ((0 : Int) + (ib : Int)).toNat = ib := by omega
          have hvb2 : vbef[((0 : Int) + (ib : Int)).toNat]? = some vb := by rw [eib]; exact hvb
          have hvl2 : vlat[((0 : Int) + (ib : Int)).toNat]? = some vl := by rw [eib]; exact hvl
          have hi6 : ib < 6 := by omega
          have hla0 := hle0 l (List.mem_of_getElem? hl)
          have hla1 : (l.aged agap).age = min (l.age + agap) 3600 := rfl
          obtain ⟨xa1, xn1, xh1, xc1, rfl, xm1, xH1, xC1⟩ := lsaD_open dvb
          obtain ⟨ya1, yn1, yt0, yt1, yt2, yt3, yt4, yt5, yt6, rfl, ym1⟩ := headD_open xH1
          obtain ⟨xa2, xn2, xh2, xc2, rfl, xm2, xH2, xC2⟩ := lsaD_open dvl
          obtain ⟨ya2, yn2, zt0, zt1, zt2, zt3, zt4, zt5, zt6, rfl, ym2⟩ := headD_open xH2
          have s9 : ∀ p ∈ n8, p ∈ (I2, oI2) :: (C, oC) :: (Da, lstO []) :: nrg := fun p hp => .tail _ (.tail _ (.tail _ (.tail _ hp)))
          repeat' (k_extra "g1")
          refine' g_litem (s9 _ hbef8) (by omega) (by omega) hvb2 ?hs ?_
          case hs => with_unfolding_all rfl
          repeat' (k_extra "g1")
          refine' g_litem (s9 _ hlat8) (by omega) (by omega) hvl2 ?hs ?_
          case hs => with_unfolding_all rfl
          repeat' (k_extra "g1")
          refine' ⟨fun _ => ?_, fun e => absurd (show l.age ≤ (l.aged agap).age by omega) (of_decide_eq_false e)⟩
          repeat' (k_extra "g1")
          exact ⟨by rw [decide_eq_true (show (l.aged agap).age ≤ 3600 by omega)]; rfl, fun p hp => hp⟩
        · intro D0 hD0 nD0
          repeat' (k_extra "g1")
          refine' gc_same_ne ok (d := .list []) (.list (.tail _ (.head _)) .nil) (.list (.head _) .nil) rfl (by decide) ?_
          repeat' (k_extra "g1")
          refine' GS.weak (n0 := n8) (fun p hp => .tail _ (.tail _ (.tail _ hp))) ?_
          clear hle0
          have hRX := hR.on vL0 gap0
          refine' gs_join (fun l2 n' => ∃ la2 tkN, (lk l2 (Str.ofString "pool") = some (.ref pa) ∧ lk l2 (Str.ofString "bases") = some (.ref la2) ∧ lk l2 (Str.ofString "now") = some (.int (nw + agap) tkN) ∧ lk l2 (Str.ofString "late") = some (.int vL tL) ∧ lk l2 (Str.ofString "when") = some (.int (1 + vW) tkW) ∧ lk l2 (Str.ofString "turn") = some (.int (0 + (i : Int)) t)) ∧ ∃ init6 first6 last6 k6, LF ww pa la2 I (c.L + 1 + 1 + 1) (c.L + 1 + 1) (c.L + 1) oI o3' o2' o1' (first6 :: init6 ++ [last6]) k6 n' ∧ la2 ≠ pa ∧ Apart (first6 :: init6 ++ [last6]) ∧ Rel (first6 :: init6) last6 first6.D vL (nw + agap) (7 + (i : Int)) ∧ ((init6 = [] ∧ (i : Int) ≤ vW) ∨ ∃ b, init6 = [b] ∧ vW < (i : Int))) ?ifp ?rest
          case ifp =>
            refine' gx_if ?_
            repeat' (k_extra "g1")
            refine' ⟨fun e => ?_, fun e => ?_⟩
            · have hw : (i : Int) = 1 + vW := by
                have : (0 : Int) + (i : Int) = 1 + vW := by simpa using e
                omega
              obtain ⟨rfl, _⟩ : init = [] ∧ (i : Int) ≤ 1 + vW := hiR.elim id fun ⟨b, _, hb⟩ => by omega
              clear e hiR
              repeat' (k_extra "g1")
              refine' g_first H8.lst ?hs ?_
              case hs => with_unfolding_all rfl
              repeat' (k_extra "g1")
              refine' ok.can (newdb_c ww n8) (by decide) (by decide) ?_
              rintro r1 n1 ⟨xC, dC, dxC, oC, hC, tC, nC, rfl, rfl, hdC, loC, ltC⟩
              repeat' (k_extra "g1")
              refine' g_litem (us := [.ref first.x, .ref last.x]) (.tail _ (.tail _ (.tail _ H8.lst))) (by decide) (by decide) rfl ?hs ?_
              case hs => with_unfolding_all rfl
              repeat' (k_extra "g1")
              obtain ⟨obF, dbF⟩ := H8.stand first (.head _)
              obtain ⟨xsF, kF, hmF, _⟩ := id dbF
              obtain ⟨obL, dbL⟩ := H8.stand last (.tail _ (.head _))
              obtain ⟨xsL, kL, hmL, _⟩ := id dbL
              have hApC : Apart ([first] ++ [(⟨xC, dC, copyOf first.D (nw + agap)⟩ : Base)] ++ [last]) := by
                have e1 : first.d ≠ dC := Nat.ne_of_lt (ltC _ hmF)
                have e2 : last.d ≠ dC := Nat.ne_of_lt (ltC _ hmL)
                have e3 : first.d ≠ last.d := by simpa [Apart] using hA
                simp [Apart, e1, e2.symm, e3]
              have hRC : Rel [first, ⟨xC, dC, copyOf first.D (nw + agap)⟩] last first.D vL (nw + agap) (7 + (i : Int)) := Rel.copy hRX (db_all dbF) rfl
              have hdne : ∀ p ∈ n8, p.1 ≠ dC := fun p hp => Nat.ne_of_lt (ltC p hp)
              obtain ⟨lc, hlc⟩ : ∃ lc, lc = D' := ⟨_, rfl⟩
              have hlcp : lc ≠ pa := by
                obtain ⟨_, _, _, _, _, _, _, hp, _⟩ := id H8.pool
                rw [hlc]
                exact (Nat.ne_of_lt (hD' _ (.tail _ (.tail _ (.tail _ hp))))).symm
              have hs9 : ∀ p ∈ n8, p ∈ n9' := fun p hp => .tail _ (.tail _ (.tail _ (.tail _ hp)))
              have hoC : DbObj n9' xC dC := ⟨dxC, hC, tC, nC, .tail _ (.tail _ (.head _)), .tail _ (.tail _ (.tail _ (.head _)))⟩
              have hdbC : DbIs ww n9' dC [] := db_nil (.tail _ (.head _)) loC hdC
              have hlcm : (lc, W.listOf ([.ref first.x, .ref xC, .ref last.x] : List Value).toArray 0) ∈ n9' := by rw [hlc]; exact .head _
              rw [← hlc]
              refine' GS.any (fun Z => (∀ p ∈ n8, p ∈ Z) ∧ DbObj Z xC dC ∧ DbIs ww Z dC [] ∧ (lc, W.listOf ([.ref first.x, .ref xC, .ref last.x] : List Value).toArray 0) ∈ Z) ⟨hs9, hoC, hdbC, hlcm⟩ ?_
              clear hs9 hoC hdbC hlcm hlc hdC ltC loC hD'
              rintro Z ⟨sZ, oZ, dZ, lZ⟩
              have HZ := H8.sub sZ
              have K3 := HZ.k3
              rw [← hS1] at dal
              refine' gs_for_list ok pe rfl rfl (fun _ => rfl) ?_
              repeat' (k_extra "g1")
              refine' ⟨llat, vlat, nlat, fun i2 l3 ns => (lk l3 (Str.ofString "pool") = some (.ref pa) ∧ lk l3 (Str.ofString "bases") = some (.ref lc) ∧ lk l3 (Str.ofString "now") = some (.int (nw + agap) _) ∧ lk l3 (Str.ofString "late") = some (.int vL tL) ∧ lk l3 (Str.ofString "when") = some (.int (1 + vW) tkW) ∧ lk l3 (Str.ofString "turn") = some (.int (0 + (i : Int)) t)) ∧ Ext [] [dC] Z ns ∧ DbIs ww ns dC (((rowsAt first.D (nw + agap)).take i2).map fun l => (l, nw + agap)) ∧ (llat, W.listOf vlat.toArray nlat) ∈ ns, rfl, sZ _ hlat8, ⟨⟨by k_extra "lk", rfl, rfl, by k_extra "lk", by k_extra "lk", by k_extra "lk"⟩, Ext.refl _ _ _, by rw [List.take_zero]; exact dZ, sZ _ hlat8⟩, fun i2 l3 ns h => h.2.2.2, ?_, ?_⟩
              · rintro i2 v l3 ns I2 oI2 hv ⟨⟨y1, y2, y3, y4, y5, y6⟩, eB, hdbn, kD⟩ hoff2 hcI2
                obtain ⟨dd, hdd, hDv⟩ := datAll_get i2 dal hv
                obtain ⟨l, hl, rfl⟩ : ∃ l, (rowsAt first.D (nw + agap))[i2]? = some l ∧ dd = lsaD l := by
                  rw [List.getElem?_map] at hdd
                  cases e : (rowsAt first.D (nw + agap))[i2]? with
                  | none => rw [e] at hdd; cases hdd
                  | some k => rw [e] at hdd; exact ⟨k, rfl, (Option.some.inj hdd).symm⟩
                have sI : ∀ p ∈ ns, p ∈ (I2, oI2) :: ns := fun p hp => .tail _ hp
                have hlk : l.key ∈ allKeys := (List.mem_filter.mp (show l.key ∈ sortKeys first.D from rowsAt_keys (now := nw + agap) ▸ List.mem_map_of_mem (List.mem_of_getElem? hl))).1
                have hcp := copy_put hl
                have kl := sI _ (eB.lst _ lZ rfl List.not_mem_nil)
                have hon := dbObj_sub sI (eB.obj _ _ oZ)
                have hdI : dC ≠ I2 := by obtain ⟨xs, n, hm, _⟩ := id hdbn; exact hoff2 _ hm
                refine' gs_expr rfl ?_ ?_
                · with_unfolding_all rfl
                repeat' (k_extra "g1")
                refine' g_litem kl (by decide) (by decide) rfl ?hs ?_
                case hs => with_unfolding_all rfl
                repeat' (k_extra "g1")
                refine' ok.can (put_c ww _ xC dC v l _ (nw + agap) _ hon (DbIs.sub sI hdbn) (DatIn.mono sI (eB.datL (DatIn.mono sZ hDv))) hlk) (by decide) (by decide) ?_
                rintro r Z2 ⟨eN, dN, dR⟩
                refine' ⟨by cases dR; exact ⟨_, rfl⟩, ?_⟩
                refine' GS.real (fun rz => ?_)
                refine' gs_nil ?_
                show (I2, oI2) ∈ Z2 ∧ ∃ n0 : Led, (∀ p ∈ n0, p ∈ Z2 ∧ p.1 ≠ I2) ∧ _
                have iI := eN.kept _ (.head _) List.not_mem_nil (not_mem1 hdI.symm)
                obtain ⟨hz, NN⟩ := rz
                have ht := off_tup1 NN iI (by rw [hcI2]; decide)
                refine' ⟨iI, Z2.filter fun p => decide (p.1 ≠ I2), fun p hp => ⟨(List.mem_filter.mp hp).1, of_decide_eq_true (List.mem_filter.mp hp).2⟩, ⟨by k_extra "lk", by k_extra "lk", by k_extra "lk", by k_extra "lk", by k_extra "lk", by k_extra "lk"⟩, Ext.trans eB (Ext.off NN eN (fun p hp => .tail _ hp) (fun p hp o => decide_eq_true (hoff2 p hp)) ht), ?_, List.mem_filter.mpr ⟨eN.lst _ (.tail _ kD) rfl List.not_mem_nil, decide_eq_true (hoff2 _ kD)⟩⟩
                rw [← hcp]
                exact dN.off (fun o => decide_eq_true hdI) ht
              · rintro l3 ns ⟨⟨y1, y2, y3, y4, y5, y6⟩, eB, hdbn, kD⟩
                have hvl : vlat.length = (rowsAt first.D (nw + agap)).length := by rw [datAll_len dal, List.length_map]
                rw [hvl, List.take_length] at hdbn
                have hdbn2 : DbIs ww ns dC (copyOf first.D (nw + agap)) := hdbn
                have kr : ∀ p ∈ n8, p ∈ ns := fun p hp => eB.kept p (sZ p hp) List.not_mem_nil (not_mem1 (hdne p hp))
                have lN := eB.lst _ lZ rfl List.not_mem_nil
                have oN := eB.obj _ _ oZ
                have HN := H8.sub kr
                have HC : LF ww pa lc I _ _ _ oI o3' o2' o1' (first :: [⟨xC, dC, copyOf first.D (nw + agap)⟩] ++ [last]) 0 ns := ⟨HN.kI, HN.k3, HN.k2, HN.k1, lN, HN.pool, HN.tab, fun b hb => by
                  simp only [List.cons_append, List.nil_append, List.mem_cons, List.not_mem_nil, or_false] at hb
                  rcases hb with e | e | e <;> rw [e]
                  · exact HN.stand _ (.head _)
                  · exact ⟨oN, hdbn2⟩
                  · exact HN.stand _ (.tail _ (.head _))⟩
                obtain ⟨NT, hNT⟩ : ∃ NT, nextT 1 (nowRows first.D (nw + agap)) = NT := ⟨_, rfl⟩
                have hNT2 : nextT 1 (copyOf first.D (nw + agap)) = NT := (nextT_perm (copy_perm (db_nodup dbF) (db_all dbF))).trans hNT
                have obN := dbObj_sub kr obF
                have dbN := DbIs.sub kr dbF
                clear kr eB hdbn kD HN
                k_extra "gi"
                repeat' (k_extra "g1")
                refine' g_litem lN (by decide) (by decide) rfl ?hs ?_
                case hs => with_unfolding_all rfl
                repeat' (k_extra "g1")
                refine' ok.can (next_p ww ns xC dC (copyOf first.D (nw + agap)) 1 _ oN hdbn2) (by decide) (by decide) ?_
                rintro r5 n5 ⟨e5, dN5⟩
                rw [hNT2] at dN5
                have s5 := suf_sub e5
                have obN5 := dbObj_sub s5 obN
                repeat' (k_extra "g1")
                refine' g_first (s5 _ lN) ?hs ?_
                case hs => with_unfolding_all rfl
                repeat' (k_extra "g1")
                refine' ok.can (next_c ww n5 first.x first.d first.D 1 (nw + agap) _ _ obN5 (DbIs.sub s5 dbN)) (by decide) (by decide) ?_
                rintro r6 n6 ⟨e6, dN6⟩
                rw [hNT] at dN6
                refine' gc_same_ne ok (DatIn.mono (suf_sub e6) dN5) dN6 (okd_optI _ _) (by decide) ?_
                repeat' (k_extra "g1")
                refine' gs_skip ⟨lc, _, ⟨y1, y2, y3, y4, y5, y6⟩, [⟨xC, dC, copyOf first.D (nw + agap)⟩], first, last, 0, HC.sub (suf_sub (e5.trans e6)), hlcp, hApC, hRC, .inr ⟨_, rfl, by omega⟩⟩
            · have hw : ¬ (i : Int) = 1 + vW := by
                intro h
                have : ((0 : Int) + (i : Int) == 1 + vW) = true := by simpa using h
                rw [this] at e
                exact nomatch e
              refine' gs_skip ⟨la, _, ⟨by k_extra "lk", by k_extra "lk", rfl, by k_extra "lk", by k_extra "lk", by k_extra "lk"⟩, init, first, last, k, H8, hlp, hA, hRX, ?_⟩
              rcases hiR with ⟨rfl, h⟩ | ⟨b, rfl, h⟩
              · exact .inl ⟨rfl, by omega⟩
              · exact .inr ⟨b, rfl, by omega⟩
          case rest =>
            clear q1 q2 q3 q4 q5 H8 hA hR hRX hiR hlp dab dal hbef8 hlat8 hS0 hS1 hlb6 hll6 K2 K3 hlen0
            rintro l2 n9 ⟨la2, tk2, ⟨q1, q2, q3, q4, q5, q6⟩, init6, first6, last6, k6, H9, hlp6, hA6, hR6, hi6⟩
            have hl26 : (first6 :: init6).length ≤ 2 := by rcases hi6 with ⟨rfl, _⟩ | ⟨b, rfl, _⟩ <;> exact Nat.le_of_ble_eq_true rfl
            k_extra "gi"
            repeat' (k_extra "g1")
            refine' gb_call rfl ?_
            repeat' (k_extra "g1")
            refine' G.mono (f := fun v n' => ∃ z tz, v = .int z tz ∧ LF ww pa la2 I (c.L + 1 + 1 + 1) (c.L + 1 + 1) (c.L + 1) oI o3' o2' o1' (first6 :: init6 ++ [last6]) k6 n') ?ife ?con
            case ife =>
              refine' g_ifexp ?_
              repeat' (k_extra "g1")
              refine' ⟨fun e => ?_, fun e => ?_⟩
              · repeat' (k_extra "g1")
                refine' draw_j ok H9 na hlp6 (by decide) (by decide) (by decide) ?_
                intro nz vz tz HZ _ _ _
                exact ⟨vz, tz, rfl, HZ⟩
              · repeat' (k_extra "g1")
                exact ⟨_, _, rfl, H9⟩
            case con =>
              rintro _ n10 ⟨z, tz, rfl, H10⟩
              repeat' (k_extra "g1")
              refine' G.real (fun rr => ?_)
              obtain ⟨x3, x2, x1, xI⟩ : c.L + 1 + 1 + 1 ∉ dsOf (first6 :: init6 ++ [last6]) ++ [170] ∧ c.L + 1 + 1 ∉ dsOf (first6 :: init6 ++ [last6]) ++ [170] ∧ c.L + 1 ∉ dsOf (first6 :: init6 ++ [last6]) ++ [170] ∧ I ∉ dsOf (first6 :: init6 ++ [last6]) ++ [170] := by
                obtain ⟨h, N⟩ := rr
                exact deed_pre N H10.stand H10.tab H10.kI hIt H10.k3 H10.k2 H10.k1 d3' d2' d1'
              have hlst : (la2, W.listOf (allR (first6 :: init6) last6).toArray k6) ∈ n10 := by rw [allR, ← refs_snoc]; exact H10.lst
              refine' ok.can (deed_j ww n10 pa la2 init6 last6 first6 vL z (nw + agap) _ _ _ k6 H10.pool hlst hlp6 H10.stand hA6 hl26 (7 + (i : Int)) hR6 vL0 (by omega) (by omega) (by omega) H10.tab) (by decide) (by decide) ?_
              rintro r5 n11 ⟨er5, eD, pD, tD, ff, gg, D0, SN, RN⟩
              subst er5
              have m3 := eD.kept _ H10.k3 (not_mem1 na.2.1) x3
              have m2 := eD.kept _ H10.k2 (not_mem1 na.2.2.1) x2
              have m1 := eD.kept _ H10.k1 (not_mem1 na.2.2.2) x1
              have mI := eD.kept _ H10.kI (not_mem1 na.1) xI
              have laD2 : (la2, W.listOf (refs (first6 :: init6) ++ [Value.ref last6.x]).toArray k6) ∈ n11 := eD.lst _ hlst rfl (not_mem1 hlp6)
              have laD : (la2, W.listOf (Value.ref first6.x :: allR init6 last6).toArray k6) ∈ n11 := laD2
              have H11 : LF ww pa la2 I _ _ _ oI o3' o2' o1' (Base.upd ff first6 :: init6.map (Base.upd ff) ++ [Base.upd gg last6]) k6 n11 := ⟨mI, m3, m2, m1, by
                have e := refs_up ff gg (first6 :: init6) last6
                rw [allR, ← refs_snoc] at e
                show (la2, W.listOf (refs ((first6 :: init6).map (Base.upd ff) ++ [Base.upd gg last6])).toArray k6) ∈ n11
                rw [e]
                exact laD2, pD, tD, SN⟩
              have hAU : Apart (Base.upd ff first6 :: init6.map (Base.upd ff) ++ [Base.upd gg last6]) := apart_upd (bs := first6 :: init6) hA6
              have RU : Rel (Base.upd ff first6 :: init6.map (Base.upd ff)) (Base.upd gg last6) (Base.upd ff first6).D vL (nw + agap) (7 + ((i + 1 : Nat) : Int)) := by
                rw [show 7 + ((i + 1 : Nat) : Int) = 7 + (i : Int) + 1 by omega]
                exact Rel.first RN fun k => RN.same _ (.head _) k
              obtain ⟨obF, dbF⟩ : DbObj n11 first6.x first6.d ∧ DbIs ww n11 first6.d (ff first6) := SN (Base.upd ff first6) (.head _)
              obtain ⟨b2, hb2m, hb2i⟩ := neg2 first6 init6 last6
              have hb2l := neg2_le first6 init6 last6
              obtain ⟨obP, dbP⟩ : DbObj n11 b2.x b2.d ∧ DbIs ww n11 b2.d (ff b2) := SN (Base.upd ff b2) (List.mem_append_left _ (List.mem_map_of_mem hb2m))
              obtain ⟨obE, dbE⟩ : DbObj n11 last6.x last6.d ∧ DbIs ww n11 last6.d (gg last6) := SN (Base.upd gg last6) (List.mem_append_right _ (.head _))
              obtain ⟨TD, hTD⟩ : ∃ ts, tellsD (ff first6) (nw + agap) = ts := ⟨_, rfl⟩
              have hTD2 : tellsD (ff b2) (nw + agap) = TD := (tells_eq (db_nodup dbP) (db_nodup dbF) fun k => (RN.same _ (List.mem_map_of_mem hb2m) k).trans (RN.same (Base.upd ff first6) (.head _) k).symm).trans hTD
              have okT : okD 8 TD = true := hTD ▸ okd_tells _ _
              have hL5 : ∀ k, lookRow (gg last6) k (nw + agap) = (lookRow (ff first6) k (nw + agap)).map fun l => l.aged vL := fun k => (RN.late k).trans (by rw [show lookRow (ff first6) k (nw + agap) = lookRow D0 k (nw + agap) from RN.same (Base.upd ff first6) (.head _) k])
              have hr3 : (refs (first6 :: init6)).length ≤ 3 := by rw [refs_len]; exact Nat.le_succ_of_le hl26
              clear eD H10 hlst m3 m2 m1 mI x3 x2 x1 xI rr hR6 RN SN hA6 pD tD
              repeat' (k_extra "g1")
              refine' conj_f ?_
              k_extra "gi"
              repeat' (k_extra "g1")
              refine' g_first laD ?hs ?_
              case hs => with_unfolding_all rfl
              repeat' (k_extra "g1")
              refine' ok.can (tells_s ww n11 first6.x first6.d (ff first6) TD (nw + agap) _ obF dbF hTD) (by decide) (by decide) ?_
              rintro r12 n12 ⟨e12, dT⟩
              have s12 := suf_sub e12
              repeat' (k_extra "g1")
              refine' g_lneg (s12 _ laD) (by decide) hb2l (by decide) hb2i ?hs ?_
              case hs => with_unfolding_all rfl
              repeat' (k_extra "g1")
              refine' ok.can (tells_s ww n12 b2.x b2.d (ff b2) TD (nw + agap) _ (dbObj_sub s12 obP) (DbIs.sub s12 dbP) hTD2) (by decide) (by decide) ?_
              rintro r13 n13 ⟨e13, dT2⟩
              refine' gc_same_ne ok (DatIn.mono (suf_sub e13) dT) dT2 okT (by decide) ?_
              have s13 := suf_sub (e12.trans e13)
              have H13 := H11.sub s13
              clear H11 dT dT2 okT hTD hTD2 hb2i hb2l hb2m obP dbP e12 e13 s12
              repeat' (k_extra "g1")
              refine' gb_call rfl ?_
              repeat' (k_extra "g1")
              refine' g_first (s13 _ laD) ?hs ?_
              case hs => with_unfolding_all rfl
              repeat' (k_extra "g1")
              refine' g_llast (us := refs (first6 :: init6)) (s13 _ laD2) hr3 ?hs ?_
              case hs => with_unfolding_all rfl
              repeat' (k_extra "g1")
              refine' ok.can (late_right_d ww n13 first6.x first6.d last6.x last6.d (ff first6) (gg last6) vL (nw + agap) _ _ (dbObj_sub s13 obF) (DbIs.sub s13 dbF) (dbObj_sub s13 obE) (DbIs.sub s13 dbE) vL0 (by omega) hL5) (by decide) (by decide) ?_
              rintro r14 n14 ⟨e14, dR⟩
              cases dR
              have H14 := H13.sub (suf_sub e14)
              clear H13 e14 s13 obF dbF obE dbE laD laD2 hL5
              repeat' (k_extra "g1")
              refine' conj_f ?_
              repeat' (k_extra "g1")
              refine' GS.real (fun rr => ?_)
              refine' gs_nil ?_
              show (I, oI) ∈ n14 ∧ ∃ n0 : Led, (∀ p ∈ n0, p ∈ n14 ∧ p.1 ≠ I) ∧ _
              refine' ⟨H14.kI, n14.filter fun p => decide (p.1 ≠ I), fun p hp => ⟨(List.mem_filter.mp hp).1, of_decide_eq_true (List.mem_filter.mp hp).2⟩, la2, nw + agap, tk2, ⟨q1, q2, q3, q4, q5⟩, o3', o2', o1', _, _, _, init6.map (Base.upd ff), Base.upd ff first6, Base.upd gg last6, k6, H14.off rr hIt i3 i2 i1, d3', d2', d1', hlp6, hAU, RU, ?_⟩
              rcases hi6 with ⟨rfl, h⟩ | ⟨b, rfl, h⟩
              · exact .inl ⟨rfl, by omega⟩
              · exact .inr ⟨Base.upd ff b, rfl, by omega⟩
  )
end
end Mine
theorem PySem.Challenge.cw_sj0177_01_holds : PySem.Challenge.rw_sj0177_01.Holds := by
  exact Mine.law1
