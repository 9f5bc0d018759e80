import PyProof.Rows.All
import Wide.All
import OpenK.AllK
import Wide.FinOn
import Lean
import PySem.Challenge.RW_qz0074_01
open PySem PySem.W PyProof.Rows
set_option Elab.async false
set_option maxRecDepth 100000
set_option maxHeartbeats 8000000
set_option rowWalk.seconds 0
set_option linter.all false
namespace Mine
open_top hd for PySem.Challenge.rw_qz0074_01
local macro_rules | `(tactic| walk_at $s:str) => `(tactic| k_extra $s)
local macro_rules | `(tactic| k_all) => `(tactic| k_extra "k_all")
local macro_rules | `(tactic| k_ne) => `(tactic| k_extra "k_ne")
local macro_rules | `(tactic| kba_size) => `(tactic| k_extra "kba_size")
-- Base
theorem fd4 (x : Int) : x.fdiv 4 = x / 4 := Int.fdiv_eq_ediv_of_nonneg _ (by decide)
abbrev PR : Program := PySem.Challenge.rw_qz0074_01.row.prog
noncomputable abbrev LO : List PySem.Str := looseW hd.view_39 [Str.ofString "PaperError", Str.ofString "MOST_GROUP"]
noncomputable def num (l : List Int) : Int := l.foldl (fun a k => 256 * a + k) 0
noncomputable def worth (l : List Int) : Int := l.foldl (fun a k => 85 * a + k - 33) 0
abbrev Led := List (Addr × Obj)
abbrev RetT := Heap → Addr → (PySem.Str → Option Value) → Shared → (Value → Shared → Prop) → Prop
/-- what a def's call asks and gives -/
abbrev Ctr (prog : Program) (w : World) (K : Frag) (p : Program) (loose : List PySem.Str) (f : Addr) (rd ru : Nat) (news : Led) (pre : Prop) (vs : List Value) (Ret : RetT) : Prop :=
  ∀ (mean : ExcName → Option Value) (mg mb : PySem.Str → Option Value) (dp un : Nat) (gd : Option (List Code)) (cn : PySem.Str) (cs : Scope) (a : Addr) (ccd : Value) (cl : List (PySem.Str × Addr)) (outer : List Env) (A₀ : Around) (base h₀ : Heap) (L : Addr) (m : PySem.Str → Option Value) (s : Shared) (Q E : Value → Shared → Prop),
    Below A₀ base outer h₀ → Fr h₀ L s.heap m → K.In h₀ → News h₀ L s.heap news → Top p loose mean mg mb h₀ → cs.kind = .function →
    pre → dp + rd < recursionLimit → un + ru < cLine → Ret h₀ L m s Q →
      wpAny (model prog w) (ktrTop dp un gd cn cs L a ccd cl outer) (PySem.call (.ref f) vs) Q E s
abbrev RetV (news : Led) (R : Tok → Value) : RetT := fun h₀ L m s Q =>
  ∀ (t : Tok) (h' : Heap) (tk' : Nat), Fr h₀ L h' m → News h₀ L h' news → Q (R t) { s with heap := h', toks := tk' }
abbrev RetL (news : Led) (ns : List Int) : RetT := fun h₀ L m s Q =>
  ∀ (l : Addr) (vs : List Value) (n : Nat) (h' : Heap) (tk' : Nat), IntsAre vs ns → Fr h₀ L h' m → News h₀ L h' ((l, listOf vs.toArray n) :: news) → (∀ p ∈ news, p.1 < l) → Q (.ref l) { s with heap := h', toks := tk' }
theorem ne_of_allLt {d : Addr} : ∀ {l : Led}, AllLt d l → ∀ p ∈ l, p.1 ≠ d
  | [], _, _, h => nomatch h
  | _ :: _, x, p, h => by
    rcases List.mem_cons.mp h with rfl | h
    · exact Nat.ne_of_lt x.1
    · exact ne_of_allLt x.2 p h
theorem ne_of_allLt' {d : Addr} : ∀ {l : Led}, AllLt d l → ∀ p ∈ l, d ≠ p.1 := fun x p h => Ne.symm (ne_of_allLt x p h)
theorem lt_of_allLt {d : Addr} : ∀ {l : Led}, AllLt d l → ∀ p ∈ l, p.1 < d
  | [], _, _, h => nomatch h
  | _ :: _, x, p, h => by
    rcases List.mem_cons.mp h with rfl | h
    · exact x.1
    · exact lt_of_allLt x.2 p h
theorem news_sub {h₀ h : Heap} {L : Addr} {news news' : Led} (N : News h₀ L h news') (hs : ∀ p ∈ news, p ∈ news') : News h₀ L h news := fun p hp => N p (hs p hp)
theorem ne_of_lts {d : Addr} {l : Led} (h : ∀ p ∈ l, p.1 < d) : ∀ p ∈ l, p.1 ≠ d := fun p hp => Nat.ne_of_lt (h p hp)
theorem off1_of {d : Addr} : ∀ {l : Led}, (∀ p ∈ l, p.1 ≠ d) → LCg.Off1 d l
  | [], _ => trivial
  | p :: _, h => ⟨h p (.head _), off1_of fun q hq => h q (.tail _ hq)⟩
theorem ne_of_off1 {d : Addr} : ∀ {l : Led}, LCg.Off1 d l → ∀ p ∈ l, p.1 ≠ d
  | [], _, _, h => nomatch h
  | _ :: _, x, p, h => by
    rcases List.mem_cons.mp h with rfl | h
    · exact x.1
    · exact ne_of_off1 x.2 p h
theorem lt_tail {e0 e1 e2 e3 : Addr × Obj} {r : Led} {d : Addr} (h : ∀ p ∈ e0 :: e1 :: e2 :: e3 :: r, p.1 < d) : ∀ p ∈ r, p.1 < d := fun p hp => h p (.tail _ (.tail _ (.tail _ (.tail _ hp))))
theorem unr_tail {h₀ : Heap} {L I : Addr} {it : Obj} {rest : (PySem.Str → Option Value) → List (Addr × Obj) → Prop} {s₁ : Shared} {h' : Heap} {tk : Nat} {m' : PySem.Str → Option Value} {news' : Led}
    (F : Fr h₀ L h' m') (N : News h₀ L h' ((I, it) :: news')) (off : ∀ p ∈ news', p.1 ≠ I) (r : rest m' news') : UnrEnd h₀ L s₁ I it rest { s₁ with heap := h', toks := tk } :=
  UnrEnd.intro F N news' (fun _ h => h) off r
section
variable {prog : Program} {w : World} {A : Around} {E : Value → Shared → Prop} {s : Shared} {env : Env} {h₀ : Heap} {x : PySem.Str} {body : List Stmt} {Q : Flow → Shared → Prop}
theorem unrPost_mono {L I : Addr} {it : Obj} {s₁ s₂ : Shared} {f : Flow} {R R' : (PySem.Str → Option Value) → Led → Prop} (h : ∀ m nx, (∀ p ∈ nx, p.1 ≠ I) → R m nx → R' m nx)
    (p : UnrPost h₀ L s₁ I it R Q f s₂) : UnrPost h₀ L s₁ I it R' Q f s₂ := by
  have up : UnrEnd h₀ L s₁ I it R s₂ → UnrEnd h₀ L s₁ I it R' s₂ := by
    rintro ⟨h', tk, m', news', e, F', N', ho, r⟩
    exact ⟨h', tk, m', news', e, F', N', ho, h _ _ ho r⟩
  cases f with
  | ret v => exact p
  | brk => exact p
  | next => exact up p
  | cont => exact up p
/-- a loop over a range, by what holds ahead of each turn -/
theorem krs_inv {r : Addr} {a₀ b₀ c : Int} {t₀ u₀ v₀ : Tok} {n : Nat} {m₀ : PySem.Str → Option Value} {news : Led} (J : Nat → (PySem.Str → Option Value) → Led → Prop)
    (hh : A.handled = none) (hr : IsRange s.heap r a₀ b₀ c t₀ u₀ v₀) (hsmall : Builtin.Range.small a₀ b₀ c = true) (hn : Builtin.Range.rangeSize a₀ b₀ c = (n : Int)) (F : Fr h₀ env.locals s.heap m₀) (N : News h₀ env.locals s.heap news) (hJ : J 0 m₀ news)
    (turn : ∀ (I : Addr) (it : Obj) (i : Nat) (m₁ : PySem.Str → Option Value) (nx : Led) (t : Tok) (h : Heap) (tk : Nat), i < n → (∀ p ∈ nx, p.1 ≠ I) → J i m₁ nx →
      Fr h₀ env.locals h (fun y => if y = x then some (.int (a₀ + (i : Int) * c) t) else m₁ y) → News h₀ env.locals h ((I, it) :: nx) →
      wpAny (model prog w) A (execs body env) (UnrPost h₀ env.locals { s with heap := h, toks := tk } I it (J (i + 1)) Q) E { s with heap := h, toks := tk })
    (done : ∀ m₁ nx h tk, J n m₁ nx → Fr h₀ env.locals h m₁ → News h₀ env.locals h nx → Q .next { s with heap := h, toks := tk }) :
    wpAny (model prog w) A (pyIter (.ref r)) (fun it s₂ => LoopAtV prog w A h₀ env x body Q E it s₂) E s := by
  refine krs_iter hh hr hsmall hn F N fun I hI => ?_
  have all : ∀ k i m₁ nx, i + k = n → (∀ p ∈ nx, p.1 ≠ I) → J i m₁ nx → KrsRest prog w A E h₀ env x body Q s I a₀ c n k i m₁ nx := by
    intro k
    induction k with
    | zero =>
      intro i m₁ nx hi _ hJ
      have : i = n := by omega
      subst this
      exact KrsRest.zero fun h tk F' N' => done m₁ nx h tk hJ F' N'
    | succ k ih =>
      intro i m₁ nx hi off hJ
      refine KrsRest.succ rfl fun t h tk F' N' => ?_
      refine wpAny_mono (turn I _ i m₁ nx t h tk (by omega) off hJ F' N') (fun f s₂ p => ?_) fun _ _ e => e
      exact unrPost_mono (fun m nx' ho r => ih (i + 1) m nx' (by omega) ho r) p
  exact all n 0 m₀ news (by omega) (fun p hp => Nat.ne_of_lt (hI p hp)) hJ
end
theorem map2 {m : PySem.Str → Option Value} {x y : PySem.Str} {u v : Option Value} (hx : m x = u) (hy : m y = v) : m = fun z => if z = x then u else if z = y then v else m z := by
  funext z
  by_cases h1 : z = x
  · simp [h1, hx]
  · by_cases h2 : z = y
    · subst h2; simp [h1, hy]
    · simp [h1, h2]
-- Prim1
section
variable {prog : Program} {w : World} {A : Around} {E : Value → Shared → Prop} {s : Shared}
theorem bytes_len_look : typeLookup (.type "bytes") "__len__" = pure (some (.builtin "bytes.__len__")) := by rw [typeLookup_type, builtinLookup_eq_fast]; kernel_rfl
abbrev ByteAt (b : Array UInt8) : Nat → Value → Prop := fun i v => ∃ c u, b[i]? = some c ∧ v = .int (c.toNat : Int) u
theorem extend_bytes {R : Result → Shared → Prop} (hh : A.handled = none) (b : Array UInt8) (t : Tok) (S : Addr) (res : Value) (c₀ : Nat) (hS : s.heap.get? S = some { cls := .type "list", data := .seq #[] c₀ })
    (hR : ∀ h' tk acc' c', (∀ b o, b ≠ S → s.heap.get? b = some o → h'.get? b = some o) → h'.get? S = some { cls := .type "list", dict := none, data := .seq acc' c', slots := #[] } →
      ItemsOf (ByteAt b) acc' b.size → R (.ok (.ret res)) { s with heap := h', toks := tk }) (hn : b.size ≤ sizeLine) :
    wpAny (model prog w) A.in1 (Builtin.List.listExtendWith (.ref S) (.bytes b t) res)
      (fun fin s' => match fin with | .done f => R (.ok f) s' | .again c' => c'.quiet = true ∧ codeAny (model prog w) A c' R s') (fun e s' => R (.error e) s') s := by
  have hSI : S ≠ s.heap.objs.size := Nat.ne_of_lt (Heap.lt_size hS)
  have hSf : S ∉ [s.heap.objs.size] := fun hm => hSI (List.mem_singleton.mp hm)
  unfold Builtin.List.listExtendWith
  refine wpAny_bind (wpAny_typeOf (T := "bytes") (v := .bytes b t) rfl ?_)
  have h1 : Builtin.List.listSameRef (.ref S) (.bytes b t) = false := rfl
  have h2 : (Value.type "bytes" == Value.type "list") = false := by decide
  have h3 : (Value.type "bytes" == Value.type "tuple") = false := by decide
  simp only [h1, h2, h3, Bool.or_false, Bool.false_eq_true, if_false]
  refine wpAny_bind (KBw.pyIter_bytes ?_)
  refine wpAny_bind (wpAny_holding ?_)
  unfold Builtin.List.listLengthHint
  refine wpAny_bind (wpAny_specialOf (T := "bytes") (v := .bytes b t) rfl bytes_len_look ?_)
  wp_delta
  refine wpAny_bind (wpAny_isInstance (T := "bytes") (v := .bytes b t) (b := true) rfl F.sub_bytes_bytes ?_)
  show wpAny _ _ (typeOf (Value.bytes b t) >>= _) _ _ _
  refine wpAny_bind (wpAny_typeOf (T := "bytes") (v := .bytes b t) rfl ?_)
  refine wpAny_pure ?_
  rw [if_neg (by decide)]
  have W : ∀ A' : Around, A'.handled = none → Walks prog w A' s.heap.objs.size [s.heap.objs.size] [s.heap.objs.size] b.size (ByteAt b) (fun i h => KBw.IsBytesIter h s.heap.objs.size b t i) := fun A' hA => KBw.walks hA _ b t
  have hst : KBw.IsBytesIter (s.heap.push { cls := .type "bytes_iterator", data := .fields #[.bytes b t, .int 0 0] }) s.heap.objs.size b t 0 := ⟨_, Heap.get?_push_size _ rfl, rfl, rfl⟩
  refine wpAny_pure ⟨plainId_quiet F.plain_extend_loop _, codeAny_extend_loopS (W A.in1 hh).toS hn _ hSf _ b.size 0 _ _ _ rfl (Nat.zero_le _) hst (Heap.get?_push_of_some _ hS) (ItemsOf.nil _) fun s' acc' c' hm hS' hacc => ?_⟩
  rw [Moved.eq_with hm]
  refine hR s'.heap s'.toks acc' c' (fun b ob hb e => hm.heap b ob (fun hmem => ?_) (Heap.get?_push_of_some _ e)) hS' hacc
  rcases List.mem_cons.mp hmem with e' | hmem
  · exact hb e'
  · exact absurd (Heap.lt_size e) (by rw [List.mem_singleton.mp hmem]; exact Nat.lt_irrefl _)
theorem init_bytes {R : Result → Shared → Prop} (hh : A.handled = none) (b : Array UInt8) (t : Tok) (S : Addr) (hS : s.heap.get? S = some { cls := .type "list", data := .seq #[] })
    (hR : ∀ h' tk acc' c', (∀ b o, b ≠ S → s.heap.get? b = some o → h'.get? b = some o) → h'.get? S = some { cls := .type "list", dict := none, data := .seq acc' c', slots := #[] } →
      ItemsOf (ByteAt b) acc' b.size → R (.ok (.ret .none)) { s with heap := h', toks := tk }) (hn : b.size ≤ sizeLine) :
    wpAny (model prog w) A.in1 (Builtin.«list.__init__» ⟨[.ref S, .bytes b t], []⟩)
      (fun fin s' => match fin with | .done f => R (.ok f) s' | .again c' => c'.quiet = true ∧ codeAny (model prog w) A c' R s') (fun e s' => R (.error e) s') s := by
  show wpAny _ _ (do let old ← Builtin.List.listItems (.ref S); Builtin.List.listUpdate (.ref S) (fun _ => #[]); letGo old.toList.reverse; Builtin.List.listExtendWith (.ref S) (.bytes b t) .none) _ _ s
  refine wpAny_bind ?_
  unfold Builtin.List.listItems
  refine wpAny_bind (wpAny_seqItems hS rfl (wpAny_pure ?_))
  show wpAny _ _ (updateSeq S (fun _ => #[]) >>= fun _ => letGo (#[] : Array Value).toList.reverse >>= fun _ => Builtin.List.listExtendWith (.ref S) (.bytes b t) .none) _ _ s
  refine wpAny_bind (wpAny_updateSeq hS rfl ?_)
  have hS₂ := Heap.get?_update_self (Obj.mapSeq (fun _ => (#[] : Array Value))) hS rfl
  have oth : ∀ b o, b ≠ S → s.heap.get? b = some o → (s.heap.update S (Obj.mapSeq (fun _ => (#[] : Array Value)))).get? b = some o :=
    fun b o hb e => (Heap.get?_update_other _ _ (Ne.symm hb)).trans e
  refine wpAny_bind (wpAny_letGo ?_)
  refine extend_bytes (hn := hn) hh b t S .none _ hS₂ fun h' tk acc' c' hk hS' hacc => ?_
  exact hR h' tk acc' c' (fun b o hb e => hk b o hb (oth b o hb e)) hS' hacc
theorem call_list_bytes {Q : Value → Shared → Prop} (hh : A.handled = none) (b : Array UInt8) (t : Tok)
    (hQ : ∀ h' tk acc' c', (∀ b o, s.heap.get? b = some o → h'.get? b = some o) →
      h'.get? s.heap.objs.size = some { cls := .type "list", dict := none, data := .seq acc' c', slots := #[] } → ItemsOf (ByteAt b) acc' b.size → Q (.ref s.heap.objs.size) { s with heap := h', toks := tk }) (hn : b.size ≤ sizeLine) :
    wpAny (model prog w) A (call (.type "list") [.bytes b t]) Q E s := by
  refine callType_codes (Q₁ := fun obj s₁ => obj = .ref s.heap.objs.size ∧ s₁ = { s with heap := s.heap.push { cls := .type "list", data := .seq #[] } }) F.called_list (F.typeCall_list_1 _) F.entry_list_init
    (code_list_new _ ⟨rfl, rfl⟩) fun obj s₁ h₁ => ?_
  obtain ⟨rfl, rfl⟩ := h₁
  have hS : (s.heap.push { cls := .type "list", data := .seq #[] }).get? s.heap.objs.size = some { cls := .type "list", data := .seq #[] } := Heap.get?_push_size _ rfl
  refine ⟨⟨_, hS, rfl⟩, F.args_list_init_2 _ _, init_bytes (A := A.in1) (hn := hn) hh b t _ hS fun h' tk acc' c' hk hS' hacc => ?_⟩
  exact ⟨rfl, hQ h' tk acc' c' (fun b o e => hk b o (Nat.ne_of_lt (Heap.lt_size e)) (Heap.get?_push_of_some _ e)) hS' hacc⟩
theorem ints_of_bytes {b : Array UInt8} {acc : Array Value} (h : ItemsOf (ByteAt b) acc b.size) : IntsAre acc.toList (KBw.bInts b) := by
  have key : ∀ (l : List UInt8) (vs : List Value), vs.length = l.length → (∀ (j : Nat) (v : Value), vs[j]? = some v → ∃ (c : UInt8) (u : Tok), l[j]? = some c ∧ v = Value.int (c.toNat : Int) u) → IntsAre vs (l.map fun c => (c.toNat : Int)) := by
    intro l
    induction l with
    | nil => intro vs hl _; cases vs with | nil => exact .nil | cons _ _ => simp at hl
    | cons c l ih =>
      intro vs hl hv
      cases vs with
      | nil => simp at hl
      | cons v vs =>
        obtain ⟨c', u, e, rfl⟩ := hv 0 v rfl
        simp only [List.getElem?_cons_zero, Option.some.injEq] at e
        subst e
        exact .cons _ _ (ih vs (by simpa using hl) fun j v hj => by simpa using hv (j + 1) v (by simpa using hj))
  refine key b.toList acc.toList (by simpa using h.1) fun j v hj => ?_
  obtain ⟨c, u, e, r⟩ := h.2 j v (by simpa using hj)
  exact ⟨c, u, by simpa using e, r⟩
theorem list_bytes_K {Q : Value → Shared → Prop} {h₀ : Heap} {L : Addr} {m : PySem.Str → Option Value} {news : Led} {b : Array UInt8} {t : Tok} {ks : List Int} (hh : A.handled = none) (F : Fr h₀ L s.heap m) (N : News h₀ L s.heap news) (hk : KBw.bInts b = ks) (hn : ks.length ≤ 16777216)
    (hQ : ∀ D vs c h' tk, IntsAre vs ks → Fr h₀ L h' m → News h₀ L h' ((D, listOf vs.toArray c) :: news) → (∀ p ∈ news, p.1 < D) → Q (.ref D) { s with heap := h', toks := tk }) :
    wpAny (model prog w) A (PySem.call (.type "list") [.bytes b t]) Q E s := by
  subst hk
  refine call_list_bytes hh b t (fun h' tk acc c hk hD hacc => ?_) (by rw [← KBw.ints_length, sizeLine_eq]; exact hn)
  have hi := ints_of_bytes hacc
  refine hQ s.heap.objs.size acc.toList c h' tk hi (F.keeps hk) (fun p hp => ?_) fun p hp => Heap.lt_size (N p hp).1
  rcases List.mem_cons.mp hp with rfl | hp
  · refine ⟨by simpa using hD, Nat.ne_of_gt F.ns.lt, ?_⟩
    cases e : h₀.get? s.heap.objs.size with
    | none => rfl
    | some o => exact absurd (Heap.lt_size (F.keep _ _ e)) (Nat.lt_irrefl _)
  · exact ⟨hk _ _ (N p hp).1, (N p hp).2⟩
end
theorem ext_K {prog : Program} {w : World} {A : Around} {E : Value → Shared → Prop} {s : Shared} {h₀ : Heap} {L D b : Addr} {m : PySem.Str → Option Value} {news news' : Led} {vs ws : List Value} {n n2 : Nat} {Q : Value → Shared → Prop}
    (F : Fr h₀ L s.heap m) (N : News h₀ L s.heap news) (hb : (b, listOf ws.toArray n2) ∈ news) (hne : ws.length ≠ 0)
    (U : Upd D (listOf vs.toArray n) (listOf (vs ++ ws).toArray (n + 1)) news news') (hz : vs.length + ws.length ≤ 1000)
    (h : ∀ h', Fr h₀ L h' m → News h₀ L h' news' → Q .none { s with heap := h' }) : wpAny (model prog w) A (PySem.call (.builtin "list.extend") [.ref D, .ref b]) Q E s := by
  have hline : Builtin.List.listTooLong (vs.length + ws.length) = false := by
    unfold Builtin.List.listTooLong
    rw [decide_eq_false_iff_not, sizeLine_eq]
    omega
  refine kl_extend (its := vs.toArray) (its2 := ws.toArray) F N hb rfl (by simpa using hne) U ?_ ?_ ?_ h
  · rw [List.size_toArray, List.size_toArray, hline]; simp
  · rw [sizeLine_eq]; show vs.length ≤ _; omega
  · rw [List.size_toArray, List.size_toArray, sizeLine_eq]; omega
theorem trim_a {h₀ h : Heap} {L : Addr} {e0 e1 e2 e3 e4 : Addr × Obj} {r : Led} (N : News h₀ L h (e0 :: e1 :: e2 :: e3 :: e4 :: r)) : News h₀ L h (e0 :: r) := fun p hp => N p (by
  simp only [List.mem_cons] at hp ⊢
  rcases hp with h | h <;> simp [h])
theorem ints1 {vs : List Value} {a : Int} (h : IntsAre vs [a]) : ∃ t, vs = [.int a t] := by
  cases h with | cons _ t h => cases h; exact ⟨t, rfl⟩
theorem ints2 {vs : List Value} {a b : Int} (h : IntsAre vs [a, b]) : ∃ t u, vs = [.int a t, .int b u] := by
  cases h with | cons _ t h => obtain ⟨u, rfl⟩ := ints1 h; exact ⟨t, u, rfl⟩
theorem ints3 {vs : List Value} {a b c : Int} (h : IntsAre vs [a, b, c]) : ∃ t u v, vs = [.int a t, .int b u, .int c v] := by
  cases h with | cons _ t h => obtain ⟨u, v, rfl⟩ := ints2 h; exact ⟨t, u, v, rfl⟩
theorem ints4 {vs : List Value} {a b c d : Int} (h : IntsAre vs [a, b, c, d]) : ∃ t u v x, vs = [.int a t, .int b u, .int c v, .int d x] := by
  cases h with | cons _ t h => obtain ⟨u, v, x, rfl⟩ := ints3 h; exact ⟨t, u, v, x, rfl⟩
theorem ints5 {vs : List Value} {a b c d e : Int} (h : IntsAre vs [a, b, c, d, e]) : ∃ t u v x y, vs = [.int a t, .int b u, .int c v, .int d x, .int e y] := by
  cases h with | cons _ t h => obtain ⟨u, v, x, y, rfl⟩ := ints4 h; exact ⟨t, u, v, x, y, rfl⟩
-- Cut
section
open PySem.Spec PySem.Calls
structure Box (P : Prop) : Prop where
  out : P
theorem unbox {P : Prop} (h : Box P) : P := h.out
section
variable {prog : Program} {w : World} {A : Around} {E : Value → Shared → Prop} {s : Shared} {env : Env} {h₀ : Heap} {L : Addr} {m : PySem.Str → Option Value}
/-- a loop over a range, by what holds ahead of each turn; the turn's end is a name -/
theorem krs_invP {sh : Heap} {sg : Array GenState} {sd : Drawn} {st : Nat} {so : OsState} {x : PySem.Str} {body : List Stmt} {Q : Flow → Shared → Prop} {r : Addr} {a₀ b₀ c : Int} {t₀ u₀ v₀ : Tok} {n : Nat} {m₀ : PySem.Str → Option Value} {news : Led} (J : Nat → (PySem.Str → Option Value) → Led → Prop)
    (hh : A.handled = none) (hr : IsRange sh r a₀ b₀ c t₀ u₀ v₀) (hsmall : Builtin.Range.small a₀ b₀ c = true) (hn : Builtin.Range.rangeSize a₀ b₀ c = (n : Int)) (F : Fr h₀ env.locals sh m₀) (N : News h₀ env.locals sh news) (hJ : J 0 m₀ news)
    (turn : ∀ (I : Addr) (it : Obj) (i : Nat) (m₁ : PySem.Str → Option Value) (nx : Led) (t : Tok) (h : Heap) (tk : Nat) (P : Flow → Shared → Prop), i < n → (∀ p ∈ nx, p.1 ≠ I) → J i m₁ nx →
      (∀ (m' : PySem.Str → Option Value) (nx' : Led) (h' : Heap) (tk' : Nat), J (i + 1) m' nx' → (∀ p ∈ nx', p.1 ≠ I) → Fr h₀ env.locals h' m' → News h₀ env.locals h' ((I, it) :: nx') → P .next ⟨h', sg, sd, tk', so⟩) →
      (∀ v s', Q (.ret v) s' → P (.ret v) s') →
      Fr h₀ env.locals h (fun y => if y = x then some (.int (a₀ + (i : Int) * c) t) else m₁ y) → News h₀ env.locals h ((I, it) :: nx) →
      wpAny (model prog w) A (execs body env) P E ⟨h, sg, sd, tk, so⟩)
    (done : ∀ m₁ nx h tk, J n m₁ nx → Fr h₀ env.locals h m₁ → News h₀ env.locals h nx → Q .next ⟨h, sg, sd, tk, so⟩) :
    wpAny (model prog w) A (pyIter (.ref r)) (fun it s₂ => LoopAtV prog w A h₀ env x body Q E it s₂) E ⟨sh, sg, sd, st, so⟩ :=
  krs_inv J hh hr hsmall hn F N hJ (fun I it i m₁ nx t h tk hi ho hJ F N => turn I it i m₁ nx t h tk _ hi ho hJ (fun _ nx' _ _ hJ' ho' F' N' => (UnrEnd.intro F' N' nx' (fun _ h => h) ho' hJ' : UnrEnd h₀ env.locals ⟨h, sg, sd, tk, so⟩ I it (J (i + 1)) _)) (fun _ _ q => q) F N) done
/-- an if whose test is false -/
theorem if_no {sh : Heap} {sg : Array GenState} {sd : Drawn} {st : Nat} {so : OsState} {test : PySem.Expr} {body orelse : List Stmt} {pos : Pos} {news : Led} {Q : Flow → Shared → Prop} (F : Fr h₀ L sh m) (N : News h₀ L sh news)
    (h1 : ∀ P : Bool → Shared → Prop, (∀ h' tk', Fr h₀ L h' m → News h₀ L h' news → P false ⟨h', sg, sd, tk', so⟩) → Fr h₀ L sh m → News h₀ L sh news → wpAny (model prog w) A (isTrue test env (eval test env)) P E ⟨sh, sg, sd, st, so⟩)
    (h2 : ∀ h' tk', Fr h₀ L h' m → News h₀ L h' news → wpAny (model prog w) A (execs orelse env) Q E ⟨h', sg, sd, tk', so⟩) :
    wpAny (model prog w) A (exec (.If test body orelse pos) env) Q E ⟨sh, sg, sd, st, so⟩ :=
  wpAny_If (h1 _ (fun h' tk' F N => h2 h' tk' F N) F N)
open LCg
/-- a comprehension whose items are told one by one -/
theorem rest_all {elt : PySem.Expr} {x : PySem.Str} {scope : Scope} {cl : List (PySem.Str × Addr)} {S : Led → Prop} {P : Nat → Value → Prop} {Fin : List Value → Led → Prop} {news : Led} {n : Nat} (R : Nat → Value → Prop)
    (turn : ∀ i v I oI C oC D m₂ ys h tk (E' : Value → Shared → Prop), i < n → P i v → NsObj oC m₂ → m₂ x = some v → Fr h₀ L h m → News h₀ L h ((I, oI) :: (C, oC) :: (D, lst ys) :: news) → Off3 I C D news → ((@Ne Nat I C) ∧ (@Ne Nat I D) ∧ (@Ne Nat C D)) →
      wpAny (model prog w) A (eval elt (compEnvC scope cl C env)) (CompEnd h₀ L m { s with heap := h, toks := tk } I oI C oC D (lst ys) S (fun y news' => news' = news ∧ R i y)) E' { s with heap := h, toks := tk })
    (fin : ∀ ys, ys.length = n → (∀ i y, ys[i]? = some y → R i y) → Fin ys news) : CompRest prog w A h₀ L m env elt x scope cl s S P Fin n 0 [] news := by
  have key : ∀ (j i : Nat) (ys : List Value), i + j = n → ys.length = i → (∀ k y, ys[k]? = some y → R k y) → CompRest prog w A h₀ L m env elt x scope cl s S P Fin j i ys news := by
    intro j
    induction j with
    | zero =>
      intro i ys hi hl hy
      exact CompRest.zero (fin ys (by omega) hy)
    | succ j ih =>
      intro i ys hi hl hy
      refine CompRest.succ ?_
      intro v I oI C oC D m₂ h tk E' hv hC hx F N off ne
      refine wpAny_mono (turn i v I oI C oC D m₂ ys h tk E' (by omega) hv hC hx F N off ne) (fun y s₂ hq => ?_) fun _ _ e => e
      obtain ⟨h', tk', nw, e, F', N', off', hS, hnw, hr⟩ := hq
      rw [hnw] at N' off' hS
      refine ⟨h', tk', news, e, F', N', off', hS, ih (i + 1) _ (by omega) (by simp only [List.length_append, List.length_cons, List.length_nil]; omega) fun k z hk => ?_⟩
      rcases Nat.lt_or_ge k ys.length with hlt | hge
      · rw [List.getElem?_append_left hlt] at hk
        exact hy k z hk
      · rw [List.getElem?_append_right hge] at hk
        have : k - ys.length = 0 := by
          cases h0 : k - ys.length with
          | zero => rfl
          | succ q => rw [h0] at hk; simp at hk
        have hk' : k = i := by omega
        rw [this] at hk
        simp only [List.getElem?_cons_zero, Option.some.injEq] at hk
        subst hk; subst hk'
        exact hr
  exact key n 0 [] (by omega) rfl (fun k y h => by simp at h)
theorem ints_get : ∀ {vs : List Value} {ns : List Int}, IntsAre vs ns → ∀ (i : Nat) (h : i < ns.length), ∃ u, vs[i]? = some (.int ns[i] u)
  | _, _, .nil, i, h => absurd h (Nat.not_lt_zero _)
  | _, _, .cons k u r, 0, _ => ⟨u, rfl⟩
  | _, _, .cons k u r, i + 1, h => ints_get r i (Nat.lt_of_succ_lt_succ h)
theorem ints_of_get : ∀ {ys : List Value} {ns : List Int}, ys.length = ns.length → (∀ (i : Nat) (y : Value), ys[i]? = some y → ∃ t, ∃ k, ns[i]? = some k ∧ y = .int k t) → IntsAre ys ns
  | [], [], _, _ => .nil
  | [], _ :: _, h, _ => nomatch h
  | _ :: _, [], h, _ => nomatch h
  | y :: ys, n :: ns, h, hy => by
    obtain ⟨t, k, e, rfl⟩ := hy 0 y rfl
    obtain rfl : n = k := Option.some.inj e
    exact .cons _ _ (ints_of_get (Nat.succ.inj h) fun i z hz => hy (i + 1) z hz)
theorem rest_map {sh : Heap} {sg : Array GenState} {sd : Drawn} {st : Nat} {so : OsState} (f : Int → Int) {elt : PySem.Expr} {x : PySem.Str} {scope : Scope} {cl : List (PySem.Str × Addr)} {S : Led → Prop} {Fin : List Value → Led → Prop} {news : Led} {vs : List Value} {ns : List Int} (hi : IntsAre vs ns)
    (turn : ∀ k u I oI C oC D m₂ ys h tk (E' : Value → Shared → Prop) (P : Value → Shared → Prop), k ∈ ns → NsObj oC m₂ → m₂ x = some (.int k u) → Fr h₀ L h m → News h₀ L h ((I, oI) :: (C, oC) :: (D, lst ys) :: news) → Off3 I C D news → ((@Ne Nat I C) ∧ (@Ne Nat I D) ∧ (@Ne Nat C D)) →
      (∀ t' h' tk', Fr h₀ L h' m → News h₀ L h' ((I, oI) :: (C, oC) :: (D, lst ys) :: news) → P (.int (f k) t') ⟨h', sg, sd, tk', so⟩) →
      wpAny (model prog w) A (eval elt (compEnvC scope cl C env)) P E' ⟨h, sg, sd, tk, so⟩)
    (hS : S news)
    (fin : ∀ ys, IntsAre ys (ns.map f) → Fin ys news) : CompRest prog w A h₀ L m env elt x scope cl ⟨sh, sg, sd, st, so⟩ S (fun i v => vs.toArray[i]? = some v) Fin vs.toArray.size 0 [] news := by
  have hl := hi.length
  refine rest_all (fun i y => ∃ k t, ns[i]? = some k ∧ y = Value.int (f k) t) ?_ ?_
  · intro i v I oI C oC D m₂ ys h tk E' hlt hv hC hx F N off ne
    rw [List.size_toArray] at hlt
    have hlt' : i < ns.length := by omega
    obtain ⟨u, hu⟩ := ints_get hi i hlt'
    have hvv : v = .int ns[i] u := by
      have hv' : vs[i]? = some v := by simpa using hv
      rw [hu] at hv'
      exact (Option.some.inj hv').symm
    subst hvv
    refine turn ns[i] u I oI C oC D m₂ ys h tk E' _ (List.getElem_mem _) hC hx F N off ne ?_
    intro t' h' tk' F' N'
    exact CompEnd.intro F' N' news (fun _ h => h) off hS ⟨rfl, _, _, List.getElem?_eq_getElem hlt', rfl⟩
  · intro ys hyl hy
    refine fin ys ?_
    rw [List.size_toArray] at hyl
    exact ints_of_get (by simpa using hyl.trans hl) fun i y hiy => by
      obtain ⟨k, t, hk, e⟩ := hy i y hiy
      exact ⟨t, f k, by rw [List.getElem?_map, hk]; rfl, e⟩
end
end
-- Prim2
section
variable {prog : Program} {w : World} {A : Around} {E : Value → Shared → Prop} {s : Shared} {b : Array UInt8} {t : Tok}
theorem nextOf_bytes_item {it : Addr} {i : Nat} {c : UInt8} {Q : Value → Shared → Prop} (hit : KBw.IsBytesIter s.heap it b t i) (hx : b[i]? = some c)
    (hQ : ∀ h', KBw.IsBytesIter h' it b t (i + 1) → Heap.SameBut it s.heap h' → Q (.int (c.toNat : Int) s.toks) { s with heap := h', toks := s.toks + 1 }) : wpAny (model prog w) A (Builtin.SmallTypes.nextOf (.ref it)) Q E s := by
  obtain ⟨o, ho, hc, hd⟩ := id hit
  unfold Builtin.SmallTypes.nextOf
  refine wpAny_bind (wpAny_callSpecial?_slot (name := PySem.Str.ofString "__next__") (KBw.iter_typeIs hit) KBw.slot_next
    (wpAny_call_entry KBw.slot_next (KBw.iter_typeIs hit) KBw.entry_next ?_ (KBw.args_next _)))
  show wpAny _ _ (field (.ref it) 0 >>= _) _ _ s
  refine wpAny_bind (wpAny_field ho hd (x := .bytes b t) rfl ?_)
  show wpAny _ _ (if (Value.bytes b t == Value.none) = true then _ else _) _ _ s
  rw [if_neg (show ¬ ((Value.bytes b t == Value.none) = true) from Bool.false_ne_true)]
  show wpAny _ _ (field (.ref it) 1 >>= _) _ _ s
  refine wpAny_bind (wpAny_field ho hd (x := .int i 0) rfl ?_)
  refine wpAny_bind (wpAny_of_eq (a := b) rfl ?_)
  simp only [Int.toNat_natCast, hx]
  refine wpAny_bind (wpAny_setField ho hd (by simp) (wpAny_bind (wpAny_mkInt (wpAny_pure ⟨_, rfl, wpAny_pure (hQ _ ?_ (Heap.SameBut.update ..))⟩))))
  exact ⟨_, Heap.get?_update_self _ ho (Obj.isFreed_of_fields (Obj.data_mapFields hd _)), (Obj.cls_mapFields ..).trans hc, by
    rw [Obj.data_mapFields hd]; simp [rawInt]⟩
theorem nextOf_bytes_end {it : Addr} {i : Nat} {Q : Value → Shared → Prop} (hh : A.handled = none) (hit : KBw.IsBytesIter s.heap it b t i) (hx : b[i]? = none)
    (hE : ∀ h' e, Heap.ExtBut it s.heap h' → (∃ o, h'.get? e = some o ∧ o.cls = .type "StopIteration") → E (.ref e) { s with heap := h' }) :
    wpAny (model prog w) A (Builtin.SmallTypes.nextOf (.ref it)) Q E s := by
  obtain ⟨o, ho, hc, hd⟩ := id hit
  unfold Builtin.SmallTypes.nextOf
  refine wpAny_bind (wpAny_callSpecial?_slot (name := PySem.Str.ofString "__next__") (KBw.iter_typeIs hit) KBw.slot_next
    (wpAny_call_entry KBw.slot_next (KBw.iter_typeIs hit) KBw.entry_next ?_ (KBw.args_next _)))
  show wpAny _ _ (field (.ref it) 0 >>= _) _ _ s
  refine wpAny_bind (wpAny_field ho hd (x := .bytes b t) rfl ?_)
  show wpAny _ _ (if (Value.bytes b t == Value.none) = true then _ else _) _ _ s
  rw [if_neg (show ¬ ((Value.bytes b t == Value.none) = true) from Bool.false_ne_true)]
  show wpAny _ _ (field (.ref it) 1 >>= _) _ _ s
  refine wpAny_bind (wpAny_field ho hd (x := .int i 0) rfl ?_)
  refine wpAny_bind (wpAny_of_eq (a := b) rfl ?_)
  simp only [Int.toNat_natCast, hx]
  refine wpAny_bind (wpAny_rule (wpAny_bind (wpAny_setField ho hd (by simp) ?_)))
  show wpAny _ _ (newExc (.type "StopIteration") [] >>= _) _ _ _
  refine wpAny_bind ?_
  simp only [newExc, newTuple]
  refine wpAny_bind (wpAny_newObj_type ?_ (by size_fits))
  refine wpAny_bind (m := firstArgMember _ _) (wpAny_of_eq (a := Value.none) (by first | rfl | (simp only [firstArgMember]; rfl)) ?_)
  refine wpAny_newObj_type ?_ (by size_fits)
  simp only [raiseNew]
  refine wpAny_bind (wpAny_handled ?_)
  first | rw [show A.in1.handled = none from hh] | rw [hh]
  refine wpAny_bind (wpAny_pure (wpAny_throw ?_))
  exact hE _ _ (((Heap.SameBut.update ..).extBut.push _).push _) ⟨_, Heap.get?_push_size _ rfl, rfl⟩
end
theorem draws_bytes {prog : Program} {w : World} {A : Around} (hh : A.handled = none) (it : Addr) (b : Array UInt8) (t : Tok) :
    Draws prog w A it [it] b.size (ByteAt b) (fun i h => KBw.IsBytesIter h it b t i) where
  live := fun _ _ st => let ⟨o, ho, _⟩ := st; ⟨o, ho⟩
  frame := fun _ _ _ st hk => let ⟨o, ho, r⟩ := st; ⟨o, hk it (by simp) o ho, r⟩
  item := fun i s Q E hi st hQ => by
    refine nextOf_bytes_item st (c := b[i]) (by simp [hi]) fun h' hit' hs' => ?_
    exact hQ _ h' (s.toks + 1) ⟨_, _, by simp [hi], rfl⟩ hit' hs'
  done := fun s Q E st hE => nextOf_bytes_end hh st (by simp) hE
section
theorem cutG {G X : Prop} (k : G → X) (g : G) : X := k g
theorem meets_enumerate_newB (x : Array UInt8) (t : Tok) :
    Meets (Builtin.«enumerate.__new__» ⟨[.type "enumerate", .bytes x t], []⟩) (fun _ R s =>
      R (.ok (.ret (.ref (s.heap.push { cls := .type "bytes_iterator", data := .fields #[.bytes x t, .int 0 0] }).objs.size)))
        { s with heap := (s.heap.push { cls := .type "bytes_iterator", data := .fields #[.bytes x t, .int 0 0] }).push { cls := .type "enumerate", data := .fields #[.none, .bool false, .ref s.heap.objs.size, rawInt 0, .none, .none] } }) :=
  .of_wp fun prog w A R s h => by
    obtain ⟨hp, g, d, tk, os⟩ := s
    have hsub := sub_enumerate
    wp_walk
    refine wpAny_stack_any fun st => wpAny_pure ?_
    apply cutG
    · intro key
      split
      · rename_i c _ _ _ _ _
        cases (c == Value.type "enumerate")
        · exact key
        · exact key
      · exact key
    · wp_walk using KBw.pyIter_bytes
      exact ⟨_, rfl, h⟩
variable {prog : Program} {w : World} {A : Around} {E : Value → Shared → Prop} {s : Shared}
theorem call_enumerate_bytes {x : Array UInt8} {t : Tok} {Q : Value → Shared → Prop}
    (h : ∀ h', IsEnum h' (s.heap.objs.size + 1) s.heap.objs.size 0 .none → KBw.IsBytesIter h' s.heap.objs.size x t 0 → h'.objs.size = s.heap.objs.size + 2 →
      (∀ b o, s.heap.get? b = some o → h'.get? b = some o) → Q (.ref (s.heap.objs.size + 1)) { s with heap := h' }) :
    wpAny (model prog w) A (PySem.call (.type "enumerate") [.bytes x t]) Q E s := by
  refine callType_new F.called_enumerate (by decide) (F.typeCall_enumerate_1 _) (F.newCall_enumerate_1 _) (fun obj => F.args_object_init_2 obj _) F.entry_enumerate_new
    (meets_enumerate_newB x t) ?_
  have hz : (s.heap.push { cls := .type "bytes_iterator", data := .fields #[.bytes x t, .int 0 0] }).objs.size = s.heap.objs.size + 1 := Heap.size_push ..
  show _ ∧ _
  rw [hz]
  have he : IsEnum ((s.heap.push { cls := .type "bytes_iterator", data := .fields #[.bytes x t, .int 0 0] }).push
      { cls := .type "enumerate", data := .fields #[.none, .bool false, .ref s.heap.objs.size, rawInt 0, .none, .none] }) (s.heap.objs.size + 1) s.heap.objs.size 0 .none := by
    have := Heap.get?_push_size (s.heap.push { cls := .type "bytes_iterator", data := .fields #[.bytes x t, .int 0 0] })
      (o := { cls := .type "enumerate", data := .fields #[.none, .bool false, .ref s.heap.objs.size, rawInt 0, .none, .none] }) rfl
    rw [hz] at this; exact this
  refine ⟨⟨_, he, rfl⟩, h _ he ⟨_, Heap.get?_push_of_some _ (Heap.get?_push_size _ rfl), rfl, rfl⟩ (by rw [Heap.size_push, hz]) fun b o y => Heap.get?_push_of_some _ (Heap.get?_push_of_some _ y)⟩
end
section
variable {prog : Program} {w : World} {A : Around} {E : Value → Shared → Prop} {s : Shared} {env : Env} {h₀ : Heap} {body : List Stmt} {Q : Flow → Shared → Prop}
noncomputable def itmsB : Nat → List Int → List Itm
  | _, [] => []
  | a, c :: r => .pairF (fun t => .int (a : Int) t) (.int c) :: itmsB (a + 1) r
theorem itmsB_length : ∀ (l : List Int) (a : Nat), (itmsB a l).length = l.length
  | [], _ => rfl
  | _ :: r, a => congrArg (· + 1) (itmsB_length r (a + 1))
theorem itmsB_get : ∀ (l : List Int) (a i : Nat) {c : Int}, l[i]? = some c → (itmsB a l)[i]? = some (.pairF (fun t => .int ((a + i : Nat) : Int) t) (.int c))
  | [], _, _, _, h => by simp at h
  | x :: r, a, 0, c, h => by
    simp only [List.getElem?_cons_zero, Option.some.injEq] at h
    subst h
    rfl
  | x :: r, a, i + 1, c, h => by
    have := itmsB_get r (a + 1) i (c := c) (by simpa using h)
    rw [show a + 1 + i = a + (i + 1) by omega] at this
    simpa [itmsB] using this
/-- a loop over enumerate(bytes), by what holds ahead of each turn -/
theorem enum_inv {elts : List PySem.Expr} {k : Nat} {pos : Pos} {b : Array UInt8} {tb : Tok} {ks : List Int} {m₀ : PySem.Str → Option Value} {news : Led} (J : Nat → (PySem.Str → Option Value) → Led → Prop)
    (hh : A.handled = none) (hk : KBw.bInts b = ks) (F : Fr h₀ env.locals s.heap m₀) (N : News h₀ env.locals s.heap news) (hJ : J 0 m₀ news)
    (turn : ∀ (I1 I2 : Addr) (o1 o2 : Obj) (i : Nat) (c : Int) (T : Addr) (ti tc : Tok) (m₁ : PySem.Str → Option Value) (nx : Led) (h : Heap) (tk : Nat), ks[i]? = some c → (∀ p ∈ nx, p.1 ≠ I1 ∧ p.1 ≠ I2) → J i m₁ nx →
      IsTup h T #[.int (i : Int) ti, .int c tc] → Fr h₀ env.locals h m₁ → News h₀ env.locals h ((I1, o1) :: (I2, o2) :: nx) →
      wpAny (model prog w) A (assign (.Tuple elts k pos) env (.ref T)) (fun _ s₂ => wpAny (model prog w) A (execs body env) (UnrPostW h₀ env.locals { s with heap := h, toks := tk } [(I1, o1), (I2, o2)] (J (i + 1)) Q) E s₂) E { s with heap := h, toks := tk })
    (done : ∀ m₁ nx h tk, J ks.length m₁ nx → Fr h₀ env.locals h m₁ → News h₀ env.locals h nx → Q .next { s with heap := h, toks := tk }) :
    wpAny (model prog w) A (PySem.call (.type "enumerate") [.bytes b tb]) (fun xv s₁ => wpAny (model prog w) A (pyIter xv) (fun it s₂ => TurnsAt prog w A h₀ env (.Tuple elts k pos) body Q E it s₂) E s₁) E s := by
  have hLs : env.locals < s.heap.objs.size := F.ns.lt
  have hlen : ks.length = b.size := by rw [← hk, KBw.ints_length]
  refine call_enumerate_bytes fun h' hE hI hsz hkeep => ?_
  refine wpAny_pyIter_enum hE ?_
  have all : ∀ (l : List Int) (i : Nat) m₁ nx, ks.drop i = l → i ≤ ks.length → (∀ p ∈ nx, p.1 ≠ s.heap.objs.size + 1 ∧ p.1 ≠ s.heap.objs.size) → J i m₁ nx →
      ItemsRest prog w A E h₀ env (.Tuple elts k pos) body Q s [(s.heap.objs.size + 1, "enumerate"), (s.heap.objs.size, "bytes_iterator")] [] (itmsB i l) m₁ nx := by
    intro l
    induction l with
    | nil =>
      intro i m₁ nx e hi _ hJ
      have : i = ks.length := by
        have h1 := congrArg List.length e
        rw [List.length_drop, List.length_nil] at h1
        omega
      subst this
      exact ItemsRest.zero fun h tk F' N' => done m₁ nx h tk hJ F' N'
    | cons c r ih =>
      intro i m₁ nx e hi off hJ
      have hc : ks[i]? = some c := by
        have h1 : (ks.drop i)[0]? = some c := by rw [e]; rfl
        rw [List.getElem?_drop, Nat.add_zero] at h1
        exact h1
      have hlt : i < ks.length := (List.getElem?_eq_some_iff.mp hc).1
      refine ItemsRest.pairF fun T ti x h tk hx hT F' => ?_
      refine AllObj.cons fun o1 _ => AllObj.cons fun o2 _ => AllObj.nil fun N' => ?_
      obtain ⟨tc, rfl⟩ : ∃ tc, x = Value.int c tc := by
        have hxh := hx h
        cases hxh
        exact ⟨_, rfl⟩
      · refine wpAny_mono (turn _ _ o1 o2 i c T ti tc m₁ nx h tk hc off hJ hT F' N') (fun _ s₂ h₂ => wpAny_mono h₂ (fun f s₃ p => ?_) fun _ _ e => e) fun _ _ e => e
        have up : UnrEndW h₀ env.locals { s with heap := h, toks := tk } [(s.heap.objs.size + 1, o1), (s.heap.objs.size, o2)] (J (i + 1)) s₃ →
            UnrEndW h₀ env.locals { s with heap := h, toks := tk } [(s.heap.objs.size + 1, o1), (s.heap.objs.size, o2)] (fun m' n' => SubL [] n' ∧ ItemsRest prog w A E h₀ env (.Tuple elts k pos) body Q s [(s.heap.objs.size + 1, "enumerate"), (s.heap.objs.size, "bytes_iterator")] [] (itmsB (i + 1) r) m' n') s₃ := by
          rintro ⟨h', tk', m', n', e1, F1, N1, off1, hJ1⟩
          refine ⟨h', tk', m', n', e1, F1, N1, off1, trivial, ih (i + 1) m' n' ?_ (by omega) (fun p hp => ⟨off1 p hp _ (.head _), off1 p hp _ (.tail _ (.head _))⟩) hJ1⟩
          rw [← List.drop_drop, e]; rfl
        cases f with
        | ret v => exact p
        | brk => exact p
        | next => exact up p
        | cont => exact up p
  refine ktu_core (tk0 := s.toks) (keep := []) (ws := [(s.heap.objs.size + 1, "enumerate"), (s.heap.objs.size, "bytes_iterator")]) (xs := itmsB 0 ks) (KTurns.ofWalksU (WalksT.enumerateD (draws_bytes (A := A.in1) hh s.heap.objs.size b tb) (s.heap.objs.size + 1) (Nat.succ_ne_self _) (by simp) (by simp)).toU) (by rw [itmsB_length, hlen]) ?_ ?_ ?_ ?_ ?_ ?_ ?_ ?_ (F.keeps hkeep) (N.grown hkeep) trivial
    (all ks 0 _ _ rfl (Nat.zero_le _) (fun p hp => ⟨ktu_ne 1 (Heap.lt_size (N p hp).1), Nat.ne_of_lt (Heap.lt_size (N p hp).1)⟩) hJ)
  · rintro i v h ⟨T, vals, rfl, ⟨ti, x, ⟨c, u, hc, rfl⟩, rfl⟩, hT⟩
    refine ⟨_, itmsB_get ks 0 i (c := (c.toNat : Int)) (by rw [← hk]; exact KBw.ints_get hc), T, ti, _, rfl, PyProof.V.Flat.int _ u, ?_⟩
    show IsTup h T #[.int ((0 + i : Nat) : Int) ti, .int (c.toNat : Int) u]
    rw [Nat.zero_add]
    exact hT
  · rintro i h ⟨⟨old, he⟩, ⟨oi, hoi, hic, _⟩⟩
    have he' : ∃ oe : Obj, h.get? (s.heap.objs.size + 1) = some oe ∧ oe.cls = .type "enumerate" := ⟨_, he, rfl⟩
    obtain ⟨oe, h1, h2⟩ := he'
    refine ⟨[(s.heap.objs.size + 1, oe), (s.heap.objs.size, oi)], ⟨⟨rfl, h2⟩, ⟨rfl, hic⟩, trivial⟩, fun p hp => ?_⟩
    rcases List.mem_cons.mp hp with rfl | hp
    · exact h1
    · rw [List.mem_singleton.mp hp]; exact hoi
  · intro b hb
    have hb' : b = s.heap.objs.size + 1 ∨ b = s.heap.objs.size := by simpa using hb
    rcases hb' with rfl | rfl
    · exact ⟨by simp, ktu_new F (Nat.le_add_right _ _)⟩
    · exact ⟨by simp, ktu_new F (Nat.le_refl _)⟩
  · intro b hb
    simpa using hb
  · intro b hb
    have hb' : b = s.heap.objs.size + 1 ∨ b = s.heap.objs.size := by simpa using hb
    rcases hb' with rfl | rfl
    · exact .inl (by simp)
    · exact .inl (by simp)
  · intro hI'
    have hb' : env.locals = s.heap.objs.size + 1 ∨ env.locals = s.heap.objs.size := by simpa using hI'
    rcases hb' with e | e
    · exact ktu_ne 1 hLs e
    · exact Nat.ne_of_lt hLs e
  · intro p hp hI'
    have hb' : p.1 = s.heap.objs.size + 1 ∨ p.1 = s.heap.objs.size := by simpa using hI'
    have hlp := Heap.lt_size (N p hp).1
    rcases hb' with e | e
    · exact ktu_ne 1 hlp e
    · exact Nat.ne_of_lt hlp e
  · exact ⟨⟨.none, hE⟩, hI⟩
end
-- Cut2
section
variable {prog : Program} {w : World} {A : Around} {E : Value → Shared → Prop} {env : Env} {h₀ : Heap}
theorem enum_invP {sh : Heap} {sg : Array GenState} {sd : Drawn} {st : Nat} {so : OsState} {body : List Stmt} {Q : Flow → Shared → Prop} {elts : List PySem.Expr} {k : Nat} {pos : Pos} {b : Array UInt8} {tb : Tok} {ks : List Int} {m₀ : PySem.Str → Option Value} {news : Led} (J : Nat → (PySem.Str → Option Value) → Led → Prop)
    (hh : A.handled = none) (hk : KBw.bInts b = ks) (F : Fr h₀ env.locals sh m₀) (N : News h₀ env.locals sh news) (hJ : J 0 m₀ news)
    (turn : ∀ (I1 I2 : Addr) (o1 o2 : Obj) (i : Nat) (c : Int) (T : Addr) (ti tc : Tok) (m₁ : PySem.Str → Option Value) (nx : Led) (h : Heap) (tk : Nat) (P : Flow → Shared → Prop), ks[i]? = some c → (∀ p ∈ nx, p.1 ≠ I1 ∧ p.1 ≠ I2) → J i m₁ nx →
      (∀ f, f = .next ∨ f = .cont → ∀ m' nx' h' tk', J (i + 1) m' nx' → (∀ p ∈ nx', ∀ q ∈ [(I1, o1), (I2, o2)], p.1 ≠ q.1) → Fr h₀ env.locals h' m' → News h₀ env.locals h' ([(I1, o1), (I2, o2)] ++ nx') → P f ⟨h', sg, sd, tk', so⟩) →
      (∀ s', Q .next s' → P .brk s') →
      IsTup h T #[.int (i : Int) ti, .int c tc] → Fr h₀ env.locals h m₁ → News h₀ env.locals h ((I1, o1) :: (I2, o2) :: nx) →
      wpAny (model prog w) A (assign (.Tuple elts k pos) env (.ref T)) (fun _ s₂ => wpAny (model prog w) A (execs body env) P E s₂) E ⟨h, sg, sd, tk, so⟩)
    (done : ∀ m₁ nx h tk, J ks.length m₁ nx → Fr h₀ env.locals h m₁ → News h₀ env.locals h nx → Q .next ⟨h, sg, sd, tk, so⟩) :
    wpAny (model prog w) A (PySem.call (.type "enumerate") [.bytes b tb]) (fun xv s₁ => wpAny (model prog w) A (pyIter xv) (fun it s₂ => TurnsAt prog w A h₀ env (.Tuple elts k pos) body Q E it s₂) E s₁) E ⟨sh, sg, sd, st, so⟩ :=
  enum_inv J hh hk F N hJ (fun I1 I2 o1 o2 i c T ti tc m₁ nx h tk hc ho hJ hT F N => turn I1 I2 o1 o2 i c T ti tc m₁ nx h tk _ hc ho hJ (fun f hf m' nx' h' tk' hJ' ho' F' N' => by
    have q : UnrEndW h₀ env.locals ⟨h, sg, sd, tk, so⟩ [(I1, o1), (I2, o2)] (J (i + 1)) ⟨h', sg, sd, tk', so⟩ := ⟨h', tk', m', nx', rfl, F', N', ho', hJ'⟩
    rcases hf with rfl | rfl
    · exact q
    · exact q) (fun _ q => q) hT F N) done
end
theorem app_K {prog : Program} {w : World} {A : Around} {E : Value → Shared → Prop} {s : Shared} {h₀ : Heap} {L D : Addr} {m : PySem.Str → Option Value} {news news' : Led} {vs : List Value} {n : Nat} {x : Value} {Q : Value → Shared → Prop}
    (F : Fr h₀ L s.heap m) (N : News h₀ L s.heap news) (U : Upd D (listOf vs.toArray n) (listOf (vs ++ [x]).toArray (n + 1)) news news') (hz : vs.length ≤ 1000)
    (h : ∀ h', Fr h₀ L h' m → News h₀ L h' news' → Q .none { s with heap := h' }) : wpAny (model prog w) A (PySem.call (.builtin "list.append") [.ref D, x]) Q E s := by
  have e : vs.toArray.push x = (vs ++ [x]).toArray := by simp
  exact append_K (its := vs.toArray) (hsz := by rw [List.size_toArray, sizeLine_eq]; omega) F N (news' := news') (by rw [e]; exact U) h
structure NeA (a b : Addr) : Prop where
  out : a ≠ b
-- Prim3b
section facts
theorem slot_blt : Slot "bytes" (cmpInfo .Lt).2.1 "bytes.__lt__" :=
  .of (owner := "bytes") (n := "__lt__") (by rw [typeLookup_type, builtinLookup_eq_fast]; kernel_rfl) (by decide +kernel) (by decide +kernel) (by decide +kernel)
    (by first | exact .inl (by decide +kernel) | exact .inr (by decide +kernel)) (by rw [isSubtype_type]; kernel_rfl)
theorem entry_blt : entryFor table "bytes.__lt__" = some Builtin.«bytes.__lt__» := entryFor_of_tree (by kernel_rfl)
theorem args_blt (a b : Value) : argsOk "bytes.__lt__" ⟨[a, b], []⟩ := by
  unfold argsOk; rw [signature?_of (id := "bytes.__lt__") (n := ['_', '_', 't', 'l', '_', '_']) (o := ['s', 'e', 't', 'y', 'b']) (by kernel_rfl) FB.owner_bytes]; kernel_rfl
theorem slot_join : Slot "bytes" "join" "bytes.join" :=
  .of (owner := "bytes") (n := "join") (by rw [typeLookup_type, builtinLookup_eq_fast]; kernel_rfl) (by decide +kernel) (by decide +kernel) (by decide +kernel)
    (by first | exact .inl (by decide +kernel) | exact .inr (by decide +kernel)) (by rw [isSubtype_type]; kernel_rfl)
theorem type_join : typeOf (.builtin "bytes.join") = pure (.type "method_descriptor") := by show builtinType _ = _; rw [builtinType_eq_fast]; kernel_rfl
theorem entry_join : entryFor table "bytes.join" = some Builtin.«bytes.join» := entryFor_of_tree (by kernel_rfl)
theorem args_join (a b : Value) : argsOk "bytes.join" ⟨[a, b], []⟩ := by
  unfold argsOk; rw [signature?_of (id := "bytes.join") (n := ['n', 'i', 'o', 'j']) (o := ['s', 'e', 't', 'y', 'b']) (by kernel_rfl) FB.owner_bytes]; kernel_rfl
end facts
open Builtin in
theorem gives_blt (b c : Array UInt8) (t u : Tok) : Gives («bytes.__lt__» ⟨[.bytes b t, .bytes c u], []⟩) (.val (.bool (Bytes.order b.toList c.toList == .lt))) := by
  refine .of_wp fun M A E s Q hq => ?_
  show wpAny M A (isInstance (.bytes c u) (.type "bytes") >>= fun r => _) _ E s
  refine wpAny_bind (wpAny_isInstance (typeIs_bytes s c u) F.sub_bytes_bytes ?_)
  exact wpAny_pure ⟨_, rfl, hq⟩
section
variable {prog : Program} {w : World} {A : Around} {E : Value → Shared → Prop} {s : Shared} {b c : Array UInt8} {t u : Tok}
theorem lt_bytes {Q : Value → Shared → Prop} (h : Q (.bool (Builtin.Bytes.order b.toList c.toList == .lt)) s) : wpAny (model prog w) A (compareOp .Lt (.bytes b t) (.bytes c u)) Q E s :=
  compareOp_gives (op := .Lt) (typeIs_bytes s b t) (typeIs_bytes s c u) slot_blt entry_blt (args_blt _ _) (gives_blt b c t u) (fun e => nomatch e) h
theorem method_join {M : Model} {pl : Sem Bool} {Q : Value × List Value → Shared → Prop} (h : Q (.builtin "bytes.join", [.bytes b t]) s) : wpAny M A (getMethod (.bytes b t) "join" pl) Q E s := by
  with_reducible exact KBd.method_of (.bytes b t) (typeIs_bytes _ _ _) slot_join type_join KBd.noRef h
theorem argBest_lt (bt : Nat → Nat → Bool) : ∀ k, argBest bt k ≤ k
  | 0 => Nat.le_refl _
  | k + 1 => by
    unfold argBest
    split
    · exact Nat.le_refl _
    · exact Nat.le_succ_of_le (argBest_lt bt k)
theorem byteAt_val {i : Nat} {v : Value} (h : ByteAt b i v) : ∃ tt, v = .int ((b.getD i 0).toNat : Int) tt := by
  obtain ⟨c, u, hc, rfl⟩ := h
  exact ⟨u, by rw [Array.getD_eq_getD_getElem?, hc]; rfl⟩
theorem max_bytes {Q : Value → Shared → Prop} {h₀ : Heap} {L : Addr} {m : PySem.Str → Option Value} {news : Led} {ks : List Int} (hh : A.handled = none) (F : Fr h₀ L s.heap m) (N : News h₀ L s.heap news) (hk : KBw.bInts b = ks) (hn : 0 < ks.length)
    (h : ∀ k tt h' tk, k ∈ ks → Fr h₀ L h' m → News h₀ L h' news → Q (.int k tt) { s with heap := h', toks := tk }) : wpAny (model prog w) A (PySem.call (.builtin "max") [.bytes b t]) Q E s := by
  refine call_max_walk (KBw.pyIter_bytes ?_)
  have hsz : 0 < b.size := by rw [← KBw.ints_length, hk]; exact hn
  refine ⟨s.heap.objs.size, _, _, b.size, _, _, _, rfl, KBw.walks (A := A.in1) hh s.heap.objs.size b t, ⟨_, Heap.get?_push_size _ rfl, rfl, rfl⟩, ?_, hsz, CmpOf.ints_gt (fun i => ((b.getD i 0).toNat : Int)) (fun i v => byteAt_val), ?_⟩
  · intro x hx
    rw [List.mem_singleton.mp hx, Heap.size_push]
    exact Nat.lt_succ_self _
  · rintro v h' tk ⟨c, u, hc, rfl⟩ hkeep
    have keep : ∀ b o, s.heap.get? b = some o → h'.get? b = some o := fun b o e => hkeep b o (by simp only [List.mem_singleton]; exact Nat.ne_of_lt (Heap.lt_size e)) (Heap.get?_push_of_some _ e)
    exact h _ u h' tk (by rw [← hk]; exact List.mem_of_getElem? (KBw.ints_get hc)) (F.keeps keep) (fun p hp => ⟨keep _ _ (N p hp).1, (N p hp).2⟩)
theorem min_bytes {Q : Value → Shared → Prop} {h₀ : Heap} {L : Addr} {m : PySem.Str → Option Value} {news : Led} {ks : List Int} (hh : A.handled = none) (F : Fr h₀ L s.heap m) (N : News h₀ L s.heap news) (hk : KBw.bInts b = ks) (hn : 0 < ks.length)
    (h : ∀ k tt h' tk, k ∈ ks → Fr h₀ L h' m → News h₀ L h' news → Q (.int k tt) { s with heap := h', toks := tk }) : wpAny (model prog w) A (PySem.call (.builtin "min") [.bytes b t]) Q E s := by
  refine call_min_walk (KBw.pyIter_bytes ?_)
  have hsz : 0 < b.size := by rw [← KBw.ints_length, hk]; exact hn
  refine ⟨s.heap.objs.size, _, _, b.size, _, _, _, rfl, KBw.walks (A := A.in1) hh s.heap.objs.size b t, ⟨_, Heap.get?_push_size _ rfl, rfl, rfl⟩, ?_, hsz, CmpOf.ints_lt (fun i => ((b.getD i 0).toNat : Int)) (fun i v => byteAt_val), ?_⟩
  · intro x hx
    rw [List.mem_singleton.mp hx, Heap.size_push]
    exact Nat.lt_succ_self _
  · rintro v h' tk ⟨c, u, hc, rfl⟩ hkeep
    have keep : ∀ b o, s.heap.get? b = some o → h'.get? b = some o := fun b o e => hkeep b o (by simp only [List.mem_singleton]; exact Nat.ne_of_lt (Heap.lt_size e)) (Heap.get?_push_of_some _ e)
    exact h _ u h' tk (by rw [← hk]; exact List.mem_of_getElem? (KBw.ints_get hc)) (F.keeps keep) (fun p hp => ⟨keep _ _ (N p hp).1, (N p hp).2⟩)
theorem eqGives_bytes (b c : Array UInt8) (t u : Tok) : MeetsSeq.EqGives (.bytes b t) (.bytes c u) (decide (b.toList = c.toList)) := fun _ _ _ _ _ _ h => eqBool_bytes h
noncomputable def isB (k : List UInt8) : Value → Bool
  | .bytes b _ => decide (b.toList = k)
  | _ => false
theorem in_list_bytes {l : Addr} {vs : List Value} {c : Array UInt8} {u : Tok} {Q : Value → Shared → Prop} (hl : s.heap.IsList l vs.toArray) (hv : ∀ v ∈ vs, ∃ b t, v = .bytes b t)
    (h : Q (.bool (vs.any (isB c.toList))) s) : wpAny (model prog w) A (compareOp .In (.bytes c u) (.ref l)) Q E s :=
  SeqInW.in_listW (isB c.toList) (fun y hy => by
    obtain ⟨b, t, rfl⟩ := hv y (by simpa using hy)
    exact eqGives_bytes b c t u) hl (by rw [← Array.any_toList, show vs.toArray.toList = vs from rfl]; exact h)
end
section
variable {prog : Program} {w : World} {A : Around} {E : Value → Shared → Prop} {s : Shared}
theorem bb_look : typeLookup (.type "bytes") "__bytes__" = pure (some (.builtin "bytes.__bytes__")) := by rw [typeLookup_type, builtinLookup_eq_fast]; kernel_rfl
theorem bb_new {b : Array UInt8} {t : Tok} {Q : Value → Shared → Prop} (hQ : Q (.bytes b t) s) :
    codeAny (model prog w) A (.call (.builtin "bytes.__new__") ⟨[.type "bytes", .bytes b t], []⟩) (PySem.wants Q E) s := by
  refine codeAny_of_tree ?_
  show wpAny _ A.in1 (do checkBuiltinCall "bytes.__new__" ⟨[.type "bytes", .bytes b t], []⟩; again (.builtin "bytes.__new__" ⟨[.type "bytes", .bytes b t], []⟩)) _ _ s
  refine wpAny_bind (wpAny_of_eq (F.bm_newCall _) (wpAny_pure ⟨plainId_quiet F.bm_plain _, codeAny_builtin F.bm_entry ?_⟩))
  rw [Around.under_plainId F.bm_plain _]
  unfold Builtin.«bytes.__new__»
  refine wpAny_bind (wpAny_of_eq (a := true) rfl ?_)
  refine bm_if_false rfl ?_
  refine wpAny_bind (wpAny_of_eq F.bm_sub ?_)
  refine bm_if_false rfl ?_
  refine wpAny_bind (wpAny_of_eq (F.bm_bind _) ?_)
  refine wpAny_bind (wpAny_of_eq (a := ()) rfl ?_)
  refine wpAny_bind (wpAny_of_eq (a := ()) rfl ?_)
  refine bm_if_false rfl ?_
  refine wpAny_bind (wpAny_specialOf (typeIs_bytes s b t) bb_look ?_)
  refine wpAny_bind (wpAny_rule ?_)
  refine wpAny_bind (wpAny_typeOf (typeIs_bytes s b t) ?_)
  refine bm_if_true (by decide) ?_
  exact wpAny_pure hQ
theorem bytes_of_bytes {b : Array UInt8} {t : Tok} {Q : Value → Shared → Prop} (h : Q (.bytes b t) s) : wpAny (model prog w) A (PySem.call (.type "bytes") [.bytes b t]) Q E s := by
  refine callType_codes (Q₁ := fun obj s₁ => s₁.TypeIs obj "bytes" ∧ Q obj s₁) F.bm_called (F.bm_typeCall _) F.entry_object_init
    (bb_new ⟨PySem.W.typeIs_bytes _ _ _, h⟩) fun obj s₁ h₁ => ?_
  exact ⟨h₁.1, F.args_object_init_2 obj _, object_init_meets F.bm_called.init.lookup F.bm_called.made (by decide) prog w A.in1 _ s₁ ⟨h₁.1, rfl, h₁.2⟩⟩
theorem bi_look : typeLookup (.type "int") "__bytes__" = pure none := by rw [typeLookup_type, builtinLookup_eq_fast]; kernel_rfl
theorem bi_new {n : Int} {t : Tok} {Q : Value → Shared → Prop} (h0 : 0 ≤ n) (h1 : n ≤ 1000) (hQ : ∀ t' k, Q (.bytes (Array.replicate n.toNat 0) t') { s with toks := k }) :
    codeAny (model prog w) A (.call (.builtin "bytes.__new__") ⟨[.type "bytes", .int n t], []⟩) (PySem.wants Q E) s := by
  refine codeAny_of_tree ?_
  show wpAny _ A.in1 (do checkBuiltinCall "bytes.__new__" ⟨[.type "bytes", .int n t], []⟩; again (.builtin "bytes.__new__" ⟨[.type "bytes", .int n t], []⟩)) _ _ s
  refine wpAny_bind (wpAny_of_eq (F.bm_newCall _) (wpAny_pure ⟨plainId_quiet F.bm_plain _, codeAny_builtin F.bm_entry ?_⟩))
  rw [Around.under_plainId F.bm_plain _]
  unfold Builtin.«bytes.__new__»
  refine wpAny_bind (wpAny_of_eq (a := true) rfl ?_)
  refine bm_if_false rfl ?_
  refine wpAny_bind (wpAny_of_eq F.bm_sub ?_)
  refine bm_if_false rfl ?_
  refine wpAny_bind (wpAny_of_eq (F.bm_bind _) ?_)
  refine wpAny_bind (wpAny_of_eq (a := ()) rfl ?_)
  refine wpAny_bind (wpAny_of_eq (a := ()) rfl ?_)
  refine bm_if_false rfl ?_
  refine wpAny_bind (wpAny_specialOf (typeIs_int s n t) bi_look ?_)
  refine wpAny_bind (wpAny_bind (wpAny_of_eq (a := none) rfl (wpAny_pure ?_)))
  refine bm_if_false rfl ?_
  refine wpAny_bind (wpAny_specialOf (typeIs_int s n t) F.slot_int_index.lookup ?_)
  refine bm_if_false rfl ?_
  refine wpAny_bind (wpAny_attempt (wpAny_of_eq (rfl : asIndex (.int n t) = pure n) ?_))
  refine bm_if_false (by simp only [Builtin.Bytes.fitsIndex, Bool.not_eq_false', Bool.and_eq_true, decide_eq_true_eq]; omega) ?_
  refine wpAny_ite ?_
  rw [if_neg (by omega)]
  refine wpAny_ite ?_
  rw [if_neg (by omega)]
  refine bm_if_false (by unfold Builtin.Bytes.tooLong; rw [decide_eq_false_iff_not, sizeLine_eq]; omega) ?_
  refine wpAny_bind (wpAny_rule ?_)
  refine wpAny_bind (wpAny_mkBytes ?_ (by rw [Array.size_replicate, sizeLine_eq]; omega))
  exact wpAny_pure (hQ _ _)
theorem bytes_of_int {n : Int} {t : Tok} {Q : Value → Shared → Prop} (h0 : 0 ≤ n) (h1 : n ≤ 1000) (h : ∀ t' k, Q (.bytes (Array.replicate n.toNat 0) t') { s with toks := k }) : wpAny (model prog w) A (PySem.call (.type "bytes") [.int n t]) Q E s := by
  refine callType_codes (Q₁ := fun obj s₁ => s₁.TypeIs obj "bytes" ∧ Q obj s₁) F.bm_called (F.bm_typeCall _) F.entry_object_init
    (bi_new h0 h1 fun t' k => ⟨PySem.W.typeIs_bytes _ _ _, h t' k⟩) fun obj s₁ h₁ => ?_
  exact ⟨h₁.1, F.args_object_init_2 obj _, object_init_meets F.bm_called.init.lookup F.bm_called.made (by decide) prog w A.in1 _ s₁ ⟨h₁.1, rfl, h₁.2⟩⟩
end
-- Prim4
section
variable {prog : Program} {w : World} {A : Around} {E : Value → Shared → Prop} {s : Shared}
open Builtin
theorem take_pure {id : String} {b : Array UInt8} {t : Tok} : Bytes.takeBufferQuiet? id (.bytes b t) 0 = pure (some (b, none)) := by
  have e : ((0 : Int) == Bytes.fullReadOnly) = false := by decide
  unfold Bytes.takeBufferQuiet? Bytes.takeBuffer?
  rw [KBy.special_eq KBy.look_buffer, KBy.own_buffer, e, KBy.buffer_eq]
  kernel_rfl
theorem take_eq {id : String} {b : Array UInt8} {t : Tok} {M : Model} {Q : Option (Array UInt8 × Option Value) → Shared → Prop} (h : Q (some (b, none)) s) : wpAny M A (Bytes.takeBufferQuiet? id (.bytes b t) 0) Q E s := wpAny_of_eq take_pure h
theorem join1 {b0 : Array UInt8} {t t0 : Tok} {l : Addr} {M : Model} {Q : Value → Shared → Prop} (hl : s.heap.IsList l #[.bytes b0 t0])
    (_hs : b0.size ≤ 1000) (h : ∀ t' k, Q (.bytes (b0) t') { s with toks := k }) :
    wpAny M A (Builtin.«bytes.join» ⟨[.bytes #[] t, .ref l], []⟩) (fun fin s' => ∃ v, fin = .done (.ret v) ∧ Q v s') E s := by
  obtain ⟨o, hg, hc, n, hd⟩ := hl
  unfold Builtin.«bytes.join» Bytes.joinM
  refine wpAny_bind (wpAny_of_eq (a := (.bytes #[] t, .ref l)) rfl ?_)
  dsimp only
  refine bm_if_true rfl ?_
  unfold Bytes.joinItems
  refine wpAny_bind (wpAny_bind (wpAny_typeOf ⟨o, hg, hc⟩ ?_))
  refine bm_if_true (by decide) (wpAny_pure ?_)
  refine wpAny_bind (wpAny_seqItems hg hd ?_)
  refine bm_if_true rfl ?_
  refine wpAny_bind (wpAny_typeOf (typeIs_bytes s _ _) ?_)
  refine bm_if_true (by decide) ?_
  refine wpAny_bind (wpAny_rule ?_)
  exact wpAny_pure ⟨_, rfl, h _ s.toks⟩
theorem join2 {b0 b1 : Array UInt8} {t t0 t1 : Tok} {l : Addr} {M : Model} {Q : Value → Shared → Prop} (hl : s.heap.IsList l #[.bytes b0 t0, .bytes b1 t1])
    (hs : b0.size + b1.size ≤ 1000) (h : ∀ t' k, Q (.bytes (b0 ++ b1) t') { s with toks := k }) :
    wpAny M A (Builtin.«bytes.join» ⟨[.bytes #[] t, .ref l], []⟩) (fun fin s' => ∃ v, fin = .done (.ret v) ∧ Q v s') E s := by
  obtain ⟨o, hg, hc, n, hd⟩ := hl
  unfold Builtin.«bytes.join» Bytes.joinM
  refine wpAny_bind (wpAny_of_eq (a := (.bytes #[] t, .ref l)) rfl ?_)
  dsimp only
  refine bm_if_true rfl ?_
  unfold Bytes.joinItems
  refine wpAny_bind (wpAny_bind (wpAny_typeOf ⟨o, hg, hc⟩ ?_))
  refine bm_if_true (by decide) (wpAny_pure ?_)
  refine wpAny_bind (wpAny_seqItems hg hd ?_)
  refine bm_if_true rfl ?_
  refine wpAny_bind ?_
  rw [PySem.W.KPc.range_list]
  show wpAny M A (forIn [0, 1] _ _) _ _ _
  refine PySem.W.KPc.turn ?_
  dsimp only
  refine wpAny_bind (wpAny_seqItems hg hd ?_)
  dsimp only
  refine bm_if_false rfl ?_
  refine wpAny_bind (wpAny_holding (take_eq ?_))
  dsimp only
  refine wpAny_bind (wpAny_seqItems hg hd ?_)
  dsimp only
  refine bm_if_false rfl ?_
  refine wpAny_pure ?_
  dsimp only
  refine PySem.W.KPc.turn ?_
  dsimp only
  refine wpAny_bind (wpAny_seqItems hg hd ?_)
  dsimp only
  refine bm_if_false rfl ?_
  refine wpAny_bind (wpAny_holding (take_eq ?_))
  dsimp only
  refine wpAny_bind (wpAny_seqItems hg hd ?_)
  dsimp only
  refine bm_if_false rfl ?_
  refine wpAny_pure ?_
  dsimp only
  rw [List.forIn_nil]
  refine wpAny_pure ?_
  refine wpAny_bind (wpAny_of_eq (a := #[]) rfl ?_)
  refine bm_if_false (KBy.tooLong_not (by simp; omega)) ?_
  dsimp only
  rw [show Bytes.joined #[] ((#[].push b0).push b1).toList = b0 ++ b1 from by simp [Bytes.joined, List.zipIdx]]
  refine wpAny_bind (wpAny_mkBytes ?_ (by rw [sizeLine_eq]; simp only [Array.size_append]; omega))
  refine wpAny_bind (wpAny_holding (wpAny_point ?_))
  refine wpAny_bind ?_
  show wpAny M A (Bytes.joinLetGo [(.bytes b0 t0, none), (.bytes b1 t1, none)] _) _ _ _
  unfold Bytes.joinLetGo
  repeat' refine wpAny_bind (wpAny_letGo ?_)
  refine wpAny_pure ?_
  exact wpAny_pure ⟨_, rfl, h _ _⟩
theorem join3 {b0 b1 b2 : Array UInt8} {t t0 t1 t2 : Tok} {l : Addr} {M : Model} {Q : Value → Shared → Prop} (hl : s.heap.IsList l #[.bytes b0 t0, .bytes b1 t1, .bytes b2 t2])
    (hs : b0.size + b1.size + b2.size ≤ 1000) (h : ∀ t' k, Q (.bytes (b0 ++ b1 ++ b2) t') { s with toks := k }) :
    wpAny M A (Builtin.«bytes.join» ⟨[.bytes #[] t, .ref l], []⟩) (fun fin s' => ∃ v, fin = .done (.ret v) ∧ Q v s') E s := by
  obtain ⟨o, hg, hc, n, hd⟩ := hl
  unfold Builtin.«bytes.join» Bytes.joinM
  refine wpAny_bind (wpAny_of_eq (a := (.bytes #[] t, .ref l)) rfl ?_)
  dsimp only
  refine bm_if_true rfl ?_
  unfold Bytes.joinItems
  refine wpAny_bind (wpAny_bind (wpAny_typeOf ⟨o, hg, hc⟩ ?_))
  refine bm_if_true (by decide) (wpAny_pure ?_)
  refine wpAny_bind (wpAny_seqItems hg hd ?_)
  refine bm_if_true rfl ?_
  refine wpAny_bind ?_
  rw [PySem.W.KPc.range_list]
  show wpAny M A (forIn [0, 1, 2] _ _) _ _ _
  refine PySem.W.KPc.turn ?_
  dsimp only
  refine wpAny_bind (wpAny_seqItems hg hd ?_)
  dsimp only
  refine bm_if_false rfl ?_
  refine wpAny_bind (wpAny_holding (take_eq ?_))
  dsimp only
  refine wpAny_bind (wpAny_seqItems hg hd ?_)
  dsimp only
  refine bm_if_false rfl ?_
  refine wpAny_pure ?_
  dsimp only
  refine PySem.W.KPc.turn ?_
  dsimp only
  refine wpAny_bind (wpAny_seqItems hg hd ?_)
  dsimp only
  refine bm_if_false rfl ?_
  refine wpAny_bind (wpAny_holding (take_eq ?_))
  dsimp only
  refine wpAny_bind (wpAny_seqItems hg hd ?_)
  dsimp only
  refine bm_if_false rfl ?_
  refine wpAny_pure ?_
  dsimp only
  refine PySem.W.KPc.turn ?_
  dsimp only
  refine wpAny_bind (wpAny_seqItems hg hd ?_)
  dsimp only
  refine bm_if_false rfl ?_
  refine wpAny_bind (wpAny_holding (take_eq ?_))
  dsimp only
  refine wpAny_bind (wpAny_seqItems hg hd ?_)
  dsimp only
  refine bm_if_false rfl ?_
  refine wpAny_pure ?_
  dsimp only
  rw [List.forIn_nil]
  refine wpAny_pure ?_
  refine wpAny_bind (wpAny_of_eq (a := #[]) rfl ?_)
  refine bm_if_false (KBy.tooLong_not (by simp; omega)) ?_
  dsimp only
  rw [show Bytes.joined #[] (((#[].push b0).push b1).push b2).toList = b0 ++ b1 ++ b2 from by simp [Bytes.joined, List.zipIdx]]
  refine wpAny_bind (wpAny_mkBytes ?_ (by rw [sizeLine_eq]; simp only [Array.size_append]; omega))
  refine wpAny_bind (wpAny_holding (wpAny_point ?_))
  refine wpAny_bind ?_
  show wpAny M A (Bytes.joinLetGo [(.bytes b0 t0, none), (.bytes b1 t1, none), (.bytes b2 t2, none)] _) _ _ _
  unfold Bytes.joinLetGo
  repeat' refine wpAny_bind (wpAny_letGo ?_)
  refine wpAny_pure ?_
  exact wpAny_pure ⟨_, rfl, h _ _⟩
theorem join_c1 {b0 : Array UInt8} {t t0 : Tok} {l : Addr} {Q : Value → Shared → Prop} (hl : s.heap.IsList l #[.bytes b0 t0])
    (hs : b0.size ≤ 1000) (h : ∀ t' k, Q (.bytes (b0) t') { s with toks := k }) :
    wpAny (model prog w) A (PySem.call (.builtin "bytes.join") [.bytes #[] t, .ref l]) Q E s :=
  call_meets slot_join (typeIs_bytes s #[] t) entry_join (args_join _ _)
    (Meets.of_wp (S := fun _ R s => s.heap.IsList l #[.bytes b0 t0] ∧ ∀ t' k, R (.ok (.ret (.bytes (b0) t'))) { s with toks := k })
      fun _ _ _ _ _ x => join1 x.1 hs x.2) ⟨hl, h⟩
theorem join_c2 {b0 b1 : Array UInt8} {t t0 t1 : Tok} {l : Addr} {Q : Value → Shared → Prop} (hl : s.heap.IsList l #[.bytes b0 t0, .bytes b1 t1])
    (hs : b0.size + b1.size ≤ 1000) (h : ∀ t' k, Q (.bytes (b0 ++ b1) t') { s with toks := k }) :
    wpAny (model prog w) A (PySem.call (.builtin "bytes.join") [.bytes #[] t, .ref l]) Q E s :=
  call_meets slot_join (typeIs_bytes s #[] t) entry_join (args_join _ _)
    (Meets.of_wp (S := fun _ R s => s.heap.IsList l #[.bytes b0 t0, .bytes b1 t1] ∧ ∀ t' k, R (.ok (.ret (.bytes (b0 ++ b1) t'))) { s with toks := k })
      fun _ _ _ _ _ x => join2 x.1 hs x.2) ⟨hl, h⟩
theorem join_c3 {b0 b1 b2 : Array UInt8} {t t0 t1 t2 : Tok} {l : Addr} {Q : Value → Shared → Prop} (hl : s.heap.IsList l #[.bytes b0 t0, .bytes b1 t1, .bytes b2 t2])
    (hs : b0.size + b1.size + b2.size ≤ 1000) (h : ∀ t' k, Q (.bytes (b0 ++ b1 ++ b2) t') { s with toks := k }) :
    wpAny (model prog w) A (PySem.call (.builtin "bytes.join") [.bytes #[] t, .ref l]) Q E s :=
  call_meets slot_join (typeIs_bytes s #[] t) entry_join (args_join _ _)
    (Meets.of_wp (S := fun _ R s => s.heap.IsList l #[.bytes b0 t0, .bytes b1 t1, .bytes b2 t2] ∧ ∀ t' k, R (.ok (.ret (.bytes (b0 ++ b1 ++ b2) t'))) { s with toks := k })
      fun _ _ _ _ _ x => join3 x.1 hs x.2) ⟨hl, h⟩
end
-- W3a
theorem kw1 : True := by
  k_with_none
  k_with "k_all" => (exact ne_of_allLt (by assumption))
  exact True.intro
theorem number_ok (w : World) (news : Led) (b : Array UInt8) (tb : Tok) :
    Ctr PR w (hd.heap_39 w.params) hd.view_39 LO 128 2 16 news True [.bytes b tb] (RetV news fun t => .int (num (KBw.bInts b)) t) := by
  w_top off
  intro mean mg mb dp un gd cn cs a ccd cl outer A₀ base h₀ L m s Q E B F X N T hk hpre hdp hun hret
  refine wpAny_call ?_
  k_dflt ktr_enter
  k_steps
  rename Fr _ _ _ _ => F1
  rename News _ _ _ _ => N1
  with_unfolding_all refine KBw.iterBytes_acc1 (y := Str.ofString "total") (fun a k => 256 * a + k) rfl rfl F1 N1 rfl ?turn ?done
  · intro k t a ta h tk own hm h0 h1 hoff F2 N2
    clear F1 N1
    k_steps
    rename Fr _ _ _ _ => F3
    rename News _ _ _ _ => N3
    exact ⟨_, _, _, _, news, rfl, F3, N3, fun p hp => List.mem_append_left _ hp, fun p hp => List.mem_append_right _ hp, rfl, rfl, ⟨_, rfl⟩, fun z h1 h2 => by simp [h1, h2]⟩
  · intro u t h tk F2 N2
    clear F1 N1
    k_steps
    exact hret _ _ _ (by assumption) (by assumption)
theorem worth_ok (w : World) (news : Led) (b : Array UInt8) (tb : Tok) :
    Ctr PR w (hd.heap_39 w.params) hd.view_39 LO 121 2 16 news True [.bytes b tb] (RetV news fun t => .int (worth (KBw.bInts b)) t) := by
  w_top off
  intro mean mg mb dp un gd cn cs a ccd cl outer A₀ base h₀ L m s Q E B F X N T hk hpre hdp hun hret
  refine wpAny_call ?_
  k_dflt ktr_enter
  k_steps
  rename Fr _ _ _ _ => F1
  rename News _ _ _ _ => N1
  with_unfolding_all refine KBw.iterBytes_acc1 (y := Str.ofString "total") (fun a k => 85 * a + k - 33) rfl rfl F1 N1 rfl ?turn ?done
  · intro k t a ta h tk own hm h0 h1 hoff F2 N2
    clear F1 N1
    k_steps
    rename Fr _ _ _ _ => F3
    rename News _ _ _ _ => N3
    exact ⟨_, _, _, _, news, rfl, F3, N3, fun p hp => List.mem_append_left _ hp, fun p hp => List.mem_append_right _ hp, rfl, rfl, ⟨_, rfl⟩, fun z h1 h2 => by simp [h1, h2]⟩
  · intro u t h tk F2 N2
    clear F1 N1
    k_steps
    exact hret _ _ _ (by assumption) (by assumption)
/-- the five signs of a number, the greatest place first -/
noncomputable def five (n : Int) : List Int := [n.fdiv 85 |>.fdiv 85 |>.fdiv 85 |>.fdiv 85 |>.fmod 85, n.fdiv 85 |>.fdiv 85 |>.fdiv 85 |>.fmod 85, n.fdiv 85 |>.fdiv 85 |>.fmod 85, n.fdiv 85 |>.fmod 85, n.fmod 85]
-- W3b
theorem kw2 : True := by
  k_with_none
  k_with "k_all" => (first | exact ne_of_lts (by with_reducible assumption) | exact ne_of_allLt (by with_reducible assumption) | exact ne_of_off1 (by with_reducible assumption) | exact ne_of_allLt (And.right (by with_reducible assumption)) | exact ne_of_off1 (And.right (by with_reducible assumption)) | exact ne_of_allLt (And.right (And.right (by with_reducible assumption))) | exact ne_of_off1 (And.right (And.right (by with_reducible assumption))) | exact ne_of_allLt (And.right (And.right (And.right (by with_reducible assumption)))) | exact ne_of_off1 (And.right (And.right (And.right (by with_reducible assumption)))))
  k_with "UnrEnd" => ((k_here; (rename Fr _ _ _ _ => F9q); (rename News _ _ _ _ => N9q); with_unfolding_all (refine unr_tail F9q N9q ?k1 ?_; (case k1 => k_all))))
  exact True.intro
theorem signs_ok (w : World) (news : Led) (l : Addr) (vs : List Value) (ns : List Int) (n : Nat) :
    Ctr PR w (hd.heap_39 w.params) hd.view_39 LO 76 2 16 news ((l, listOf vs.toArray n) ∈ news ∧ IntsAre vs ns) [.ref l] (RetL news (five (num ns))) := by
  w_top off
  intro mean mg mb dp un gd cn cs a ccd cl outer A₀ base h₀ L m s Q E B F X N T hk ⟨hl, hi⟩ hdp hun hret
  refine wpAny_call ?_
  k_dflt ktr_enter
  k_steps
  rename Fr _ _ _ _ => F1
  rename News _ _ _ _ => N1
  with_unfolding_all refine' For_invVF F1 ?k1 ?k2 ?_
  case k1 => exact rfl
  case k2 => exact rfl
  k_steps
  with_unfolding_all refine iter_acc1L (y := Str.ofString "total") (fun a k => 256 * a + k) (by decide) rfl hl hi F1 N1 ⟨_, rfl⟩ ?turn ?done
  · intro k t a ta h tk own hm hoff F2 N2
    clear F1 N1
    k_steps
    rename Fr _ _ _ _ => F3
    rename News _ _ _ _ => N3
    exact ⟨_, _, _, _, news, rfl, F3, N3, fun p hp => List.mem_append_left _ hp, fun p hp => List.mem_append_right _ hp, rfl, rfl, ⟨_, rfl⟩, fun z h1 h2 => by simp [h1, h2]⟩
  · intro u t h tk F2 N2
    clear F1 N1
    k_steps
    (rename Fr _ _ _ _ => F9); (rename News _ _ _ _ => N9)
    exact hret _ _ _ _ _ (by unfold five num; repeat constructor) F9 (news_sub N9 (List.forall_mem_cons.mpr ⟨List.mem_cons_self .., fun p hp => .tail _ (.tail _ hp)⟩)) (lt_of_allLt (And.right (by assumption)))
-- VO
theorem kw3 : True := by
  k_with_none
  k_with "k_all" => (first | exact ne_of_lts (by with_reducible assumption) | exact ne_of_allLt (by with_reducible assumption) | exact ne_of_off1 (by with_reducible assumption) | exact ne_of_allLt (And.right (by with_reducible assumption)) | exact ne_of_off1 (And.right (by with_reducible assumption)) | exact ne_of_allLt (And.right (And.right (by with_reducible assumption))) | exact ne_of_off1 (And.right (And.right (by with_reducible assumption))) | exact ne_of_allLt (And.right (And.right (And.right (by with_reducible assumption)))) | exact ne_of_off1 (And.right (And.right (And.right (by with_reducible assumption)))))
  k_with "k_ne" => ((refine neN ?_; (try dsimp only); first | with_reducible assumption | exact Ne.symm (by with_reducible assumption)))
  k_with "UnrEnd" => ((k_here; (rename Fr _ _ _ _ => F9q); (rename News _ _ _ _ => N9q); with_unfolding_all (refine unr_tail F9q N9q ?k1 ?_; (case k1 => k_all))))
  k_with "exec If" => ((refine wpAny_If ?_))
  exact True.intro
noncomputable def val5 (ss : List Int) : Int := (ss ++ List.replicate (5 - ss.length) 84).foldl (fun a k => 85 * a + k) 0
noncomputable def four (n : Int) : List Int := [n.fdiv 256 |>.fdiv 256 |>.fdiv 256 |>.fmod 256, n.fdiv 256 |>.fdiv 256 |>.fmod 256, n.fdiv 256 |>.fmod 256, n.fmod 256]
noncomputable def oct (ss : List Int) : List Int := (four (val5 ss)).take (ss.length - 1)
theorem kw4 : True := by
  k_with "exec For Name BinOp" => ((refine unbox ?_))
  exact True.intro
theorem fl84 (n : Nat) : (List.replicate (5 - (n : Int)).toNat [(84 : Int)]).flatten = List.replicate (5 - n) 84 := by
  rw [show (5 - (n : Int)).toNat = 5 - n by omega]
  induction (5 - n) with
  | zero => rfl
  | succ k ih => rw [List.replicate_succ, List.flatten_cons, ih]; rfl
theorem kw5 : True := by
  k_with "call builtin:list.append" => ((k_here; (with_reducible show wpAny _ _ (PySem.call (Value.builtin _) [Value.ref _, _]) _ _ _); (rename Fr _ _ _ _ => F9q); (rename News _ _ _ _ => N9q); k_dflt (refine' app_K F9q N9q ?U ?z ?_); (case U => k_upd); (case z => (simp only [List.length_cons, List.length_nil]; omega)); clear F9q N9q; intro h9q F9q N9q; (try simp only [List.cons_append, List.nil_append] at N9q)))
  exact True.intro
theorem ogr_ok (w : World) (news : Led) (l : Addr) (n : Nat) (vs : List Value) (ss : List Int) (ta : Tok) (at' : Int) :
    Ctr PR w (hd.heap_39 w.params) hd.view_39 LO 88 2 16 news ((l, listOf vs.toArray n) ∈ news ∧ IntsAre vs ss ∧ 2 ≤ ss.length ∧ ss.length ≤ 5 ∧ val5 ss ≤ 4294967295) [.ref l, .int at' ta] (RetL news (oct ss)) := by
  w_top off
  intro mean mg mb dp un gd cn cs a ccd cl outer A₀ base h₀ L m s Q E B F X N T hk ⟨hl, hi, hl2, hl5, hv⟩ hdp hun hret
  obtain ⟨sh, sg, sd, st, so⟩ := s
  dsimp only at F N hret
  have hvl : vs.length = ss.length := hi.length
  have hvl2 : vs.length ≤ 100 := by omega
  have hsz : vs.toArray.size = ss.length := by rw [List.size_toArray, hvl]
  refine wpAny_call ?_
  k_dflt ktr_enter
  k_steps
  refine Box.mk ?_
  (rename Fr _ _ _ _ => F9)
  with_unfolding_all refine' For_invVF F9 ?k1 ?k2 ?_
  case k1 => exact rfl
  case k2 => exact rfl
  k_whole
  k_steps
  (rename Fr _ _ _ _ => F9); (rename News _ _ _ _ => N9); (rename IntsAre (List.flatten _) _ => i9)
  refine kmk_add_ints F9 N9 (News.isList N9 (.tail _ (.tail _ hl))) (News.isList N9 (.head _)) hi i9 ?_ (by rw [sizeLine_eq, fl84]; simp; omega)
  intro D us h8 F8 N8 l8 hI8
  clear F9 N9 l8 i9
  rw [fl84] at hI8
  with_unfolding_all refine iter_acc1L (y := PySem.Str.ofString "total") (ns := ss ++ List.replicate (5 - ss.length) 84) (fun a k => 85 * a + k) (by decide) rfl (.head _) hI8 F8 N8 ⟨_, rfl⟩ ?_ ?_
  · intro k t a ta h tk own hm hoff F2 N2
    clear F8 N8
    k_steps
    (rename Fr _ _ _ _ => F3); (rename News _ _ _ _ => N3)
    exact ⟨_, _, _, _, _, rfl, F3, N3, fun p hp => List.mem_append_left _ hp, fun p hp => List.mem_append_right _ hp, rfl, rfl, ⟨_, rfl⟩, fun z h1 h2 => by simp [h1, h2]⟩
  · intro u t h tk F2 N2
    clear F8 N8 hI8
    replace N2 := news_sub N2 (fun p hp => .tail _ (.tail _ (.tail _ hp)))
    have hV : val5 ss = List.foldl (fun a k => 85 * a + k) 0 (ss ++ List.replicate (5 - ss.length) 84) := rfl
    rw [← hV] at F2
    clear hV
    k_steps
    (rename Fr _ _ _ _ => F9); (rename News _ _ _ _ => N9); (rename IntsAre _ (List.take _ _) => i9)
    exact hret _ _ _ _ _ (by rw [show (4 - (5 - (ss.length : Int))).toNat = ss.length - 1 by omega] at i9; exact i9) F9 (news_sub N9 (List.forall_mem_cons.mpr ⟨List.mem_cons_self .., fun p hp => .tail _ (.tail _ (.tail _ hp))⟩)) (lt_of_allLt (And.right (And.right (by assumption))))
-- V4
theorem kw6 : True := by
  k_with_none
  k_with "k_all" => (first | exact ne_of_lts (by with_reducible assumption) | exact ne_of_allLt (by with_reducible assumption) | exact ne_of_off1 (by with_reducible assumption) | exact ne_of_allLt (And.right (by with_reducible assumption)) | exact ne_of_off1 (And.right (by with_reducible assumption)) | exact ne_of_allLt (And.right (And.right (by with_reducible assumption))) | exact ne_of_off1 (And.right (And.right (by with_reducible assumption))) | exact ne_of_allLt (And.right (And.right (And.right (by with_reducible assumption)))) | exact ne_of_off1 (And.right (And.right (And.right (by with_reducible assumption)))))
  k_with "call builtin:list.extend" => ((refine unbox ?_))
  k_with "k_ne" => ((refine neN ?_; (try dsimp only); first | with_reducible assumption | exact Ne.symm (by with_reducible assumption)))
  k_with "call type:list" => ((refine unbox ?_))
  exact True.intro
theorem five_spec (n : Int) : ∃ s0 s1 s2 s3 s4 : Int, five n = [s0, s1, s2, s3, s4] ∧ (0 ≤ s0 ∧ s0 < 85) ∧ (0 ≤ s1 ∧ s1 < 85) ∧ (0 ≤ s2 ∧ s2 < 85) ∧ (0 ≤ s3 ∧ s3 < 85) ∧ (0 ≤ s4 ∧ s4 < 85) := by
  have hb : ∀ x : Int, 0 ≤ x.fmod 85 ∧ x.fmod 85 < 85 := fun x => ⟨Int.fmod_nonneg_of_pos x (by decide), Int.fmod_lt_of_pos x (by decide)⟩
  exact ⟨_, _, _, _, _, rfl, hb _, hb _, hb _, hb _, hb _⟩
theorem five_zero (n : Int) (h0 : 0 ≤ n) (h1 : n < 4294967296) (h : five n = [0, 0, 0, 0, 0]) : n = 0 := by
  unfold five at h
  simp only [List.cons.injEq, and_true] at h
  obtain ⟨a, b, c, d, e⟩ := h
  simp only [Int.fmod_eq_emod_of_nonneg _ (show (0:Int) ≤ 85 by decide), Int.fdiv_eq_ediv_of_nonneg _ (show (0:Int) ≤ 85 by decide)] at *
  omega
noncomputable def noZ : List Int → Prop
  | a :: b :: c :: d :: r => ¬ (a = 0 ∧ b = 0 ∧ c = 0 ∧ d = 0) ∧ noZ r
  | _ => True
/-- the codes of a row of octets, without its end -/
noncomputable def enc : List Int → List Int
  | a :: b :: c :: d :: r => (five (num [a, b, c, d])).map (33 + ·) ++ enc r
  | [] => []
  | g => ((five (num (g ++ List.replicate (4 - g.length) 0))).take (g.length + 1)).map (33 + ·)
theorem clip_at (n : Nat) (x : Int) (k : Nat) (h : x = (k : Int)) : clipAt n x = min k n := by subst h; exact clipAt_nat n k
theorem slice4 (ks : List Int) (i : Nat) (x y : Int) (hx : x = 4 * (i : Int)) (hy : y = 4 * (i : Int) + 4) (hi : 4 * i ≤ ks.length) :
    (ks.drop ((some x).elim 0 (clipAt ks.length))).take ((some y).elim ks.length (clipAt ks.length) - (some x).elim 0 (clipAt ks.length)) = (ks.drop (4 * i)).take 4 := by
  simp only [Option.elim]
  rw [clip_at _ x (4 * i) (by rw [hx]; push_cast; rfl), clip_at _ y (4 * i + 4) (by rw [hy]; push_cast; rfl), Nat.min_eq_left hi]
  by_cases h : 4 * i + 4 ≤ ks.length
  · rw [Nat.min_eq_left h, Nat.add_sub_cancel_left]
  · rw [Nat.min_eq_right (by omega), List.take_of_length_le (by simp), List.take_of_length_le (by simp; omega)]
theorem range4 (n : Nat) : Builtin.Range.rangeSize 0 (n : Int) 4 = (((n + 3) / 4 : Nat) : Int) := by
  unfold Builtin.Range.rangeSize
  simp only [show (4 : Int) > 0 by decide, if_true]
  split <;> omega
theorem fits_small (x : Int) (h0 : 0 ≤ x) (h1 : x ≤ 1000) : Builtin.Range.rangeFitsLong x = true := by
  unfold Builtin.Range.rangeFitsLong
  rw [Bool.and_eq_true, decide_eq_true_eq, decide_eq_true_eq]
  omega
theorem small4 (n : Nat) (h : n ≤ 64) : Builtin.Range.small 0 (n : Int) 4 = true := by
  unfold Builtin.Range.small
  rw [range4, fits_small 0 (by omega) (by omega), fits_small n (by omega) (by omega), fits_small 4 (by omega) (by omega), fits_small ((n + 3) / 4 : Nat) (by omega) (by omega), if_pos (by decide), fits_small _ (by omega) (by omega), Bool.or_true]
  rfl
theorem shapes (l : List Int) (h : l ≠ []) : (∃ a, l.take 4 = [a] ∧ l = [a]) ∨ (∃ a b, l.take 4 = [a, b] ∧ l = [a, b]) ∨ (∃ a b c, l.take 4 = [a, b, c] ∧ l = [a, b, c]) ∨ ∃ a b c d r, l.take 4 = [a, b, c, d] ∧ l = a :: b :: c :: d :: r := by
  match l, h with
  | [a], _ => exact .inl ⟨a, rfl, rfl⟩
  | [a, b], _ => exact .inr (.inl ⟨a, b, rfl, rfl⟩)
  | [a, b, c], _ => exact .inr (.inr (.inl ⟨a, b, c, rfl, rfl⟩))
  | a :: b :: c :: d :: r, _ => exact .inr (.inr (.inr ⟨a, b, c, d, r, rfl, rfl⟩))
abbrev RetB (news : Led) (cs : List Int) : RetT := fun h₀ L m s Q =>
  ∀ (c : Array UInt8) (t : Tok) (h' : Heap) (tk' : Nat), KBw.bInts c = cs → Fr h₀ L h' m → News h₀ L h' news → Q (.bytes c t) { s with heap := h', toks := tk' }
theorem noZ_drop : ∀ (i : Nat) (l : List Int), noZ l → noZ (l.drop (4 * i))
  | 0, _, h => h
  | i + 1, l, h => by
    match l, h with
    | a :: b :: c :: d :: r, h => rw [show 4 * (i + 1) = 4 * i + 4 by omega, List.drop_succ_cons, List.drop_succ_cons, List.drop_succ_cons, List.drop_succ_cons]; exact noZ_drop i r h.2
    | [], _ => exact trivial
    | [a], _ => rw [List.drop_of_length_le (by simp; omega)]; exact trivial
    | [a, b], _ => rw [List.drop_of_length_le (by simp; omega)]; exact trivial
    | [a, b, c], _ => rw [List.drop_of_length_le (by simp; omega)]; exact trivial
theorem full_nz {ks r : List Int} {i : Nat} {a b c d : Int} (hin : ∀ k ∈ ks, 0 ≤ k ∧ k < 256) (hz : noZ ks) (e : ks.drop (4 * i) = a :: b :: c :: d :: r) (h : five (num [a, b, c, d]) = [0, 0, 0, 0, 0]) : False := by
  have hm : ∀ k ∈ a :: b :: c :: d :: r, 0 ≤ k ∧ k < 256 := fun k hk => hin k (List.mem_of_mem_drop (e ▸ hk))
  have ha := hm a (by simp)
  have hb := hm b (by simp)
  have hc := hm c (by simp)
  have hd := hm d (by simp)
  have hn := noZ_drop i ks hz
  rw [e] at hn
  have h0 := five_zero _ (by simp only [num, List.foldl]; omega) (by simp only [num, List.foldl]; omega) h
  simp only [num, List.foldl] at h0
  exact hn.1 (by omega)
theorem sub_b {e0 e1 e2 e3 e4 : Addr × Obj} {r : Led} : ∀ p ∈ e3 :: e4 :: r, p ∈ e0 :: e1 :: e2 :: e3 :: e4 :: r := fun p hp => by
  simp only [List.mem_cons] at hp ⊢
  rcases hp with h | h | h <;> simp [h]
theorem enc_in : ∀ (ks : List Int), ∀ c ∈ enc ks, 33 ≤ c ∧ c < 118 := by
  have hf : ∀ (n : Int) (k : Nat), ∀ c ∈ ((five n).take k).map (33 + ·), 33 ≤ c ∧ c < 118 := by
    intro n k c hc
    obtain ⟨s0, s1, s2, s3, s4, h, b0, b1, b2, b3, b4⟩ := five_spec n
    rw [h] at hc
    obtain ⟨x, hx, rfl⟩ := List.mem_map.mp hc
    have := List.mem_of_mem_take hx
    simp only [List.mem_cons, List.not_mem_nil, or_false] at this
    rcases this with rfl | rfl | rfl | rfl | rfl <;> omega
  intro ks
  induction ks using enc.induct with
  | case1 a b c d r ih =>
    intro x hx
    rw [enc] at hx
    rcases List.mem_append.mp hx with h | h
    · exact hf _ 5 x (by rw [List.take_of_length_le (by simp [five])]; exact h)
    · exact ih x h
  | case2 => intro c hc; simp [enc] at hc
  | case3 g h1 h2 =>
    intro x hx
    rw [enc] at hx
    · exact hf _ _ x hx
    · exact h1
    · exact h2
theorem enc_step (ks : List Int) (i : Nat) (h : 4 * i < ks.length) : ∃ gs : List Int, (ks.drop (4 * i)).take 4 = gs ∧ 1 ≤ gs.length ∧ gs.length ≤ 4 ∧ (gs.length = 4 → ∃ a b c d r, gs = [a, b, c, d] ∧ ks.drop (4 * i) = a :: b :: c :: d :: r) ∧ enc (ks.drop (4 * i)) = ((five (num (gs ++ List.replicate (4 - gs.length) 0))).take (gs.length + 1)).map (33 + ·) ++ enc (ks.drop (4 * (i + 1))) := by
  refine ⟨_, rfl, ?_⟩
  rw [show 4 * (i + 1) = 4 * i + 4 by omega, ← List.drop_drop]
  rcases shapes (ks.drop (4 * i)) (by intro e; have := congrArg List.length e; rw [List.length_drop, List.length_nil] at this; omega) with ⟨x0, e1, e2⟩ | ⟨x0, x1, e1, e2⟩ | ⟨x0, x1, x2, e1, e2⟩ | ⟨x0, x1, x2, x3, r, e1, e2⟩
  all_goals (rw [e1]; (conv => rhs; rw [e2]); refine ⟨by simp, by simp, ?_, ?_⟩)
  · intro h; simp at h
  · simp [enc]
  · intro h; simp at h
  · simp [enc]
  · intro h; simp at h
  · simp [enc]
  · intro _; exact ⟨_, _, _, _, _, rfl, rfl⟩
  · rfl
theorem fl0 (n : Nat) : (List.replicate (4 - (n : Int)).toNat [(0 : Int)]).flatten = List.replicate (4 - n) 0 := by
  rw [show (4 - (n : Int)).toNat = 4 - n by omega]
  induction (4 - n) with
  | zero => rfl
  | succ k ih => rw [List.replicate_succ, List.flatten_cons, ih]; rfl
theorem kw7 : True := by
  k_with "exec If" => ((refine unbox ?_))
  k_with "eval ListComp" => ((refine unbox ?_))
  k_with "subscriptTail" => (((with_reducible show wpAny _ _ (subscriptTail _ _ (Value.bytes _ _) _) _ _ _); refine unbox ?_))
  k_with "pyIter" => (((rename IsRange _ _ _ _ _ _ _ _ => R9q); refine unbox ?_))
  k_with "CompSrc" => ((refine unbox ?_))
  exact True.intro
theorem drop1 {h₀ h : Heap} {L : Addr} {e0 : Addr × Obj} {r : Led} (N : News h₀ L h (e0 :: r)) : News h₀ L h r := fun p hp => N p (.tail _ hp)
theorem encoded_ok (w : World) (news : Led) (b : Array UInt8) (tb : Tok) (ks : List Int) :
    Ctr PR w (hd.heap_39 w.params) hd.view_39 LO 81 4 96 news (ks = KBw.bInts b ∧ ks.length ≤ 16 ∧ noZ ks) [.bytes b tb] (RetB news (enc ks ++ [126, 62])) := by
  w_top off
  intro mean mg mb dp un gd cn cs a ccd cl outer A₀ base h₀ L m s Q E B F X N T hk ⟨hks, hlen, hz⟩ hdp hun hret
  obtain ⟨sh, sg, sd, st, so⟩ := s
  dsimp only at F N hret
  have hin : ∀ k ∈ ks, 0 ≤ k ∧ k < 256 := fun k hk => KBw.ints_in (hks ▸ hk)
  have hb : b.size ≤ 16 := by rw [← KBw.ints_length, ← hks]; exact hlen
  have hbl : b.size = ks.length := by rw [← KBw.ints_length, ← hks]
  refine wpAny_call ?_
  k_dflt ktr_enter
  k_steps
  rename Fr _ _ _ _ => F1
  rename News _ _ _ _ => N1
  rename IsRange _ _ _ _ _ _ _ _ => R1
  refine Box.mk ?_
  show wpAny _ _ _ _ _ ⟨_, sg, sd, _, so⟩
  with_unfolding_all refine krs_invP (n := (b.size + 3) / 4) (fun i m nx => ∃ vs nn cc, nx = (_, listOf vs.toArray nn) :: news ∧ IntsAre vs cc ∧ cc.length ≤ 5 * i ∧ cc ++ enc (ks.drop (4 * i)) = enc ks ∧ m (Str.ofString "codes") = some (.ref _) ∧ m (Str.ofString "octets") = some (.bytes b tb)) rfl R1 (small4 _ (by omega)) (range4 _) F1 N1 ⟨[], 0, [], rfl, .nil, by simp, rfl, rfl, rfl⟩ ?turn ?done
  · rintro I it i m1 nx t h tk P hi off ⟨vs, nn, cc, rfl, hvs, hcl, hcc, hm1, hm2⟩ hend - F2 N2
    rw [map2 hm1 hm2] at F2
    clear F1 N1 R1
    replace off := off1_of off
    simp only [LCg.Off1] at off
    obtain ⟨off1, off2⟩ := off
    have hvl : vs.length ≤ 100 := by rw [hvs.length]; omega
    k_steps
    rename Fr _ _ _ _ => F3
    rename News _ _ _ _ => N3
    refine Box.mk ?_
    refine KBc.slice_K (s := ⟨_, sg, sd, _, so⟩) F3 N3 hks.symm (by constructor) (by constructor) (by omega) ?_
    intro h3 t3 k3 F4 N4 hK
    rw [slice4 ks i _ _ (by omega) (by omega) (by omega)] at hK
    obtain ⟨gs, hgs, hg1, hg4, hgf, henc⟩ := enc_step ks i (by omega)
    rw [hgs] at hK
    have hnz : gs.length = 4 → five (num (gs ++ List.replicate (4 - gs.length) 0)) = [0, 0, 0, 0, 0] → False := by
      intro h4 h5
      obtain ⟨x0, x1, x2, x3, r, e1, e2⟩ := hgf h4
      subst e1
      exact full_nz hin hz e2 h5
    clear hgf hgs
    clear F3 N3
    obtain ⟨s0, s1, s2, s3, s4, hf, b0, b1, b2, b3, b4⟩ := five_spec (num (gs ++ List.replicate (4 - gs.length) 0))
    rw [hf] at henc hnz
    k_steps
    refine Box.mk ?_
    (rename Fr _ _ _ _ => F9); (rename News _ _ _ _ => N9)
    refine list_bytes_K (by rfl) F9 N9 (by kba_ints) (by kba_size) ?_
    clear F9 N9
    intro D9 vs9 c9 h9 tk9 hI9 F9 N9 l9
    try k_lt l9
    k_steps
    (rename Fr _ _ _ _ => F9); (rename News _ _ _ _ => N9); (rename IntsAre _ (_ ++ _) => hI9); rw [fl0] at hI9
    k_dflt refine' signs_ok _ _ _ _ _ _ _ _ _ _ _ _ _ _ _ _ _ _ _ _ _ _ _ _ _ _ ?k1 F9 ?k3 N9 ?k5 ?k6 ⟨.head _, hI9⟩ ?k9 ?k10 ?_
    case k1 => k_asm
    case k3 => k_asm
    case k5 => k_asm
    case k6 => first | exact rfl | assumption
    case k9 => ktr_room
    case k10 => ktr_units
    intro D9 vs9 c9 h9 tk9 hI8 F8 N8 l9
    clear F9 N9 hI9
    rw [hf] at hI8
    obtain ⟨t0, t1, t2, t3, t4, hI8⟩ := ints5 hI8
    subst hI8
    replace N8 := trim_a N8
    replace l9 := lt_tail l9
    try k_lt l9
    k_steps
    refine Box.mk ?_
    (rename Fr _ _ _ _ => F9); (rename News _ _ _ _ => N9)
    show wpAny _ _ _ _ _ ⟨_, sg, sd, _, so⟩
    refine if_no F9 N9 ?_ ?_ <;> clear F9 N9
    · intro P' hend' F9 N9
      k_steps
      · exfalso
        (rename ([_, _, _, _, _] = [_, _, _, _, _]) => q9)
        exact hnz (by omega) q9
      · (rename Fr _ _ _ _ => F9); (rename News _ _ _ _ => N9)
        exact hend' _ _ F9 (drop1 N9)
      · exact hend' _ _ F9 N9
    · intro h9 tk9 F9 N9
      clear hnz hf hK
      k_steps
      refine Box.mk ?_
      k_dflt (refine LCg.ListComp_U (F₀ := by k_asm) (by with_unfolding_all rfl) (by decide) (by rfl) (by decide) (by rfl) ?_)
      k_steps
      refine Box.mk ?_
      (rename Fr _ _ _ _ => F9); (rename News _ _ _ _ => N9); (rename IntsAre _ (List.take _ _) => i9)
      rw [show (5 - (4 - (gs.length : Int))).toNat = gs.length + 1 by omega] at i9
      have ht : (List.take (gs.length + 1) [s0, s1, s2, s3, s4]).length = gs.length + 1 := by rw [List.length_take]; simp only [List.length_cons, List.length_nil]; omega
      generalize List.take (gs.length + 1) [s0, s1, s2, s3, s4] = ts at i9 henc ht
      show LCg.CompSrc _ _ _ _ _ _ _ _ _ _ _ _ _ ⟨_, sg, sd, _, so⟩
      refine LCg.CompSrc.ledger rfl F9 N9 (.head _) (by rw [sizeLine_eq, List.size_toArray, i9.length]; omega) ?_
      intro g'
      refine rest_map (fun k => 33 + k) i9 ?_ (Or.inr ⟨_, .head _, rfl, _, rfl⟩) ?_ <;> clear F9 N9
      · intro k u I' oI C oC D m₂ ys h tk E' P' hkk hC hx F9 N9 off ne hend'
        k_steps
        (rename Fr _ _ _ _ => F9); (rename News _ _ _ _ => N9)
        exact hend' _ _ _ F9 N9
      · intro ys hys
        have hyl := hys.length
        have htl : ts.length = gs.length + 1 := ht
        rw [List.length_map, htl] at hyl
        unfold LCg.FinE
        intro D8 h8 tk8 F8 N8 o8
        simp only [LCg.Off1] at o8
        obtain ⟨q1, q2, q3, q4, q5⟩ := o8
        have n1 := Nat.ne_of_lt l9.2.1
        (rename (_ < _ ∧ _ < _ ∧ _ < _ ∧ AllLt _ _) => la)
        have n2 := Nat.ne_of_lt la.2.2.1
        show wpAny _ _ _ _ _ ⟨_, sg, sd, _, so⟩
        k_steps
        refine Box.mk ?_
        refine' ext_K (s := ⟨_, sg, sd, _, so⟩) F8 N8 (.head _) ?ne ?U ?z ?_
        case ne => omega
        case U => k_upd
        case z => omega
        intro h7 F7 N7
        clear F8 N8
        k_steps
        (rename Fr _ _ _ _ => F9); (rename News _ _ _ _ => N9)
        refine hend _ _ _ _ ⟨_, _, cc ++ ts.map (fun k => 33 + k), rfl, hvs.append hys, ?_, ?_, rfl, rfl⟩ (List.forall_mem_cons.mpr ⟨off1, ne_of_off1 off2⟩) F9 (news_sub N9 sub_b)
        · rw [List.length_append, List.length_map]; omega
        · rw [List.append_assoc, ← henc, hcc]
  · rintro m1 nx h tk ⟨vs, nn, cc, rfl, hvs, hcl, hcc, hm1, hm2⟩ F2 N2
    rw [map2 hm1 hm2] at F2
    clear F1 N1 R1
    have hcc2 : cc = enc ks := by
      rw [List.drop_of_length_le (by omega)] at hcc
      simpa [enc] using hcc
    have hvl : vs.length ≤ 100 := by rw [hvs.length]; omega
    have hin2 : KBa.In (cc ++ [126, 62]) := by
      intro c hc
      rcases List.mem_append.mp hc with h | h
      · have := enc_in ks c (hcc2 ▸ h); omega
      · simp only [List.mem_cons, List.not_mem_nil, or_false] at h; omega
    k_steps
    (rename Fr _ _ _ _ => F9); (rename News _ _ _ _ => N9); (rename KBa.In _ => hI9)
    exact hret _ _ _ _ (by rw [KBa.ints_make hI9, hcc2]) F9 (news_sub N9 fun p hp => .tail _ (.tail _ (.tail _ hp)))
-- V5
theorem kw8 : True := by
  k_with_none
  k_with "k_all" => (first | exact ne_of_lts (by with_reducible assumption) | exact ne_of_allLt (by with_reducible assumption) | exact ne_of_off1 (by with_reducible assumption) | exact ne_of_allLt (And.right (by with_reducible assumption)) | exact ne_of_off1 (And.right (by with_reducible assumption)) | exact ne_of_allLt (And.right (And.right (by with_reducible assumption))) | exact ne_of_off1 (And.right (And.right (by with_reducible assumption))) | exact ne_of_allLt (And.right (And.right (And.right (by with_reducible assumption)))) | exact ne_of_off1 (And.right (And.right (And.right (by with_reducible assumption)))))
  k_with "k_ne" => ((refine neN ?_; (try dsimp only); first | with_reducible assumption | exact Ne.symm (by with_reducible assumption)))
  k_with "exec If" => ((refine wpAny_If ?_))
  exact True.intro
theorem white_ok (w : World) (news : Led) (x : Int) (t : Tok) :
    Ctr PR w (hd.heap_39 w.params) hd.view_39 LO 29 2 16 news (33 ≤ x) [.int x t] (RetV news fun _ => .bool false) := by
  w_top off
  intro mean mg mb dp un gd cn cs a ccd cl outer A₀ base h₀ L m s Q E B F X N T hk hx hdp hun hret
  obtain ⟨sh, sg, sd, st, so⟩ := s
  dsimp only at F N hret
  refine wpAny_call ?_
  k_dflt ktr_enter
  k_steps
  rename Frag.In _ _ => X1
  rename Fr _ _ _ _ => F1
  have ho := Frag.In.keeps X1 F1.keep 22 _ (by k_is)
  refine in_tuple_ints ⟨_, ho, rfl, _, rfl⟩ (.cons _ _ (.cons _ _ (.cons _ _ (.cons _ _ (.cons _ _ (.cons _ _ .nil)))))) ?_
  rw [show ([0, 9, 10, 12, 13, 32] : List Int).any (· == x) = false by simp; omega]
  k_steps
  exact hret 0 _ _ (by assumption) (by assumption)
theorem kw9 : True := by
  k_with "pyIter" => (((rename IsRange _ _ _ _ _ _ _ _ => R9q); refine unbox ?_))
  k_with "subscriptTail" => (((with_reducible show wpAny _ _ (subscriptTail _ _ (Value.bytes _ _) _) _ _ _); refine unbox ?_))
  exact True.intro
theorem isend_ok (w : World) (news : Led) (b : Array UInt8) (tb : Tok) (at' : Int) (t : Tok) (ks : List Int) :
    Ctr PR w (hd.heap_39 w.params) hd.view_39 LO 95 4 32 news (ks = KBw.bInts b ∧ 0 ≤ at' ∧ ks[at'.toNat + 1]? = some 62 ∧ (ks.length : Int) = at' + 2 ∧ ks.length ≤ 32) [.bytes b tb, .int at' t] (RetV news fun _ => .bool true) := by
  w_top off
  intro mean mg mb dp un gd cn cs a ccd cl outer A₀ base h₀ L m s Q E B F X N T hk ⟨hks, hat, h62, hlen, hl32⟩ hdp hun hret
  obtain ⟨sh, sg, sd, st, so⟩ := s
  dsimp only at F N hret
  have hbl : b.size = ks.length := by rw [← KBw.ints_length, ← hks]
  refine wpAny_call ?_
  k_dflt ktr_enter
  k_steps
  rename Fr _ _ _ _ => F1
  rename News _ _ _ _ => N1
  rename IsRange _ _ _ _ _ _ _ _ => R1
  have hsz : Builtin.Range.rangeSize (at' + 1) (b.size : Int) 1 = ((1 : Nat) : Int) := by
    unfold Builtin.Range.rangeSize
    simp only [show (1 : Int) > 0 by decide, if_true]
    rw [if_pos (by omega)]
    omega
  have hsm : Builtin.Range.small (at' + 1) (b.size : Int) 1 = true := by
    unfold Builtin.Range.small
    rw [hsz, fits_small _ (by omega) (by omega), fits_small _ (by omega) (by omega), fits_small 1 (by omega) (by omega), fits_small ((1 : Nat) : Int) (by omega) (by omega), if_pos (by decide), fits_small _ (by omega) (by omega), Bool.or_true]
    rfl
  refine Box.mk ?_
  show wpAny _ _ _ _ _ ⟨_, sg, sd, _, so⟩
  with_unfolding_all refine krs_invP (n := 1) (fun i m nx => i = 0 ∧ nx = news ∧ m (Str.ofString "data") = some (.bytes b tb) ∧ m (Str.ofString "at") = some (.int at' t)) rfl R1 hsm hsz F1 N1 ⟨rfl, rfl, rfl, rfl⟩ ?turn ?done
  · rintro I it i m1 nx th h tk P hi off ⟨rfl, rfl, hm1, hm2⟩ - hr F2 N2
    rw [map2 hm1 hm2] at F2
    clear F1 N1 R1
    k_steps
    refine Box.mk ?_
    refine KBw.item_K hks.symm (by omega) (by omega) (by omega) ?_
    intro t' k' _ _
    rw [show ks.getD (at' + 1 + ((0 : Nat) : Int) * 1).toNat 0 = 62 by
      rw [show (at' + 1 + ((0 : Nat) : Int) * 1).toNat = at'.toNat + 1 by omega, List.getD_eq_getElem?_getD, h62]; rfl]
    k_steps
    refine hr _ _ ?_
    k_steps
    exact hret 0 _ _ (by assumption) (news_sub (by assumption) fun p hp => .tail _ hp)
  · rintro m1 nx h tk ⟨h0, _⟩
    exact absurd h0 (by decide)
-- V6
theorem kw10 : True := by
  k_with_none
  k_with "k_all" => (first | exact ne_of_lts (by with_reducible assumption) | exact ne_of_allLt (by with_reducible assumption) | exact ne_of_off1 (by with_reducible assumption) | exact ne_of_allLt (And.right (by with_reducible assumption)) | exact ne_of_off1 (And.right (by with_reducible assumption)) | exact ne_of_allLt (And.right (And.right (by with_reducible assumption))) | exact ne_of_off1 (And.right (And.right (by with_reducible assumption))) | exact ne_of_allLt (And.right (And.right (And.right (by with_reducible assumption)))) | exact ne_of_off1 (And.right (And.right (And.right (by with_reducible assumption)))) | with_reducible assumption)
  k_with "k_ne" => ((refine neN ?_; (try dsimp only); first | exact NeA.out (by with_reducible assumption) | exact Ne.symm (NeA.out (by with_reducible assumption)) | with_reducible assumption | exact Ne.symm (by with_reducible assumption)))
  k_with "mine.dec" => (((try simp only [decide_eq_true_eq, beq_iff_eq, bne_iff_ne, Bool.not_eq_true', Bool.not_eq_true, Bool.not_eq_false', beq_eq_false_iff_ne, decide_eq_false_iff_not]); omega))
  k_with "ite" => (first | (refine ite_neg ?cn ?_; (case cn => walk_at "mine.dec")) | (refine ite_pos ?cn ?_; (case cn => walk_at "mine.dec")))
  k_with "exec For Tuple Call" => ((k_here; (rename Fr _ _ _ _ => lFq); (with_unfolding_all refine' For_turns lFq ?_; k_whole)))
  k_with "call builtin:list.append" => ((k_here; (with_reducible show wpAny _ _ (PySem.call (Value.builtin _) [Value.ref _, _]) _ _ _); (rename Fr _ _ _ _ => F9q); (rename News _ _ _ _ => N9q); k_dflt (refine' app_K F9q N9q ?U ?z ?_); (case U => k_upd); (case z => first | omega | (simp only [List.length_cons, List.length_nil]; omega)); clear F9q N9q; intro h9q F9q N9q; (try simp only [List.cons_append, List.nil_append] at N9q)))
  k_with "call ref" => ((refine unbox ?_))
  k_with "call builtin:len" => (((with_reducible show wpAny _ _ (PySem.call (Value.builtin _) [Value.ref _]) _ _ _); refine unbox ?_))
  k_with "exec If" => ((refine wpAny_If ?_))
  exact True.intro
/-- the octets of a row of codes -/
noncomputable def dec : List Int → List Int
  | a :: b :: c :: d :: e :: r => oct [a - 33, b - 33, c - 33, d - 33, e - 33] ++ dec r
  | [] => []
  | g => oct (g.map (· - 33))
/-- no group of the codes is above four octets -/
noncomputable def okG : List Int → Prop
  | a :: b :: c :: d :: e :: r => val5 [a - 33, b - 33, c - 33, d - 33, e - 33] ≤ 4294967295 ∧ okG r
  | [] => True
  | g => val5 (g.map (· - 33)) ≤ 4294967295
theorem map4 {m : PySem.Str → Option Value} {x y z u : PySem.Str} {a b c d : Option Value} (hx : m x = a) (hy : m y = b) (hz : m z = c) (hu : m u = d) : m = fun q => if q = x then a else if q = y then b else if q = z then c else if q = u then d else m q := by
  funext q
  by_cases h1 : q = x
  · simp [h1, hx]
  · by_cases h2 : q = y
    · subst h2; simp [h1, hy]
    · by_cases h3 : q = z
      · subst h3; simp [h1, h2, hz]
      · by_cases h4 : q = u
        · subst h4; simp [h1, h2, h3, hu]
        · simp [h1, h2, h3, h4]
theorem oct_in (ss : List Int) : ∀ c ∈ oct ss, 0 ≤ c ∧ c < 256 := by
  intro c hc
  have hb : ∀ x : Int, 0 ≤ x.fmod 256 ∧ x.fmod 256 < 256 := fun x => ⟨Int.fmod_nonneg_of_pos x (by decide), Int.fmod_lt_of_pos x (by decide)⟩
  have h1 := List.mem_of_mem_take hc
  simp only [four, List.mem_cons, List.not_mem_nil, or_false] at h1
  rcases h1 with rfl | rfl | rfl | rfl <;> exact hb _
theorem dec_in (cs : List Int) : ∀ c ∈ dec cs, 0 ≤ c ∧ c < 256 := by
  induction cs using dec.induct with
  | case1 a b c d e r ih =>
    intro x hx
    rw [dec] at hx
    rcases List.mem_append.mp hx with h | h
    · exact oct_in _ x h
    · exact ih x h
  | case2 => intro c hc; simp [dec] at hc
  | case3 g h1 h2 =>
    intro x hx
    rw [dec] at hx
    · exact oct_in _ x hx
    · exact h1
    · exact h2
theorem offs {lo ls I1 I2 : Addr} {ol os o1 o2 : Obj} {news : Led} (a1 : NeA lo I1) (a2 : NeA ls I1) (a3 : ∀ p ∈ news, p.1 ≠ I1) (b1 : NeA lo I2) (b2 : NeA ls I2) (b3 : ∀ p ∈ news, p.1 ≠ I2) :
    ∀ p ∈ (lo, ol) :: (ls, os) :: news, ∀ q ∈ [(I1, o1), (I2, o2)], p.1 ≠ q.1 := by
  intro p hp q hq
  simp only [List.mem_cons, List.not_mem_nil, or_false] at hp hq
  rcases hq with rfl | rfl
  · rcases hp with rfl | rfl | hp
    · exact a1.out
    · exact a2.out
    · exact a3 p hp
  · rcases hp with rfl | rfl | hp
    · exact b1.out
    · exact b2.out
    · exact b3 p hp
theorem sub_d {e0 e1 e2 e3 e4 e5 : Addr × Obj} {r : Led} : ∀ p ∈ e2 :: e3 :: e4 :: e0 :: r, p ∈ e0 :: e1 :: e2 :: e3 :: e4 :: e5 :: r := fun p hp => by
  simp only [List.mem_cons] at hp ⊢
  rcases hp with h | h | h | h | h <;> simp [h]
theorem mapadd (ss : List Int) (c : Int) (r : List Int) : (ss ++ [c - 33]).map (· + 33) ++ r = ss.map (· + 33) ++ c :: r := by
  simp
theorem swap_a {h₀ h : Heap} {L : Addr} {e0 e1 e2 : Addr × Obj} {r : Led} (N : News h₀ L h (e0 :: e1 :: e2 :: r)) : News h₀ L h (e2 :: e1 :: r) := fun p hp => N p (by
  simp only [List.mem_cons] at hp ⊢
  rcases hp with h | h | h <;> simp [h])
theorem oct_len (ss : List Int) : (oct ss).length = min (ss.length - 1) 4 := by
  unfold oct four; rw [List.length_take]; rfl
theorem map33 (s0 s1 s2 s3 c : Int) : [s0 + 33 - 33, s1 + 33 - 33, s2 + 33 - 33, s3 + 33 - 33, c - 33] = [s0, s1, s2, s3, c - 33] := by simp only [Int.add_sub_cancel]
theorem full_g {ss : List Int} {c : Int} {r : List Int} (h : ss.length = 4) : okG (ss.map (· + 33) ++ c :: r) = (val5 (ss ++ [c - 33]) ≤ 4294967295 ∧ okG r) ∧ dec (ss.map (· + 33) ++ c :: r) = oct (ss ++ [c - 33]) ++ dec r := by
  match ss, h with
  | [s0, s1, s2, s3], _ =>
    show (val5 [s0 + 33 - 33, s1 + 33 - 33, s2 + 33 - 33, s3 + 33 - 33, c - 33] ≤ 4294967295 ∧ okG r) = _ ∧ oct [s0 + 33 - 33, s1 + 33 - 33, s2 + 33 - 33, s3 + 33 - 33, c - 33] ++ dec r = _
    rw [map33]; exact ⟨rfl, rfl⟩
theorem map_back (ss : List Int) : (ss.map (· + 33)).map (· - 33) = ss := by
  rw [List.map_map]; conv => rhs; rw [← List.map_id ss]
  exact List.map_congr_left fun k _ => Int.add_sub_cancel k 33
theorem part_g {ss : List Int} (h : ss.length < 5) (h0 : ss ≠ []) : okG (ss.map (· + 33)) = (val5 ss ≤ 4294967295) ∧ dec (ss.map (· + 33)) = oct ss := by
  have q := map_back ss
  match ss, h, h0 with
  | [a], _, _ => exact ⟨congrArg (fun z => val5 z ≤ 4294967295) q, congrArg oct q⟩
  | [a, b], _, _ => exact ⟨congrArg (fun z => val5 z ≤ 4294967295) q, congrArg oct q⟩
  | [a, b, c], _, _ => exact ⟨congrArg (fun z => val5 z ≤ 4294967295) q, congrArg oct q⟩
  | [a, b, c, d], _, _ => exact ⟨congrArg (fun z => val5 z ≤ 4294967295) q, congrArg oct q⟩
theorem decoded_ok (w : World) (news : Led) (b : Array UInt8) (tb : Tok) (ks cd : List Int) :
    Ctr PR w (hd.heap_39 w.params) hd.view_39 LO 102 8 128 news (ks = KBw.bInts b ∧ ks = cd ++ [126, 62] ∧ (∀ c ∈ cd, 33 ≤ c ∧ c ≤ 117) ∧ okG cd ∧ cd.length % 5 ≠ 1 ∧ cd.length ≤ 20) [.bytes b tb] (RetB news (dec cd)) := by
  w_top off
  intro mean mg mb dp un gd cn cs a ccd cl outer A₀ base h₀ L m s Q E B F X N T hk ⟨hks, hcd, hin, hok, h5, h20⟩ hdp hun hret
  obtain ⟨sh, sg, sd, st, so⟩ := s
  dsimp only at F N hret
  refine wpAny_call ?_
  k_dflt ktr_enter
  k_steps
  rename Fr _ _ _ _ => F1
  rename News _ _ _ _ => N1
  have hkl : ks.length = cd.length + 2 := by rw [hcd, List.length_append]; rfl
  show wpAny _ _ _ _ _ ⟨_, sg, sd, _, so⟩
  with_unfolding_all refine enum_invP (fun i m nx => i ≤ cd.length ∧ ∃ (lo ls : Addr) (vo vs : List Value) (no ns : Nat) (oo ss : List Int) (la : Int) (tl : Tok), nx = (lo, listOf vo.toArray no) :: (ls, listOf vs.toArray ns) :: news ∧ lo ≠ ls ∧ (∀ p ∈ news, p.1 ≠ lo) ∧ (∀ p ∈ news, p.1 ≠ ls) ∧ IntsAre vo oo ∧ IntsAre vs ss ∧
    ss.length = i % 5 ∧ oo.length + ss.length ≤ i ∧ oo ++ dec (ss.map (· + 33) ++ cd.drop i) = dec cd ∧ okG (ss.map (· + 33) ++ cd.drop i) ∧ m (Str.ofString "octets") = some (.ref lo) ∧ m (Str.ofString "signs") = some (.ref ls) ∧ m (Str.ofString "last") = some (.int la tl) ∧ m (Str.ofString "data") = some (.bytes b tb)) rfl hks.symm F1 (swap_a N1) ?_ ?_ ?_
  · exact ⟨Nat.zero_le _, _, _, [], [], 0, 0, [], [], _, _, rfl, Nat.ne_of_lt (And.left (by assumption)), ne_of_lts (by assumption), ne_of_allLt (And.right (by assumption)), .nil, .nil, rfl, Nat.le_refl _, rfl, hok, rfl, rfl, rfl, rfl⟩
  · rintro I1 I2 o1 o2 i c T ti tc m1 nx h tk P hc off ⟨hi, lo, ls, vo, vs, no, ns, oo, ss, la, tl, rfl, hne0, hno, hns, hvo, hvs, hsl, hol, hde, hog, hm1, hm2, hm3, hm4⟩ hend hbrk hT F2 N2
    rw [map4 hm1 hm2 hm3 hm4] at F2
    clear F1 N1
    have hoff1 : lo ≠ I1 ∧ ls ≠ I1 ∧ ∀ p ∈ news, p.1 ≠ I1 := ⟨(off _ (.head _)).1, (off _ (.tail _ (.head _))).1, fun p hp => (off p (.tail _ (.tail _ hp))).1⟩
    have hoff2 : lo ≠ I2 ∧ ls ≠ I2 ∧ ∀ p ∈ news, p.1 ≠ I2 := ⟨(off _ (.head _)).2, (off _ (.tail _ (.head _))).2, fun p hp => (off p (.tail _ (.tail _ hp))).2⟩
    obtain ⟨ha1', ha2', ha3⟩ := hoff1
    obtain ⟨hb1', hb2', hb3⟩ := hoff2
    have hne : NeA lo ls := ⟨hne0⟩
    have ha1 : NeA lo I1 := ⟨ha1'⟩
    have ha2 : NeA ls I1 := ⟨ha2'⟩
    have hb1 : NeA lo I2 := ⟨hb1'⟩
    have hb2 : NeA ls I2 := ⟨hb2'⟩
    clear off hne0 ha1' ha2' hb1' hb2' hm1 hm2 hm3 hm4
    have hvol : vo.length ≤ 20 := by rw [hvo.length]; omega
    have hvsl : vs.length = ss.length := hvs.length
    have hss5 : ss.length < 5 := by omega
    rcases Nat.lt_or_ge i cd.length with hlt | hge
    · have hcm : cd[i]? = some c := by
        rw [hcd, List.getElem?_append_left hlt] at hc; exact hc
      obtain ⟨hc1, hc2⟩ := hin c (List.mem_of_getElem? hcm)
      have hdr : cd.drop i = c :: cd.drop (i + 1) := by
        rw [List.drop_eq_getElem_cons hlt]
        congr 1
        exact Option.some.inj ((List.getElem?_eq_getElem hlt).symm.trans hcm)
      rw [hdr] at hde hog
      clear hcm hc hdr
      k_steps
      refine Box.mk ?_
      (rename Fr _ _ _ _ => F9); (rename News _ _ _ _ => N9)
      k_dflt refine' white_ok _ _ _ _ _ _ _ _ _ _ _ _ _ _ _ _ _ _ _ _ _ _ _ _ ?k1 F9 ?k3 N9 ?k5 ?k6 (by omega) ?k9 ?k10 ?_
      case k1 => k_asm
      case k3 => k_asm
      case k5 => k_asm
      case k6 => first | exact rfl | assumption
      case k9 => ktr_room
      case k10 => ktr_units
      clear F9 N9
      intro t9 h9 tk9 F9 N9
      k_steps
      refine Box.mk ?_
      (rename Fr _ _ _ _ => F9); (rename News _ _ _ _ => N9)
      refine KM.len_K (n := ss.length + 1) N9 (by k_mem) (by rw [List.size_toArray, List.length_append, hvsl]; rfl) (by omega) ?_
      k_steps
      · have hfg := full_g (ss := ss) (c := c) (r := cd.drop (i + 1)) (by omega)
        rw [hfg.1] at hog
        rw [hfg.2] at hde
        obtain ⟨hv5, hog2⟩ := hog
        clear hfg
        refine Box.mk ?_
        (rename Fr _ _ _ _ => F9); (rename News _ _ _ _ => N9)
        k_dflt refine' ogr_ok _ _ _ _ _ _ _ _ _ _ _ _ _ _ _ _ _ _ _ _ _ _ _ _ _ _ _ _ ?k1 F9 ?k3 N9 ?k5 ?k6 ⟨by k_mem, hvs.append (.cons _ _ .nil), by rw [List.length_append]; simp only [List.length_cons, List.length_nil]; omega, by rw [List.length_append]; simp only [List.length_cons, List.length_nil]; omega, hv5⟩ ?k9 ?k10 ?_
        case k1 => k_asm
        case k3 => k_asm
        case k5 => k_asm
        case k6 => first | exact rfl | assumption
        case k9 => ktr_room
        case k10 => ktr_units
        clear F9 N9
        intro D9 vs9 c9 h9 tk9 hI9 F9 N9 l9
        have hl9 : vs9.length = 4 := by rw [hI9.length, oct_len, List.length_append]; simp only [List.length_cons, List.length_nil]; omega
        have nD : NeA lo D9 := ⟨Nat.ne_of_lt (l9 _ (.tail _ (.tail _ (.head _))))⟩
        k_steps
        try refine Box.mk ?_
        refine' ext_K (s := ⟨_, sg, sd, _, so⟩) F9 N9 (.head _) ?ne ?U ?z ?_
        case ne => omega
        case U => k_upd
        case z => omega
        clear F9 N9
        intro h9 F9 N9
        k_steps
        (rename Fr _ _ _ _ => F9); (rename News _ _ _ _ => N9)
        (rename (_ < _ ∧ _ < _ ∧ _ < _ ∧ _ < _ ∧ _ < _ ∧ AllLt _ _) => l9)
        obtain ⟨_, lI1, lI2, llo, _, lnews⟩ := l9
        refine hend _ (.inl rfl) _ _ _ _ ⟨by omega, lo, _, _, [], _, _, oo ++ oct (ss ++ [c - 33]), [], _, _, rfl, Nat.ne_of_lt llo, hno, ne_of_allLt lnews, hvo.append hI9, .nil, ?_, ?_, ?_, hog2, rfl, rfl, rfl, rfl⟩ (offs ha1 ⟨Ne.symm (Nat.ne_of_lt lI1)⟩ ha3 hb1 ⟨Ne.symm (Nat.ne_of_lt lI2)⟩ hb3) F9 (news_sub N9 sub_d)
        · rw [List.length_nil]; omega
        · rw [List.length_append, ← hI9.length, hl9, List.length_nil]; omega
        · rw [List.append_assoc]; exact hde
      · (rename Fr _ _ _ _ => F9); (rename News _ _ _ _ => N9)
        refine hend _ (.inl rfl) _ _ _ _ ⟨by omega, lo, ls, vo, _, _, _, oo, ss ++ [c - 33], _, _, rfl, hne.out, hno, hns, hvo, hvs.append (.cons _ _ .nil), ?_, ?_, ?_, ?_, rfl, rfl, rfl, rfl⟩ (offs ha1 ha2 ha3 hb1 hb2 hb3) F9 N9
        · rw [List.length_append, List.length_singleton]; omega
        · rw [List.length_append, List.length_singleton]; omega
        · rw [mapadd]; exact hde
        · rw [mapadd]; exact hog
    · have hie : i = cd.length := by omega
      subst hie
      have hce : c = 126 := by
        rw [hcd, List.getElem?_append_right (Nat.le_refl _), Nat.sub_self] at hc
        exact (Option.some.inj hc).symm
      subst hce
      have h62 : ks[((cd.length : Nat) : Int).toNat + 1]? = some 62 := by
        rw [Int.toNat_natCast, hcd, List.getElem?_append_right (Nat.le_succ _), Nat.succ_sub (Nat.le_refl _), Nat.sub_self]; rfl
      have hkl' : (ks.length : Int) = (cd.length : Int) + 2 := by rw [hkl]; rfl
      rw [List.drop_length, List.append_nil] at hde hog
      have hio : KBa.In (dec cd) := fun c hc => dec_in cd c hc
      clear hend hc
      k_steps
      refine Box.mk ?_
      (rename Fr _ _ _ _ => F9); (rename News _ _ _ _ => N9)
      k_dflt refine' white_ok _ _ _ _ _ _ _ _ _ _ _ _ _ _ _ _ _ _ _ _ _ _ _ _ ?k1 F9 ?k3 N9 ?k5 ?k6 (by omega) ?k9 ?k10 ?_
      case k1 => k_asm
      case k3 => k_asm
      case k5 => k_asm
      case k6 => first | exact rfl | assumption
      case k9 => ktr_room
      case k10 => ktr_units
      clear F9 N9
      intro t9 h9 tk9 F9 N9
      k_steps
      refine Box.mk ?_
      (rename Fr _ _ _ _ => F9); (rename News _ _ _ _ => N9)
      k_dflt refine' isend_ok _ _ _ _ _ _ _ _ _ _ _ _ _ _ _ _ _ _ _ _ _ _ _ _ _ _ _ ?k1 F9 ?k3 N9 ?k5 ?k6 ⟨hks, by omega, h62, by omega, by omega⟩ ?k9 ?k10 ?_
      case k1 => k_asm
      case k3 => k_asm
      case k5 => k_asm
      case k6 => first | exact rfl | assumption
      case k9 => ktr_room
      case k10 => ktr_units
      clear F9 N9
      intro t9 h9 tk9 F9 N9
      k_steps
      refine hbrk _ ?_
      dsimp only
      k_steps
      refine Box.mk ?_
      (rename Fr _ _ _ _ => F9); (rename News _ _ _ _ => N9)
      refine KM.len_K (n := ss.length) N9 (by k_mem) (by rw [List.size_toArray, hvsl]) (by omega) ?_
      rcases List.eq_nil_or_concat ss with rfl | ⟨s', x', rfl⟩
      · have hv0 := IntsAre.nil_inv hvs
        subst hv0
        have hoe : oo = dec cd := by rw [← hde]; exact (List.append_nil oo).symm
        k_steps
        (rename Fr _ _ _ _ => F9); (rename News _ _ _ _ => N9)
        refine KBa.make_K F9 N9 rfl (News.isList N9 (.tail _ (.tail _ (.tail _ (.head _))))) hvo (hoe ▸ hio) (by omega) ?_
        intro h8 t8 k8 F8 N8 _
        clear F9 N9
        k_steps
        (rename Fr _ _ _ _ => F9); (rename News _ _ _ _ => N9)
        exact hret _ _ _ _ (by rw [hoe]; exact KBa.ints_make hio) F9 (news_sub N9 fun p hp => .tail _ (.tail _ (.tail _ (.tail _ (.tail _ hp)))))
      · generalize hss : s'.concat x' = ss at *
        have hs0 : ss ≠ [] := by rw [← hss]; simp
        have hs1 : ss.length ≠ 0 := fun q => hs0 (List.eq_nil_of_length_eq_zero q)
        obtain ⟨pg1, pg2⟩ := part_g hss5 hs0
        rw [pg1] at hog
        rw [pg2] at hde
        clear hss pg1 pg2
        k_steps
        refine Box.mk ?_
        (rename Fr _ _ _ _ => F9); (rename News _ _ _ _ => N9)
        k_dflt refine' ogr_ok _ _ _ _ _ _ _ _ _ _ _ _ _ _ _ _ _ _ _ _ _ _ _ _ _ _ _ _ ?k1 F9 ?k3 N9 ?k5 ?k6 ⟨by k_mem, hvs, by omega, by omega, hog⟩ ?k9 ?k10 ?_
        case k1 => k_asm
        case k3 => k_asm
        case k5 => k_asm
        case k6 => first | exact rfl | assumption
        case k9 => ktr_room
        case k10 => ktr_units
        clear F9 N9
        intro D9 vs9 c9 h9 tk9 hI9 F9 N9 l9
        have hl9 : vs9.length ≠ 0 := by rw [hI9.length, oct_len]; omega
        have hl9' : vs9.length ≤ 4 := by rw [hI9.length, oct_len]; omega
        have nD : NeA lo D9 := ⟨Nat.ne_of_lt (l9 _ (.tail _ (.tail _ (.tail _ (.head _)))))⟩
        (rename (_ < _ ∧ _ < _ ∧ _ < _ ∧ _ < _ ∧ AllLt _ _) => l8)
        have nl : NeA lo _ := ⟨Nat.ne_of_lt l8.2.2.1⟩
        k_steps
        try refine Box.mk ?_
        refine' ext_K (s := ⟨_, sg, sd, _, so⟩) F9 N9 (.head _) ?ne ?U ?z ?_
        case ne => omega
        case U => k_upd
        case z => omega
        clear F9 N9
        intro h9 F9 N9
        k_steps
        (rename Fr _ _ _ _ => F9); (rename News _ _ _ _ => N9)
        refine KBa.make_K F9 N9 rfl (News.isList N9 (.tail _ (.tail _ (.tail _ (.tail _ (.head _)))))) (hvo.append hI9) (hde ▸ hio) (by rw [List.length_append, ← hI9.length]; omega) ?_
        intro h8 t8 k8 F8 N8 _
        clear F9 N9
        k_steps
        (rename Fr _ _ _ _ => F9); (rename News _ _ _ _ => N9)
        exact hret _ _ _ _ (by rw [hde]; exact KBa.ints_make hio) F9 (news_sub N9 fun p hp => .tail _ (.tail _ (.tail _ (.tail _ (.tail _ (.tail _ hp))))))
  · rintro m1 nx h tk ⟨h0, _⟩
    rw [hkl] at h0
    omega
-- V7
theorem kw11 : True := by
  k_with_none
  k_with "k_all" => (first | exact ne_of_lts (by with_reducible assumption) | exact ne_of_allLt (by with_reducible assumption) | exact ne_of_off1 (by with_reducible assumption) | exact ne_of_allLt (And.right (by with_reducible assumption)) | exact ne_of_off1 (And.right (by with_reducible assumption)) | exact ne_of_allLt (And.right (And.right (by with_reducible assumption))) | exact ne_of_off1 (And.right (And.right (by with_reducible assumption))) | exact ne_of_allLt (And.right (And.right (And.right (by with_reducible assumption)))) | exact ne_of_off1 (And.right (And.right (And.right (by with_reducible assumption)))) | with_reducible assumption)
  k_with "k_ne" => ((refine neN ?_; (try dsimp only); first | exact NeA.out (by with_reducible assumption) | exact Ne.symm (NeA.out (by with_reducible assumption)) | with_reducible assumption | exact Ne.symm (by with_reducible assumption)))
  k_with "mine.dec" => (((try simp only [decide_eq_true_eq, beq_iff_eq, bne_iff_ne, Bool.not_eq_true', Bool.not_eq_true, Bool.not_eq_false', beq_eq_false_iff_ne, decide_eq_false_iff_not]); omega))
  k_with "ite" => (first | (refine ite_neg ?cn ?_; (case cn => walk_at "mine.dec")) | (refine ite_pos ?cn ?_; (case cn => walk_at "mine.dec")))
  exact True.intro
/-- what the urn looks like: its two objects, apart from each other and from the rest -/
structure Urn (u l : Addr) (k : Int) (tk : Tok) (n n' : Nat) (vs : List Value) (ns : List Int) (news : Led) : Prop where
  apart : NeA u l
  offU : ∀ p ∈ news, p.1 ≠ u
  offL : ∀ p ∈ news, p.1 ≠ l
  nums : IntsAre vs ns
  len : ns.length ≤ 64
  lo : 0 ≤ k
  hi : k ≤ 2000000
abbrev urnLed (u l : Addr) (k : Int) (tk : Tok) (n n' : Nat) (vs : List Value) (news : Led) : Led :=
  (u, listOf [.ref l, .int k tk].toArray n) :: (l, listOf vs.toArray n') :: news
abbrev RetU (u l : Addr) (news : Led) (P : Value → Prop) : RetT := fun h₀ L m s Q =>
  ∀ (v : Value) (k : Int) (tk : Tok) (n n' : Nat) (vs : List Value) (ns : List Int) (h' : Heap) (tk' : Nat), P v → Urn u l k tk n n' vs ns news →
    Fr h₀ L h' m → News h₀ L h' (urnLed u l k tk n n' vs news) → Q v { s with heap := h', toks := tk' }
theorem pop0_K {prog : Program} {w : World} {A : Around} {E : Value → Shared → Prop} {s : Shared} {h₀ : Heap} {L D : Addr} {m : PySem.Str → Option Value} {news news' : Led} {v : Value} {vs : List Value} {n : Nat} {u : Tok} {Q : Value → Shared → Prop}
    (F : Fr h₀ L s.heap m) (N : News h₀ L s.heap news) (U : Upd D (listOf (v :: vs).toArray n) (listOf vs.toArray (n + 1)) news news') (hz : vs.length ≤ 1000)
    (h : ∀ h', Fr h₀ L h' m → News h₀ L h' news' → Q v { s with heap := h' }) : wpAny (model prog w) A (PySem.call (.builtin "list.pop") [.ref D, .int 0 u]) Q E s := by
  refine kl_popAt (its := (v :: vs).toArray) (k := 0) (p := []) (q := vs) F N rfl ?_ rfl U ?_ h
  · rw [List.size_toArray, List.length_cons]
    unfold seqIndex?
    simp
  · rw [sizeLine_eq]; show (v :: vs).length ≤ _; rw [List.length_cons]; omega
theorem kw12 : True := by
  k_with "call builtin:list.pop" => ((k_here; (with_reducible show wpAny _ _ (PySem.call (Value.builtin _) [Value.ref _, Value.int 0 _]) _ _ _); (rename Fr _ _ _ _ => F9q); (rename News _ _ _ _ => N9q); k_dflt (refine' pop0_K F9q N9q ?U ?z ?_); (case U => k_upd); (case z => assumption); clear F9q N9q; intro h9q F9q N9q))
  exact True.intro
theorem draw_in (x many : Int) (h : 0 < many) : 0 ≤ x.fmod many ∧ x.fmod many < many := ⟨Int.fmod_nonneg_of_pos x h, Int.fmod_lt_of_pos x h⟩
theorem seed_in (x : Int) : 0 ≤ x.fmod 1000003 ∧ x.fmod 1000003 ≤ 2000000 := by
  have := draw_in x 1000003 (by decide)
  omega
theorem pull_ok (w : World) (news : Led) (u l : Addr) (k : Int) (tk : Tok) (n n' : Nat) (vs : List Value) (ns : List Int) (many : Int) (tm : Tok) :
    Ctr PR w (hd.heap_39 w.params) hd.view_39 LO 109 2 96 (urnLed u l k tk n n' vs news) (Urn u l k tk n n' vs ns news ∧ 0 < many ∧ many ≤ 1000) [.ref u, .int many tm] (RetU u l news fun v => ∃ d t, v = .int d t ∧ 0 ≤ d ∧ d < many) := by
  w_top off
  intro mean mg mb dp un gd cn cs a ccd cl outer A₀ base h₀ L m s Q E B F X N T hk ⟨⟨hne, hou, hol, hi, hln, hk0, hk1⟩, hm0, hm1⟩ hdp hun hret
  obtain ⟨sh, sg, sd, st, so⟩ := s
  dsimp only at F N hret
  refine wpAny_call ?_
  k_dflt ktr_enter
  cases hi with
  | nil =>
    k_steps
    (rename Fr _ _ _ _ => F9); (rename News _ _ _ _ => N9)
    exact hret _ _ _ _ _ _ [] _ _ ⟨_, _, rfl, draw_in _ _ hm0⟩ ⟨hne, hou, hol, .nil, by simp, (seed_in _).1, (seed_in _).2⟩ F9 (drop1 N9)
  | cons z tz hi' =>
    have hlv : List.length _ ≤ 1000 := Nat.le_trans (Nat.le_of_eq hi'.length) (by rw [List.length_cons] at hln; omega)
    k_steps
    · exfalso
      (rename (decide (_ = _) = true) => q9)
      simp at q9
    · (rename Fr _ _ _ _ => F9); (rename News _ _ _ _ => N9)
      exact hret _ _ _ _ _ _ _ _ _ ⟨_, _, rfl, draw_in _ _ hm0⟩ ⟨hne, hou, hol, hi', by rw [List.length_cons] at hln; omega, hk0, hk1⟩ F9 (drop1 (drop1 (drop1 N9)))
    · (rename Fr _ _ _ _ => F9); (rename News _ _ _ _ => N9)
      exact hret _ _ _ _ _ _ _ _ _ ⟨_, _, rfl, draw_in _ _ hm0⟩ ⟨hne, hou, hol, .cons (z.fdiv many) _ hi', by rw [List.length_cons] at hln ⊢; exact hln, hk0, hk1⟩ F9 (drop1 (drop1 (drop1 N9)))
-- VU
section
open PySem.Spec PySem.Calls
open LCg
abbrev three (I C D : Addr) (oI oC oD : Obj) : Led := [(I, oI), (C, oC), (D, oD)]
theorem led3 {h₀ h : Heap} {L : Addr} {a b c e f : Addr × Obj} {r : Led} (N : News h₀ L h (a :: b :: c :: e :: f :: r)) : News h₀ L h (e :: f :: a :: b :: c :: r) := fun p hp => N p (by
  simp only [List.mem_cons] at hp ⊢
  rcases hp with h | h | h | h | h | h <;> simp [h])
theorem led3' {h₀ h : Heap} {L : Addr} {a b c e f : Addr × Obj} {r : Led} (N : News h₀ L h (e :: f :: a :: b :: c :: r)) : News h₀ L h (a :: b :: c :: e :: f :: r) := fun p hp => N p (by
  simp only [List.mem_cons] at hp ⊢
  rcases hp with h | h | h | h | h | h <;> simp [h])
theorem Urn.cons {u l : Addr} {k : Int} {tk : Tok} {n n' : Nat} {vs : List Value} {ns : List Int} {X : Led} (p : Addr × Obj) (h : Urn u l k tk n n' vs ns X) (a : p.1 ≠ u) (b : p.1 ≠ l) : Urn u l k tk n n' vs ns (p :: X) := ⟨h.apart, List.forall_mem_cons.mpr ⟨a, h.offU⟩, List.forall_mem_cons.mpr ⟨b, h.offL⟩, h.nums, h.len, h.lo, h.hi⟩
section
variable {prog : Program} {w : World} {A : Around} {E : Value → Shared → Prop} {env : Env} {h₀ : Heap} {L : Addr} {m : PySem.Str → Option Value}
/-- a comprehension whose element draws from the urn -/
theorem rest_urn {sh : Heap} {sg : Array GenState} {sd : Drawn} {st : Nat} {so : OsState} {elt : PySem.Expr} {x : PySem.Str} {scope : Scope} {cl : List (PySem.Str × Addr)} {S : Led → Prop} {P : Nat → Value → Prop} {Fin : List Value → Led → Prop} {u l : Addr} {X : Led} {n₀ : Nat} {k : Int} {tku : Tok} {n n' : Nat} {vs : List Value} {ns : List Int} (R : Value → Prop) (U : Urn u l k tku n n' vs ns X) (hS : ∀ l, S l)
    (turn : ∀ i v I oI C oC D m₂ ys h tk (E' Pz : Value → Shared → Prop) k tku n n' vs ns, P i v → NsObj oC m₂ → m₂ x = some v → Fr h₀ L h m → News h₀ L h (urnLed u l k tku n n' vs ((I, oI) :: (C, oC) :: (D, lst ys) :: X)) → Urn u l k tku n n' vs ns ((I, oI) :: (C, oC) :: (D, lst ys) :: X) →
      (∀ y h' tk' k tku n n' vs ns, R y → Urn u l k tku n n' vs ns ((I, oI) :: (C, oC) :: (D, lst ys) :: X) → Fr h₀ L h' m → News h₀ L h' (urnLed u l k tku n n' vs ((I, oI) :: (C, oC) :: (D, lst ys) :: X)) → Pz y ⟨h', sg, sd, tk', so⟩) →
      wpAny (model prog w) A (eval elt (compEnvC scope cl C env)) Pz E' ⟨h, sg, sd, tk, so⟩)
    (fin : ∀ ys k tku n n' vs ns, ys.length = n₀ → (∀ y ∈ ys, R y) → Urn u l k tku n n' vs ns X → Fin ys (urnLed u l k tku n n' vs X)) :
    CompRest prog w A h₀ L m env elt x scope cl ⟨sh, sg, sd, st, so⟩ S P Fin n₀ 0 [] (urnLed u l k tku n n' vs X) := by
  have key : ∀ (j i : Nat) (ys : List Value) (k : Int) (tku : Tok) (n n' : Nat) (vs : List Value) (ns : List Int), i + j = n₀ → ys.length = i → (∀ y ∈ ys, R y) → Urn u l k tku n n' vs ns X → CompRest prog w A h₀ L m env elt x scope cl ⟨sh, sg, sd, st, so⟩ S P Fin j i ys (urnLed u l k tku n n' vs X) := by
    intro j
    induction j with
    | zero =>
      intro i ys k tku n n' vs ns hi hl hy U
      exact CompRest.zero (fin ys k tku n n' vs ns (by omega) hy U)
    | succ j ih =>
      intro i ys k tku n n' vs ns hi hl hy U
      refine CompRest.succ ?_
      intro v I oI C oC D m₂ h tk E' hv hC hx F N off ne
      obtain ⟨⟨u1, u2, u3⟩, ⟨l1, l2, l3⟩, offX⟩ := off
      refine turn i v I oI C oC D m₂ ys h tk E' _ k tku n n' vs ns hv hC hx F (led3 N) ⟨U.apart, ?_, ?_, U.nums, U.len, U.lo, U.hi⟩ ?_
      · intro p hp
        rcases List.mem_cons.mp hp with rfl | hp
        · exact Ne.symm u1
        · rcases List.mem_cons.mp hp with rfl | hp
          · exact Ne.symm u2
          · rcases List.mem_cons.mp hp with rfl | hp
            · exact Ne.symm u3
            · exact U.offU p hp
      · intro p hp
        rcases List.mem_cons.mp hp with rfl | hp
        · exact Ne.symm l1
        · rcases List.mem_cons.mp hp with rfl | hp
          · exact Ne.symm l2
          · rcases List.mem_cons.mp hp with rfl | hp
            · exact Ne.symm l3
            · exact U.offL p hp
      · intro y h' tk' k' tku' n2 n2' vs' ns' hr U' F' N'
        refine CompEnd.intro F' (led3' N') _ (fun _ h => h) ⟨⟨u1, u2, u3⟩, ⟨l1, l2, l3⟩, offX⟩ (hS _) ?_
        refine ih (i + 1) _ k' tku' n2 n2' vs' ns' (by omega) (by rw [List.length_append]; exact congrArg (· + 1) hl) ?_ ⟨U'.apart, U.offU, U.offL, U'.nums, U'.len, U'.lo, U'.hi⟩
        intro z hz
        rcases List.mem_append.mp hz with h | h
        · exact hy z h
        · rw [List.mem_singleton.mp h]; exact hr
  exact key n₀ 0 [] k tku n n' vs ns (by omega) rfl (fun y h => nomatch h) U
end
theorem small1 {x : Int} (h0 : 0 ≤ x) (h1 : x ≤ 64) : Builtin.Range.small 0 x 1 = true ∧ Builtin.Range.rangeSize 0 x 1 = (x.toNat : Int) := by
  have e : Builtin.Range.rangeSize 0 x 1 = (x.toNat : Int) := by
    unfold Builtin.Range.rangeSize
    simp only [show (1 : Int) > 0 by decide, if_true]
    split <;> omega
  refine ⟨?_, e⟩
  unfold Builtin.Range.small
  rw [e, fits_small 0 (by omega) (by omega), fits_small x (by omega) (by omega), fits_small 1 (by omega) (by omega), fits_small (x.toNat : Int) (by omega) (by omega), if_pos (by decide), fits_small _ (by omega) (by omega), Bool.or_true]
  rfl
end
-- V8
theorem kw13 : True := by
  k_with_none
  k_with "k_all" => (first | exact ne_of_lts (by with_reducible assumption) | exact ne_of_allLt (by with_reducible assumption) | exact ne_of_off1 (by with_reducible assumption) | exact ne_of_allLt (And.right (by with_reducible assumption)) | exact ne_of_off1 (And.right (by with_reducible assumption)) | exact ne_of_allLt (And.right (And.right (by with_reducible assumption))) | exact ne_of_off1 (And.right (And.right (by with_reducible assumption))) | exact ne_of_allLt (And.right (And.right (And.right (by with_reducible assumption)))) | exact ne_of_off1 (And.right (And.right (And.right (by with_reducible assumption)))) | with_reducible assumption)
  k_with "k_ne" => ((refine neN ?_; (try dsimp only); first | exact NeA.out (by with_reducible assumption) | exact Ne.symm (NeA.out (by with_reducible assumption)) | with_reducible assumption | exact Ne.symm (by with_reducible assumption)))
  k_with "mine.dec" => (((try simp only [decide_eq_true_eq, beq_iff_eq, bne_iff_ne, Bool.not_eq_true', Bool.not_eq_true, Bool.not_eq_false', beq_eq_false_iff_ne, decide_eq_false_iff_not]); omega))
  k_with "ite" => (first | (refine ite_neg ?cn ?_; (case cn => walk_at "mine.dec")) | (refine ite_pos ?cn ?_; (case cn => walk_at "mine.dec")))
  k_with "exec Assign cons ListComp" => (((fail_if_success (fail_if_success (rename Urn _ _ _ _ _ _ _ _ _ => z9q))); refine unbox ?_))
  k_with "call ref" => ((refine unbox ?_))
  k_with "call type:bytes" => (((rename IntsAre _ _ => z9q); refine unbox ?_))
  k_with "setItem" => ((refine unbox ?_))
  k_with "CompSrc" => ((refine unbox ?_))
  exact True.intro
theorem front {h₀ h : Heap} {L : Addr} {eu el : Addr × Obj} {pre r : Led} (N : News h₀ L h (pre ++ eu :: el :: r)) : News h₀ L h (eu :: el :: (pre ++ r)) := fun p hp => N p (by
  simp only [List.mem_cons, List.mem_append] at hp ⊢
  rcases hp with h | h | h | h <;> simp [h])
theorem Urn.grow {u l : Addr} {k : Int} {tk : Tok} {n n' : Nat} {vs : List Value} {ns : List Int} {news news' : Led} (h : Urn u l k tk n n' vs ns news) (a : ∀ p ∈ news', p.1 ≠ u) (b : ∀ p ∈ news', p.1 ≠ l) : Urn u l k tk n n' vs ns news' := ⟨h.apart, a, b, h.nums, h.len, h.lo, h.hi⟩
theorem Urn.shrink {u l : Addr} {k : Int} {tk : Tok} {n n' : Nat} {vs : List Value} {ns : List Int} {news news' : Led} (h : Urn u l k tk n n' vs ns news') (a : ∀ p ∈ news, p.1 ≠ u) (b : ∀ p ∈ news, p.1 ≠ l) : Urn u l k tk n n' vs ns news := ⟨h.apart, a, b, h.nums, h.len, h.lo, h.hi⟩
theorem ints_four {a b c d : Int} (ha : 0 ≤ a ∧ a < 256) (hb : 0 ≤ b ∧ b < 256) (hc : 0 ≤ c ∧ c < 256) (hd : 0 ≤ d ∧ d < 256) : KBw.bInts #[a.toNat.toUInt8, b.toNat.toUInt8, c.toNat.toUInt8, d.toNat.toUInt8] = [a, b, c, d] :=
  KBa.ints_make (ns := [a, b, c, d]) (by
    intro x hx
    simp only [List.mem_cons, List.not_mem_nil, or_false] at hx
    rcases hx with rfl | rfl | rfl | rfl <;> assumption)
theorem in4 {a b c d : Int} (ha : 0 ≤ a ∧ a < 256) (hb : 0 ≤ b ∧ b < 256) (hc : 0 ≤ c ∧ c < 256) (hd : 0 ≤ d ∧ d < 256) : KBa.In [a, b, c, d] := by
  intro x hx
  simp only [List.mem_cons, List.not_mem_nil, or_false] at hx
  rcases hx with rfl | rfl | rfl | rfl <;> assumption
theorem in_set {ns : List Int} {j : Nat} {x : Int} (h : KBa.In ns) (hx : 0 ≤ x ∧ x < 256) : KBa.In (ns.set j x) := fun c hc => by
  rcases List.mem_or_eq_of_mem_set hc with q | rfl
  · exact h c q
  · exact hx
theorem set4 {a0 a1 a2 a3 x : Int} {d : Nat} (h : d < 4) (hx : x ≠ 0) : ∃ b0 b1 b2 b3, [a0, a1, a2, a3].set d x = [b0, b1, b2, b3] ∧ ¬ (b0 = 0 ∧ b1 = 0 ∧ b2 = 0 ∧ b3 = 0) := by
  match d, h with
  | 0, _ => exact ⟨x, a1, a2, a3, rfl, fun q => hx q.1⟩
  | 1, _ => exact ⟨a0, x, a2, a3, rfl, fun q => hx q.2.1⟩
  | 2, _ => exact ⟨a0, a1, x, a3, rfl, fun q => hx q.2.2.1⟩
  | 3, _ => exact ⟨a0, a1, a2, x, rfl, fun q => hx q.2.2.2⟩
theorem urn_sub {u l : Addr} {k : Int} {tk : Tok} {n n' : Nat} {vs : List Value} {a b : Addr × Obj} {X : Led} : ∀ p ∈ urnLed u l k tk n n' vs X, p ∈ urnLed u l k tk n n' vs (a :: b :: X) := fun p hp => by
  simp only [urnLed, List.mem_cons] at hp ⊢
  rcases hp with h | h | h <;> simp [h]
theorem hideQ {M : Model} {A : Around} {c : Sem Flow} {s : Shared} {Q : Flow → Shared → Prop} {E : Value → Shared → Prop} (h : ∀ (Q' : Flow → Shared → Prop) (E' : Value → Shared → Prop), (∀ f s, Q f s → Q' f s) → (∀ e s, E e s → E' e s) → wpAny M A c Q' E' s) : wpAny M A c Q E s := h Q E (fun _ _ q => q) fun _ _ q => q
theorem four_of_ys {ys : List Value} (hl : ys.length = 4) (hy : ∀ y ∈ ys, ∃ d t, y = Value.int d t ∧ 0 ≤ d ∧ d < 256) : ∃ a b c d ta tb tc td, ys = [.int a ta, .int b tb, .int c tc, .int d td] ∧ (0 ≤ a ∧ a < 256) ∧ (0 ≤ b ∧ b < 256) ∧ (0 ≤ c ∧ c < 256) ∧ (0 ≤ d ∧ d < 256) := by
  match ys, hl with
  | [x, y, z, w], _ =>
    obtain ⟨a, ta, rfl, ha⟩ := hy _ (.head _)
    obtain ⟨b, tb, rfl, hb⟩ := hy _ (.tail _ (.head _))
    obtain ⟨c, tc, rfl, hc⟩ := hy _ (.tail _ (.tail _ (.head _)))
    obtain ⟨d, td, rfl, hd⟩ := hy _ (.tail _ (.tail _ (.tail _ (.head _))))
    exact ⟨a, b, c, d, ta, tb, tc, td, rfl, ha, hb, hc, hd⟩
theorem group_ok (w : World) (news : Led) (u l : Addr) (k : Int) (tk : Tok) (n n' : Nat) (vs : List Value) (ns : List Int) :
    Ctr PR w (hd.heap_39 w.params) hd.view_39 LO 114 4 192 (urnLed u l k tk n n' vs news) (Urn u l k tk n n' vs ns news) [.ref u]
      (RetU u l news fun v => ∃ b t a0 a1 a2 a3, v = .bytes b t ∧ KBw.bInts b = [a0, a1, a2, a3] ∧ ¬ (a0 = 0 ∧ a1 = 0 ∧ a2 = 0 ∧ a3 = 0)) := by
  w_top off
  intro mean mg mb dp un gd cn cs a ccd cl outer A₀ base h₀ L m s Q E B F X N T hk HU hdp hun hret
  obtain ⟨sh, sg, sd, st, so⟩ := s
  dsimp only at F N hret
  refine wpAny_call ?_
  k_dflt (refine' code_defC ?k1 ?k2 ?k3 ?k4 ?k5 ?kA ?kF ?kK ?k6 ?k7 ?k8 ?k9 ?kB ?kD ?_ ?c2 ?c3 ?c4; (case kA => exact rfl); (case kF => exact rfl); (case kK => assumption); (case k1 => k_asm); (case k2 => k_asm); (case k3 => k_asm); (case k4 => k_asm); (case k5 => k_asm); (case k6 => k_is); (case k7 => k_is); (case k8 => ktr_room); (case k9 => exact BindsTo.of_eq rfl); (case kB => exact rfl); (case kD => decide +kernel); (case c2 => exact rfl); (case c3 => exact rfl); (case c4 => exact rfl); k_whole; intro g' L' h' tk' cells' FG' F' N' Y' B' X' T' l1; (try k_lt l1); k_cells Y'; (try simp only [List.cons_append, List.nil_append] at N'); (try dsimp only); (try k_lift B'); (try k_fold))
  have hou := HU.offU
  have hol := HU.offL
  (rename (_ = Data.cell _) => d0)
  have d1 : _ = Data.cell (some (Value.ref u)) := d0
  (rename Fr _ _ _ _ => F9)
  have F1 : Fr _ _ _ (fun _ => none) := F9
  clear F9 d0
  refine hideQ ?_
  intro Qh Eh hQ _
  k_steps
  refine Box.mk ?_
  k_dflt (refine LCg.Assign_ListComp_U (F₀ := by k_asm) (by rfl) (by with_unfolding_all rfl) (by with_unfolding_all rfl) (by decide) (by rfl) (by decide) (by rfl) (by rfl) (by rfl) ?_)
  k_steps
  refine Box.mk ?_
  (rename IsRange _ _ _ _ _ _ _ _ => R9); (rename Fr _ _ _ _ => F9); (rename News _ _ _ _ => N9); (rename (_ < _ ∧ _ < _ ∧ AllLt _ _) => la)
  show LCg.CompSrc _ _ _ _ _ _ _ _ _ _ _ _ _ ⟨_, sg, sd, _, so⟩
  refine LCg.CompSrc.range rfl F9 (front (pre := [_]) N9) R9 (small1 (by decide) (by decide)).1 (small1 (by decide) (by decide)).2 (by decide) ?_
  intro g8
  refine rest_urn (fun y => ∃ d t, y = Value.int d t ∧ 0 ≤ d ∧ d < 256) (HU.grow (List.forall_mem_cons.mpr ⟨Nat.ne_of_gt (Nat.lt_succ_of_lt la.1), hou⟩) (List.forall_mem_cons.mpr ⟨Nat.ne_of_gt (Nat.lt_succ_of_lt la.2.1), hol⟩)) (fun _ => trivial) ?_ ?_ <;> clear F9 N9 R9 HU
  · intro i v I oI C oC D m₂ ys h8 tk8 E' Pz k tku n n' vs ns hv hC hx F9 N9 U9 hend
    k_steps
    try refine Box.mk ?_
    (rename Fr _ _ _ _ => F9); (rename News _ _ _ _ => N9)
    k_dflt refine' pull_ok _ _ _ _ _ _ _ _ _ _ _ _ _ _ _ _ _ _ _ _ _ _ _ _ _ _ _ _ _ _ _ _ ?k1 F9 ?k3 N9 ?k5 ?k6 ⟨U9, by decide, by decide⟩ ?k9 ?k10 ?_
    case k1 => k_asm
    case k3 => k_asm
    case k5 => k_asm
    case k6 => first | exact rfl | assumption
    case k9 => ktr_room
    case k10 => ktr_units
    clear F9 N9
    rintro _ k8 tk8 n8 p8 vs8 ns8 h8 r8 ⟨d8, t8, rfl, b8⟩ U9 F9 N9
    k_steps
    exact hend _ _ _ _ _ _ _ _ _ ⟨_, _, rfl, b8⟩ U9 F9 N9
  · intro ys k tku n n' vs ns hl hy U9
    obtain ⟨a0, a1, a2, a3, t0, t1, t2, t3, rfl, c0, c1, c2, c3⟩ := four_of_ys hl hy
    clear hl hy
    unfold LCg.FinA
    intro D h8 tk8 F9 N9 o8
    obtain ⟨n1, n2, n3, n4⟩ := o8
    simp only [List.cons_append, List.nil_append] at N9 U9
    replace N9 := front (pre := [_]) N9
    simp only [List.cons_append, List.nil_append] at N9
    replace U9 := Urn.cons (D, LCg.lst [.int a0 t0, .int a1 t1, .int a2 t2, .int a3 t3]) U9 (Ne.symm n1) (Ne.symm n2)
    dsimp only at n1 n2 n3
    have x3 := NeA.mk n3
    have x1 := NeA.mk n1
    have x2 := NeA.mk n2
    clear n1 n2 n3
    show wpAny _ _ _ _ _ _
    k_steps
    · have hq : a0 = 0 ∧ a1 = 0 ∧ a2 = 0 ∧ a3 = 0 := by (rename ([_, _, _, _] = [_, _, _, _]) => q9); simpa only [List.cons.injEq, and_true] using q9
      try refine Box.mk ?_
      (rename Fr _ _ _ _ => F9); (rename News _ _ _ _ => N9)
      k_dflt refine' pull_ok _ _ _ _ _ _ _ _ _ _ _ _ _ _ _ _ _ _ _ _ _ _ _ _ _ _ _ _ _ _ _ _ ?k1 F9 ?k3 (drop1 N9) ?k5 ?k6 ⟨U9, by decide, by decide⟩ ?k9 ?k10 ?_
      case k1 => k_asm
      case k3 => k_asm
      case k5 => k_asm
      case k6 => first | exact rfl | assumption
      case k9 => ktr_room
      case k10 => ktr_units
      clear F9 N9
      rintro _ k8 tk8 n8 p8 vs8 ns8 h8 r8 ⟨d8, t8, rfl, b8⟩ U9 F9 N9
      k_steps
      try refine Box.mk ?_
      (rename Fr _ _ _ _ => F9); (rename News _ _ _ _ => N9)
      k_dflt refine' pull_ok _ _ _ _ _ _ _ _ _ _ _ _ _ _ _ _ _ _ _ _ _ _ _ _ _ _ _ _ _ _ _ _ ?k1 F9 ?k3 N9 ?k5 ?k6 ⟨U9, by decide, by decide⟩ ?k9 ?k10 ?_
      case k1 => k_asm
      case k3 => k_asm
      case k5 => k_asm
      case k6 => first | exact rfl | assumption
      case k9 => ktr_room
      case k10 => ktr_units
      clear F9 N9
      rintro _ k7 tk7 n7 p7 vs7 ns7 h7 r7 ⟨d7, t7, rfl, b7, c7⟩ U9 F9 N9
      have hI4 : IntsAre [.int a0 t0, .int a1 t1, .int a2 t2, .int a3 t3] [a0, a1, a2, a3] := .cons _ _ (.cons _ _ (.cons _ _ (.cons _ _ .nil)))
      have hin4 : KBa.In [a0, a1, a2, a3] := in4 c0 c1 c2 c3
      k_steps
      try refine Box.mk ?_
      refine' ksa_set (s := ⟨_, sg, sd, _, so⟩) F9 N9 (Upd.tail x1.out (Upd.tail x2.out (Upd.head (List.forall_mem_cons.mpr ⟨x3.out, ne_of_off1 (l := news) n4⟩)))) hI4 b7 c7 ?f ?_
      case f => exact Int.lt_trans c7 (by decide)
      clear F9 N9
      intro h6 F9 N9 hi6 _ _
      have hin6 : KBa.In (List.set [a0, a1, a2, a3] d7.toNat (1 + d8)) := in_set hin4 (by omega)
      obtain ⟨e0, e1, e2, e3, he, hz⟩ := set4 (a0 := a0) (a1 := a1) (a2 := a2) (a3 := a3) (x := 1 + d8) (d := d7.toNat) (by omega) (by omega)
      rw [he] at hi6 hin6
      generalize List.set [Value.int a0 t0, Value.int a1 t1, Value.int a2 t2, Value.int a3 t3] d7.toNat (Value.int (1 + d8) r8) = vs6 at N9 hi6
      clear he hI4 hin4
      k_steps
      try refine Box.mk ?_
      (rename Fr _ _ _ _ => F9); (rename News _ _ _ _ => N9)
      (rename IntsAre _ [e0, _, _, _] => hi6)
      refine KBa.make_K F9 N9 rfl (News.isList N9 (by k_mem)) hi6 hin6 (Nat.le_of_ble_eq_true rfl) ?_
      intro h5 t5 k5 F8 N8 _
      clear F9 N9
      k_steps
      refine hQ _ _ ?_
      dsimp only
      k_steps
      (rename Fr _ _ _ _ => F9); (rename News _ _ _ _ => N9)
      exact hret _ _ _ _ _ _ _ _ _ ⟨_, _, _, _, _, _, rfl, KBa.ints_make hin6, hz⟩ (U9.shrink hou hol) F9 (news_sub N9 urn_sub)
    · refine hQ _ _ ?_
      dsimp only
      k_steps
      (rename Fr _ _ _ _ => F9); (rename News _ _ _ _ => N9)
      (rename (¬ [_, _, _, _] = [_, _, _, _]) => z9)
      exact hret _ _ _ _ _ _ _ _ _ ⟨_, _, _, _, _, _, rfl, ints_four c0 c1 c2 c3, fun h => z9 (by rw [h.1, h.2.1, h.2.2.1, h.2.2.2])⟩ (U9.shrink hou hol) F9 (news_sub (drop1 N9) urn_sub)
-- V5p
section
open PySem.Spec PySem.Calls
open LCg
theorem nlt {a b : Nat} (h : a < b) : a ≠ b := Nat.ne_of_lt h
theorem ngt {a b : Nat} (h : b < a) : a ≠ b := Nat.ne_of_gt h
abbrev cellO (v : Option Value) : Obj := { cls := .type "cell", data := .cell v }
section
variable {M : Model} {A : Around} {E : Value → Shared → Prop} {s : Shared}
theorem env_cell {scope : Scope} {globals : Addr} {cl : List (PySem.Str × Addr)} {qual : PySem.Str} {outer : Env} {x : PySem.Str} {Q : Env → Shared → Prop}
    (hcf : ∀ n, cellsFrom n scope.names cl = (x, n) :: cl) (hpc : ∀ h, pushCells h scope.names = h.push (cellO none))
    (hQ : Q (newEnv scope s.heap.objs.size globals ((x, s.heap.objs.size + 1) :: cl) qual none .none (some outer) builtinsNs) { s with heap := (s.heap.push { cls := .type "dict", data := .dict #[] }).push (cellO none) }) :
    wpAny M A (newFunctionEnv scope globals cl [] qual none .none (some outer)) Q E s := by
  simp only [newFunctionEnv, Option.isSome_some, if_true]
  refine wpAny_bind (wpAny_alloc ?_)
  refine wpAny_bind (wpAny_layCells _ (fun name kind cells => by cases hkc : kind == NameKind.cell <;> simp [hkc]) _ _ _ _ ?_)
  rw [hpc, hcf, show ({ s with heap := s.heap.push { cls := .type "dict", data := .dict #[] } } : Shared).heap.objs.size = s.heap.objs.size + 1 from Heap.size_push ..]
  rw [List.forIn_nil]
  exact wpAny_bind (wpAny_pure (wpAny_pure hQ))
end
section
variable {prog : Program} {w : World} {A : Around} {E : Value → Shared → Prop} {s : Shared} {h₀ : Heap} {L : Addr} {m : PySem.Str → Option Value} {env : Env}
abbrev NoneEnd (h₀ : Heap) (L : Addr) (m : PySem.Str → Option Value) (s₂ : Shared) (led : Led) (ok : Bool) (s' : Shared) : Prop := ok = false ∧ ∃ h' tk', s' = { s₂ with heap := h', toks := tk' } ∧ Fr h₀ L h' m ∧ News h₀ L h' led
theorem block_N {ct elt iter : PySem.Expr} {x : PySem.Str} {px : Pos} {scope : Scope} {cl : List (PySem.Str × Addr)} {pos : Pos} {s₂ : Shared} {I T : Addr} {its : Array Value} {k : Nat} {news : Led} {RR : Value → Addr → Result → Shared → Prop}
    (hh : A.handled = none) (hTI : T ≠ I) (hsz : its.size ≤ sizeLine) (hkind : scope.kind = .function) (hx : ∀ K C, (compEnvC scope ((x, K) :: cl) C env).kindOf x = some .cell)
    (hcf : ∀ n, cellsFrom n scope.names cl = (x, n) :: cl) (hpc : ∀ h, pushCells h scope.names = h.push (cellO none))
    (hst : s₂.heap.IsTupleIter I T 0) (F : Fr h₀ L s₂.heap m) (N : News h₀ L s₂.heap news) (hT : (T, ({ cls := .type "tuple", data := .seq its k } : Obj)) ∈ news) (hIL : L ≠ I) (hI₀ : h₀.get? I = none) (off : ∀ p ∈ news, p.1 ≠ I)
    (turn : ∀ v I oI C oC K oK D h tk (E' : Value → Shared → Prop), v ∈ its.toList → oK.data = .cell (some v) → Fr h₀ L h m → News h₀ L h ((I, oI) :: (C, oC) :: (K, oK) :: (D, lst []) :: news) →
      wpAny (model prog w) A (isTrue ct (compEnvC scope ((x, K) :: cl) C env) (eval ct (compEnvC scope ((x, K) :: cl) C env))) (NoneEnd h₀ L m s₂ ((I, oI) :: (C, oC) :: (K, oK) :: (D, lst []) :: news)) E' { s₂ with heap := h, toks := tk })
    (hRR : ∀ D C h tk m', Fr h₀ L h m → News h₀ L h ((D, lst []) :: news) → (∀ p ∈ news, p.1 < D) → h.Ns C m' → h₀.get? C = none → h₀.get? D = none → C ≠ L → D ≠ L → C ≠ D → (∀ p ∈ news, p.1 ≠ C) → RR (.ref D) C (.ok .next) { s₂ with heap := h, toks := tk }) :
    wpAny (model prog w) A (newList []) (fun acc s₃ => wpAny (model prog w) A (newFunctionEnv scope env.globals cl [] env.qual none .none (some env)) (fun cenv s₄ =>
      codeAny (model prog w) A (.compStart (.ListComp elt [⟨.Name x px, iter, [ct], 0⟩] scope pos) 0 (.ref I) acc { cenv with scope := relabel scope env }) (RR acc cenv.locals) s₄) E s₃) E s₂ := by
  have hIlt : I < s₂.heap.objs.size := let ⟨_, e, _⟩ := hst; Heap.lt_size e
  have hLlt : L < s₂.heap.objs.size := F.ns.lt
  refine wpAny_newObj_type (env_cell hcf hpc ?_)
  dsimp only
  generalize hH2 : s₂.heap.push { cls := .type "list", dict := none, data := .seq ([] : List Value).toArray } = H2
  have hC : H2.objs.size = s₂.heap.objs.size + 1 := by rw [← hH2, Heap.size_push]
  generalize hD' : s₂.heap.objs.size = D at *
  generalize hC' : H2.objs.size = C at *
  generalize hH3 : H2.push { cls := .type "dict", data := .dict #[] } = H3
  have hK3 : H3.objs.size = C + 1 := by rw [← hH3, Heap.size_push, hC']
  have fresh : ∀ a, D ≤ a → s₂.heap.get? a = none := fun a ha => by
    cases e : s₂.heap.get? a with
    | none => rfl
    | some o' => exact absurd (Heap.lt_size e) (Nat.not_lt.mpr (hD' ▸ ha))
  have fresh₀ : ∀ a, D ≤ a → h₀.get? a = none := fun a ha => by
    cases e : h₀.get? a with
    | none => rfl
    | some o' => have := F.keep a o' e; rw [fresh a ha] at this; cases this
  have e2 : ∀ b o, s₂.heap.get? b = some o → H2.get? b = some o := fun b o e => hH2 ▸ Heap.get?_push_of_some _ e
  have e3 : ∀ b o, H2.get? b = some o → H3.get? b = some o := fun b o e => hH3 ▸ Heap.get?_push_of_some _ e
  have e4 : ∀ b o, H3.get? b = some o → (H3.push (cellO none)).get? b = some o := fun b o e => Heap.get?_push_of_some _ e
  have old : ∀ b o, s₂.heap.get? b = some o → (H3.push (cellO none)).get? b = some o := fun b o e => e4 _ _ (e3 _ _ (e2 _ _ e))
  have gD : (H3.push (cellO none)).get? D = some (lst []) := e4 _ _ (e3 _ _ (by rw [← hH2, ← hD']; exact Heap.get?_push_size _ rfl))
  have gK : (H3.push (cellO none)).get? (C + 1) = some (cellO none) := by rw [← hK3]; exact Heap.get?_push_size _ rfl
  have nC : (H3.push (cellO none)).Ns C (fun _ => none) := by
    have h1 : H3.Ns C (fun _ => none) := by rw [← hH3, ← hC']; exact Heap.Ns.new H2 (.type "dict")
    exact h1.keeps e4
  have hCD : @Eq Nat C (D + 1) := hC
  have hI' : @LT.lt Nat _ I D := hIlt
  have hL' : @LT.lt Nat _ L D := hLlt
  have ltN : ∀ p ∈ news, @LT.lt Nat _ p.1 D := fun p hp => hD' ▸ Heap.lt_size (N p hp).1
  have W := Walks.tuple (prog := prog) (w := w) (A := A) hh I T hTI its
  have loop : ∀ s₃ : Shared, s₃ = { s₂ with heap := H3.push (cellO none) } →
      codeAny (model prog w) A (.compLoop (.ListComp elt [⟨.Name x px, iter, [ct], 0⟩] scope pos) 0 (.ref I) (.ref D) (compEnvC scope ((x, C + 1) :: cl) C env))
        (RR (.ref D) C) s₃ := by
    rintro s₃ rfl
    refine codeAny_compLoop_tests
      (fun j s' => ∃ h' tk i m' oK v, s' = { s₂ with heap := h', toks := tk } ∧ i ≤ its.size ∧ j = its.size + 1 - i ∧ h'.IsTupleIter I T i ∧ Fr h₀ L h' m ∧ h'.Ns C m' ∧ oK.data = .cell v ∧ News h₀ L h' ((C + 1, oK) :: (D, lst []) :: news)) ?_ (its.size + 1)
      ⟨_, s₂.toks, 0, _, cellO none, none, rfl, Nat.zero_le _, rfl, hst.at fun o e => old _ _ e, F.keeps old, nC, rfl, fun p hp => ?_⟩
    · rintro j s' ⟨h', tk, i, m', oK, v₀, rfl, hi, rfl, hit', F', hn', hoK, N'⟩
      have tup : h'.IsTuple T its := ⟨_, (N' _ (.tail _ (.tail _ hT))).1, rfl, k, rfl⟩
      by_cases hlt : i < its.size
      · refine W.item i _ _ _ hlt ⟨hit', tup⟩ fun v h₂ tk₂ hPv hst₂ hk₂ => ?_
        have hk2 : ∀ b o, b ≠ I → h'.get? b = some o → h₂.get? b = some o := fun b o hb e => hk₂ b o (by simpa using hb) e
        have gK2 : h₂.get? (C + 1) = some oK := hk2 _ _ (ngt (by omega)) (N' _ (.head _)).1
        refine wpAny_assign_Name (wpAny_storeName_cell (env := compEnvC scope ((x, C + 1) :: cl) C env) (c := C + 1) hkind (hx _ _) (by simp [compEnvC]) ⟨oK, gK2, hoK⟩ (fun h₃ hc₃ hs₃ => ?_))
        obtain ⟨oK3, gK3, dK3⟩ := hc₃
        refine wpAny_tests_one ?_
        have F₃ : Fr h₀ L h₃ m := (fr_but F' hk₂ hIL hI₀).change hs₃ (ngt (by omega)) (fresh₀ _ (Nat.le_of_lt (by omega)))
        have keep3 : ∀ b o, b ≠ I → b ≠ C + 1 → h'.get? b = some o → h₃.get? b = some o := fun b o h1 h2 e => (hs₃.2 b h2).trans (hk2 b o h1 e)
        have hn₃ : h₃.Ns C m' := hn'.at' fun o e => keep3 C o (ngt (by omega)) (nlt (by omega)) e
        obtain ⟨oI, gI, cI, dI⟩ := hst₂.1
        have gI3 : h₃.get? I = some oI := (hs₃.2 I (nlt (by omega))).trans gI
        obtain ⟨oC, gC, hoC⟩ := ns_obj hn₃
        have N₃ : News h₀ L h₃ ((I, oI) :: (C, oC) :: (C + 1, oK3) :: (D, lst []) :: news) := by
          intro p hp
          simp only [List.mem_cons] at hp
          rcases hp with rfl | rfl | rfl | rfl | hp
          · exact ⟨gI3, Ne.symm hIL, hI₀⟩
          · exact ⟨gC, ngt (by omega), fresh₀ _ (Nat.le_of_lt (by omega))⟩
          · exact ⟨gK3, ngt (by omega), fresh₀ _ (Nat.le_of_lt (by omega))⟩
          · exact ⟨keep3 _ _ (ngt hI') (nlt (by omega)) (N' _ (.tail _ (.head _))).1, (N' _ (.tail _ (.head _))).2⟩
          · have := ltN p hp
            exact ⟨keep3 _ _ (off p hp) (nlt (by omega)) (N' _ (.tail _ (.tail _ hp))).1, (N' _ (.tail _ (.tail _ hp))).2⟩
        refine wpAny_mono (turn v I oI C oC (C + 1) oK3 D h₃ _ _ (by rw [Array.mem_toList_iff]; exact Array.mem_of_getElem? hPv) dK3 F₃ N₃) (fun ok s₄ h₄ => ?_) fun _ _ e => e
        obtain ⟨rfl, h5, tk5, rfl, F5, N5⟩ := h₄
        rw [if_neg Bool.false_ne_true]
        refine ⟨its.size + 1 - (i + 1), by omega, h5, tk5, i + 1, m', oK3, some v, rfl, hlt, rfl, ⟨oI, (N5 _ (.head _)).1, cI, dI⟩, F5, hoC.ns (N5 _ (.tail _ (.head _))).1, dK3, fun p hp => N5 p (.tail _ (.tail _ hp))⟩
      · obtain rfl : i = its.size := Nat.le_antisymm hi (Nat.not_lt.mp hlt)
        refine W.done _ _ _ ⟨hit', tup⟩ fun h₂ tk₂ hk₂ => ?_
        have hk2 : ∀ b o, b ≠ I → h'.get? b = some o → h₂.get? b = some o := fun b o hb e => hk₂ b o (by simpa using hb) e
        refine hRR D C h₂ tk₂ m' (fr_but F' hk₂ hIL hI₀) (fun p hp => ?_) ltN (hn'.at' fun o e => hk2 _ o (ngt (by omega)) e) (fresh₀ _ (Nat.le_of_lt (by omega))) (fresh₀ _ (Nat.le_refl _)) (ngt (by omega)) (ngt hL') (ngt (by omega)) (fun p hp => nlt (by have := ltN p hp; omega))
        have z := N' p (.tail _ hp)
        refine ⟨hk2 _ _ ?_ z.1, z.2⟩
        rcases List.mem_cons.mp hp with rfl | hp
        · exact ngt hI'
        · exact off p hp
    · simp only [List.mem_cons] at hp
      rcases hp with rfl | rfl | hp
      · exact ⟨gK, ngt (by omega), fresh₀ _ (Nat.le_of_lt (by omega))⟩
      · exact ⟨gD, ngt hL', fresh₀ _ (Nat.le_refl _)⟩
      · exact ⟨old _ _ (N p hp).1, (N p hp).2⟩
  exact codeAny_compStart_list (loop _ rfl) (W.self 0 _ _ _ ⟨hst.at fun o e => old _ _ e, ⟨_, old _ _ (N _ hT).1, rfl, k, rfl⟩⟩ (loop _ rfl))
noncomputable def SrcN (prog : Program) (w : World) (A : Around) (h₀ : Heap) (L : Addr) (m : PySem.Str → Option Value) (env : Env) (ct : PySem.Expr) (x : PySem.Str) (scope : Scope) (cl : List (PySem.Str × Addr)) (Q : Value → Shared → Prop) (xv : Value) (s₁ : Shared) : Prop :=
  ∃ T its k news, xv = .ref T ∧ A.handled = none ∧ Fr h₀ L s₁.heap m ∧ News h₀ L s₁.heap news ∧ (T, ({ cls := .type "tuple", data := .seq its k } : Obj)) ∈ news ∧ its.size ≤ sizeLine ∧
    (∀ v I oI C oC K oK D h tk (E' : Value → Shared → Prop), v ∈ its.toList → oK.data = .cell (some v) → Fr h₀ L h m → News h₀ L h ((I, oI) :: (C, oC) :: (K, oK) :: (D, lst []) :: news) →
      wpAny (model prog w) A (isTrue ct (compEnvC scope ((x, K) :: cl) C env) (eval ct (compEnvC scope ((x, K) :: cl) C env))) (NoneEnd h₀ L m s₁ ((I, oI) :: (C, oC) :: (K, oK) :: (D, lst []) :: news)) E' { s₁ with heap := h, toks := tk }) ∧
    (∀ D h tk, Fr h₀ L h m → News h₀ L h ((D, lst []) :: news) → (∀ p ∈ news, p.1 < D) → Q (.ref D) { s₁ with heap := h, toks := tk })
theorem comp_none {ct elt iter : PySem.Expr} {x : PySem.Str} {px : Pos} {scope : Scope} {cl : List (PySem.Str × Addr)} {pos : Pos} {Q : Value → Shared → Prop} (_F₀ : Fr h₀ L s.heap m)
    (hclos : closureFor scope env = pure cl) (hkind : scope.kind = .function) (hx : ∀ K C, (compEnvC scope ((x, K) :: cl) C env).kindOf x = some .cell)
    (hcf : ∀ n, cellsFrom n scope.names cl = (x, n) :: cl) (hpc : ∀ h, pushCells h scope.names = h.push (cellO none))
    (hnames : ∀ y ∈ scope.names, y.2 = .local → scope.names.lookup y.1 = some .local)
    (h : wpAny (model prog w) A (eval iter env) (SrcN prog w A h₀ L m env ct x scope cl Q) E s)
    (hs : ∀ x, foldedSetIterable iter env x = pure x := by intro _; rfl) :
    wpAny (model prog w) A (eval (.ListComp elt [⟨.Name x px, iter, [ct], 0⟩] scope pos) env) Q E s := by
  rw [eval_ListComp]
  refine wpAny_comprehension_free (use := none) rfl hs hclos hkind hnames (wpAny_mono h (fun xv s₁ h₁ => ?_) fun _ _ e => e)
  obtain ⟨T, its, k, news, rfl, hh, F, N, hT, hsz, turn, fin⟩ := h₁
  have ht : s₁.heap.IsTuple T its := ⟨_, (N _ hT).1, rfl, k, rfl⟩
  have hlt : T < s₁.heap.objs.size := Heap.lt_size (N _ hT).1
  refine wpAny_pyIter_tuple ht ?_
  have up : ∀ b o, s₁.heap.get? b = some o → (s₁.heap.push { cls := .type "tuple_iterator", data := .fields #[.ref T, .int 0 0] }).get? b = some o := fun b o e => Heap.get?_push_of_some _ e
  refine block_N (I := s₁.heap.objs.size) (T := T) hh (Nat.ne_of_lt hlt) hsz hkind hx hcf hpc ⟨_, Heap.get?_push_size _ rfl, rfl, rfl⟩ (F.keeps up) (N.grown up) hT (Nat.ne_of_lt F.ns.lt) (next_is_new F) (fun p hp => Nat.ne_of_lt (Heap.lt_size (N p hp).1))
    turn ?_
  intro D C h tk m' F' N' o1 hn hC₀ hD₀ hCL hDL hCD offC
  refine ⟨m', hn, fun h'' hs'' => fin D h'' tk (F'.change hs'' hCL hC₀) (fun p hp => ?_) o1⟩
  refine ⟨hs''.extBut _ _ ?_ (N' p hp).1, (N' p hp).2⟩
  rcases List.mem_cons.mp hp with rfl | hp
  · exact Ne.symm hCD
  · exact offC p hp
abbrev tupO (its : Array Value) (k : Nat) : Obj := { cls := .type "tuple", data := .seq its k }
noncomputable def TupSrc (prog : Program) (w : World) (A : Around) (h₀ : Heap) (L : Addr) (m : PySem.Str → Option Value) (env : Env) (elt : PySem.Expr) (x : PySem.Str) (scope : Scope) (cl : List (PySem.Str × Addr)) (Q : Value → Shared → Prop) (xv : Value) (s₁ : Shared) : Prop :=
  ∃ T its k news, xv = .ref T ∧ A.handled = none ∧ Fr h₀ L s₁.heap m ∧ News h₀ L s₁.heap news ∧ (T, tupO its k) ∈ news ∧ its.size ≤ sizeLine ∧
    ∀ s₂ : Shared, (∃ h, s₂ = { s₁ with heap := h }) → CompRest prog w A h₀ L m env elt x scope cl s₂ (fun nw => (T, tupO its k) ∈ nw) (fun i v => its[i]? = some v) (FinE h₀ L m s₂ Q) its.size 0 [] news
theorem tupSrc {elt : PySem.Expr} {x : PySem.Str} {scope : Scope} {cl : List (PySem.Str × Addr)} {Q : Value → Shared → Prop} {T : Addr} {its : Array Value} {k : Nat} {news : Led} {s₁ : Shared}
    (hh : A.handled = none) (F : Fr h₀ L s₁.heap m) (N : News h₀ L s₁.heap news) (hT : (T, tupO its k) ∈ news) (hsz : its.size ≤ sizeLine)
    (h : ∀ g, CompRest prog w A h₀ L m env elt x scope cl { s₁ with heap := g } (fun nw => (T, tupO its k) ∈ nw) (fun i v => its[i]? = some v) (FinE h₀ L m { s₁ with heap := g } Q) its.size 0 [] news) :
    TupSrc prog w A h₀ L m env elt x scope cl Q (.ref T) s₁ := ⟨T, its, k, news, rfl, hh, F, N, hT, hsz, fun _ ⟨g, e⟩ => e ▸ h g⟩
theorem comp_tup {elt iter : PySem.Expr} {x : PySem.Str} {px : Pos} {scope : Scope} {cl : List (PySem.Str × Addr)} {pos : Pos} {Q : Value → Shared → Prop} (_F₀ : Fr h₀ L s.heap m)
    (hclos : closureFor scope env = pure cl) (hcell : ∀ y ∈ scope.names, y.2 ≠ .cell) (hkind : scope.kind = .function)
    (hnames : ∀ y ∈ scope.names, y.2 = .local → scope.names.lookup y.1 = some .local) (hx : scope.names.lookup x = some .local)
    (h : wpAny (model prog w) A (eval iter env) (TupSrc prog w A h₀ L m env elt x scope cl Q) E s)
    (hs : ∀ x, foldedSetIterable iter env x = pure x := by intro _; rfl) :
    wpAny (model prog w) A (eval (.ListComp elt [⟨.Name x px, iter, [], 0⟩] scope pos) env) Q E s := by
  rw [eval_ListComp]
  refine wpAny_comprehension_free (use := none) rfl hs hclos hkind hnames (wpAny_mono h (fun xv s₁ h₁ => ?_) fun _ _ e => e)
  obtain ⟨T, its, k, news, rfl, hh, F, N, hT, hsz, R⟩ := h₁
  have ht : s₁.heap.IsTuple T its := ⟨_, (N _ hT).1, rfl, k, rfl⟩
  have hlt : T < s₁.heap.objs.size := Heap.lt_size (N _ hT).1
  refine wpAny_pyIter_tuple ht ?_
  have up : ∀ b o, s₁.heap.get? b = some o → (s₁.heap.push { cls := .type "tuple_iterator", data := .fields #[.ref T, .int 0 0] }).get? b = some o := fun b o e => Heap.get?_push_of_some _ e
  refine block_U (Walks.tuple hh s₁.heap.objs.size T (Nat.ne_of_lt hlt) its) hsz (fun i h st => by obtain ⟨o, e, _⟩ := st.1; exact ⟨o, e⟩)
    (fun i h h' o nw st e e' k N S => ⟨by obtain ⟨o', q, r⟩ := st.1; rw [e] at q; cases q; exact ⟨o, e', r⟩, ⟨_, (N _ S).1, rfl, _, rfl⟩⟩)
    hcell hkind hx ⟨⟨_, Heap.get?_push_size _ rfl, rfl, rfl⟩, ht.push _⟩ (fun b hb => ?_)
    (F.keeps up) (N.grown up) (Nat.ne_of_lt F.ns.lt) (next_is_new F) (fun p hp => Nat.ne_of_lt (Heap.lt_size (N p hp).1)) hT (R _ ⟨_, rfl⟩) ?_
  · show b < (s₁.heap.push _).objs.size
    rw [Heap.size_push]
    rcases List.mem_cons.mp hb with rfl | hb
    · exact Nat.lt_succ_self _
    · rw [List.mem_singleton.mp hb]; exact Nat.lt_succ_of_lt hlt
  · intro D C h tk m' ys news' F' N' o1 hn hC₀ hD₀ hCL hDL hCD offC fin
    refine ⟨m', hn, fun h'' hs'' => fin D h'' tk (F'.change hs'' hCL hC₀) (fun p hp => ?_) o1⟩
    refine ⟨hs''.extBut _ _ ?_ (N' p hp).1, (N' p hp).2⟩
    rcases List.mem_cons.mp hp with rfl | hp
    · exact Ne.symm hCD
    · exact offC p hp
noncomputable def StepSrc (prog : Program) (w : World) (A : Around) (h₀ : Heap) (L : Addr) (m : PySem.Str → Option Value) (env : Env) (elt : PySem.Expr) (x : PySem.Str) (scope : Scope) (cl : List (PySem.Str × Addr)) (Q : Value → Shared → Prop) (xv : Value) (s₁ : Shared) : Prop :=
  ∃ r b t u v n news, xv = .ref r ∧ A.handled = none ∧ Fr h₀ L s₁.heap m ∧ News h₀ L s₁.heap news ∧ IsRange s₁.heap r 0 b 4 t u v ∧ Builtin.Range.small 0 b 4 = true ∧ Builtin.Range.rangeSize 0 b 4 = ((n : Nat) : Int) ∧ n ≤ sizeLine ∧
    ∀ s₂ : Shared, (∃ h, s₂ = { s₁ with heap := h }) → CompRest prog w A h₀ L m env elt x scope cl s₂ (fun _ => True) (fun i v => i < n ∧ ∃ t, v = .int (0 + (i : Int) * 4) t) (FinE h₀ L m s₂ Q) n 0 [] news
theorem stepSrc {elt : PySem.Expr} {x : PySem.Str} {scope : Scope} {cl : List (PySem.Str × Addr)} {Q : Value → Shared → Prop} {r : Addr} {b : Int} {t u v : Tok} {n : Nat} {news : Led} {s₁ : Shared}
    (hh : A.handled = none) (F : Fr h₀ L s₁.heap m) (N : News h₀ L s₁.heap news) (hr : IsRange s₁.heap r 0 b 4 t u v) (hsm : Builtin.Range.small 0 b 4 = true) (hn : Builtin.Range.rangeSize 0 b 4 = ((n : Nat) : Int)) (hsz : n ≤ sizeLine)
    (h : ∀ g, CompRest prog w A h₀ L m env elt x scope cl { s₁ with heap := g } (fun _ => True) (fun i v => i < n ∧ ∃ t, v = .int (0 + (i : Int) * 4) t) (FinE h₀ L m { s₁ with heap := g } Q) n 0 [] news) :
    StepSrc prog w A h₀ L m env elt x scope cl Q (.ref r) s₁ := ⟨r, b, t, u, v, n, news, rfl, hh, F, N, hr, hsm, hn, hsz, fun _ ⟨g, e⟩ => e ▸ h g⟩
theorem stepSrcG {elt : PySem.Expr} {x : PySem.Str} {scope : Scope} {cl : List (PySem.Str × Addr)} {Q : Value → Shared → Prop} {r : Addr} {b : Int} {t u v : Tok} {n : Nat} {news : Led} {s₁ : Shared}
    (hh : A.handled = none) (F : Fr h₀ L s₁.heap m) (N : News h₀ L s₁.heap news) (hr : IsRange s₁.heap r 0 b 4 t u v) (hb : b = ((4 * n : Nat) : Int)) (hn : n ≤ 3)
    (h : ∀ g, CompRest prog w A h₀ L m env elt x scope cl { s₁ with heap := g } (fun _ => True) (fun i v => i < n ∧ ∃ t, v = .int (0 + (i : Int) * 4) t) (FinE h₀ L m { s₁ with heap := g } Q) n 0 [] news) :
    StepSrc prog w A h₀ L m env elt x scope cl Q (.ref r) s₁ := by
  subst hb
  have e := range4 (4 * n)
  rw [show (4 * n + 3) / 4 = n by omega] at e
  exact stepSrc hh F N hr (small4 _ (by omega)) e (by rw [sizeLine_eq]; omega) h
theorem step_st {I : Addr} {a c : Int} {n : Nat} : ∀ i (h h' : Heap) (o : Obj) (nw : Led), IsRangeIter h I (a + (i : Nat) * c) ((n : Int) - (i : Nat)) c → h.get? I = some o → h'.get? I = some o → (∀ b o, h₀.get? b = some o → h'.get? b = some o) → News h₀ L h' nw → True → IsRangeIter h' I (a + (i : Nat) * c) ((n : Int) - (i : Nat)) c :=
  fun i h h' o nw st e e' _ _ _ => by
    have st' : h.get? I = some _ := st
    show h'.get? I = some _
    rw [e', ← e]; exact st'
theorem comp_step {elt iter : PySem.Expr} {x : PySem.Str} {px : Pos} {scope : Scope} {cl : List (PySem.Str × Addr)} {pos : Pos} {Q : Value → Shared → Prop} (_F₀ : Fr h₀ L s.heap m)
    (hclos : closureFor scope env = pure cl) (hcell : ∀ y ∈ scope.names, y.2 ≠ .cell) (hkind : scope.kind = .function)
    (hnames : ∀ y ∈ scope.names, y.2 = .local → scope.names.lookup y.1 = some .local) (hx : scope.names.lookup x = some .local)
    (h : wpAny (model prog w) A (eval iter env) (StepSrc prog w A h₀ L m env elt x scope cl Q) E s)
    (hs : ∀ x, foldedSetIterable iter env x = pure x := by intro _; rfl) :
    wpAny (model prog w) A (eval (.ListComp elt [⟨.Name x px, iter, [], 0⟩] scope pos) env) Q E s := by
  rw [eval_ListComp]
  refine wpAny_comprehension_free (use := none) rfl hs hclos hkind hnames (wpAny_mono h (fun xv s₁ h₁ => ?_) fun _ _ e => e)
  obtain ⟨r, b, t, u, v, n, news, rfl, hh, F, N, hr, hsm, hn, hsz, R⟩ := h₁
  refine wpAny_pyIter_range hr hsm ?_
  refine block_U ((Walks.range hh s₁.heap.objs.size 0 4 n).bound) hsz (fun i h st => ⟨_, st⟩) step_st hcell hkind hx (by show IsRangeIter _ _ _ _ _; rw [hn]; simpa using Heap.get?_push_size _ rfl) (fun b hb => ?_)
    (F.keeps fun _ _ e => Heap.get?_push_of_some _ e) (N.grown fun _ _ e => Heap.get?_push_of_some _ e) (Nat.ne_of_lt F.ns.lt) (next_is_new F) (fun p hp => Nat.ne_of_lt (Heap.lt_size (N p hp).1)) trivial (R _ ⟨_, rfl⟩) ?_
  · rw [List.mem_singleton.mp hb]
    show s₁.heap.objs.size < (s₁.heap.push _).objs.size
    rw [Heap.size_push]; exact Nat.lt_succ_self _
  · intro D C h' tk m' ys news' F' N' o1 hn hC₀ hD₀ hCL hDL hCD offC fin
    refine ⟨m', hn, fun h'' hs'' => fin D h'' tk (F'.change hs'' hCL hC₀) (fun p hp => ?_) o1⟩
    refine ⟨hs''.extBut _ _ ?_ (N' p hp).1, (N' p hp).2⟩
    rcases List.mem_cons.mp hp with rfl | hp
    · exact Ne.symm hCD
    · exact offC p hp
end
end
-- PlainV
theorem five_val (n : Int) (h0 : 0 ≤ n) (h1 : n < 4437053125) : ∃ s0 s1 s2 s3 s4 : Int, five n = [s0, s1, s2, s3, s4] ∧ (0 ≤ s0 ∧ s0 < 85) ∧ (0 ≤ s1 ∧ s1 < 85) ∧ (0 ≤ s2 ∧ s2 < 85) ∧ (0 ≤ s3 ∧ s3 < 85) ∧ (0 ≤ s4 ∧ s4 < 85) ∧
    n = 85 * (85 * (85 * (85 * s0 + s1) + s2) + s3) + s4 := by
  refine ⟨_, _, _, _, _, rfl, ?_⟩
  simp only [Int.fmod_eq_emod_of_nonneg _ (show (0:Int) ≤ 85 by decide), Int.fdiv_eq_ediv_of_nonneg _ (show (0:Int) ≤ 85 by decide)]
  omega
theorem four_of {a b c d n : Int} (ha : 0 ≤ a ∧ a < 256) (hb : 0 ≤ b ∧ b < 256) (hc : 0 ≤ c ∧ c < 256) (hd : 0 ≤ d ∧ d < 256) (h : n = 256 * (256 * (256 * a + b) + c) + d) : four n = [a, b, c, d] := by
  unfold four
  simp only [Int.fmod_eq_emod_of_nonneg _ (show (0:Int) ≤ 256 by decide), Int.fdiv_eq_ediv_of_nonneg _ (show (0:Int) ≤ 256 by decide), List.cons.injEq, and_true]
  omega
theorem num4 (a b c d : Int) : num [a, b, c, d] = 256 * (256 * (256 * a + b) + c) + d := by
  simp only [num, List.foldl]; omega
abbrev InO (ks : List Int) : Prop := ∀ k ∈ ks, 0 ≤ k ∧ k < 256
theorem InO.four {a b c d : Int} {r : List Int} (h : InO (a :: b :: c :: d :: r)) : (0 ≤ a ∧ a < 256) ∧ (0 ≤ b ∧ b < 256) ∧ (0 ≤ c ∧ c < 256) ∧ (0 ≤ d ∧ d < 256) ∧ InO r :=
  ⟨h a (by simp), h b (by simp), h c (by simp), h d (by simp), fun k hk => h k (by simp [hk])⟩
/-- the signs of a full group -/
theorem enc_four (a b c d : Int) (r : List Int) : enc (a :: b :: c :: d :: r) = (five (num [a, b, c, d])).map (33 + ·) ++ enc r := rfl
theorem full {a b c d : Int} {r : List Int} (h : InO (a :: b :: c :: d :: r)) : ∃ s0 s1 s2 s3 s4 : Int, enc (a :: b :: c :: d :: r) = (33 + s0) :: (33 + s1) :: (33 + s2) :: (33 + s3) :: (33 + s4) :: enc r ∧ (0 ≤ s0 ∧ s0 < 85) ∧ (0 ≤ s1 ∧ s1 < 85) ∧ (0 ≤ s2 ∧ s2 < 85) ∧ (0 ≤ s3 ∧ s3 < 85) ∧ (0 ≤ s4 ∧ s4 < 85) ∧
    256 * (256 * (256 * a + b) + c) + d = 85 * (85 * (85 * (85 * s0 + s1) + s2) + s3) + s4 := by
  obtain ⟨ha, hb, hc, hd, _⟩ := h.four
  obtain ⟨s0, s1, s2, s3, s4, e, b0, b1, b2, b3, b4, hv⟩ := five_val (num [a, b, c, d]) (by rw [num4]; omega) (by rw [num4]; omega)
  refine ⟨s0, s1, s2, s3, s4, ?_, b0, b1, b2, b3, b4, by rw [← num4]; exact hv⟩
  rw [enc_four, e]; rfl
theorem part1 {a : Int} (h : 0 ≤ a ∧ a < 256) : ∃ s0 s1 s2 s3 s4 : Int, enc [a] = [33 + s0, 33 + s1] ∧ (0 ≤ s0 ∧ s0 < 85) ∧ (0 ≤ s1 ∧ s1 < 85) ∧ (0 ≤ s2 ∧ s2 < 85) ∧ (0 ≤ s3 ∧ s3 < 85) ∧ (0 ≤ s4 ∧ s4 < 85) ∧
    256 * (256 * (256 * a)) = 85 * (85 * (85 * (85 * s0 + s1) + s2) + s3) + s4 := by
  obtain ⟨s0, s1, s2, s3, s4, e, b0, b1, b2, b3, b4, hv⟩ := five_val (num [a, 0, 0, 0]) (by rw [num4]; omega) (by rw [num4]; omega)
  rw [num4] at hv
  refine ⟨s0, s1, s2, s3, s4, ?_, b0, b1, b2, b3, b4, by omega⟩
  show ((five (num [a, 0, 0, 0])).take 2).map (33 + ·) = _
  rw [e]; rfl
theorem part2 {a b : Int} (h : 0 ≤ a ∧ a < 256) (h' : 0 ≤ b ∧ b < 256) : ∃ s0 s1 s2 s3 s4 : Int, enc [a, b] = [33 + s0, 33 + s1, 33 + s2] ∧ (0 ≤ s0 ∧ s0 < 85) ∧ (0 ≤ s1 ∧ s1 < 85) ∧ (0 ≤ s2 ∧ s2 < 85) ∧ (0 ≤ s3 ∧ s3 < 85) ∧ (0 ≤ s4 ∧ s4 < 85) ∧
    256 * (256 * (256 * a + b)) = 85 * (85 * (85 * (85 * s0 + s1) + s2) + s3) + s4 := by
  obtain ⟨s0, s1, s2, s3, s4, e, b0, b1, b2, b3, b4, hv⟩ := five_val (num [a, b, 0, 0]) (by rw [num4]; omega) (by rw [num4]; omega)
  rw [num4] at hv
  refine ⟨s0, s1, s2, s3, s4, ?_, b0, b1, b2, b3, b4, by omega⟩
  show ((five (num [a, b, 0, 0])).take 3).map (33 + ·) = _
  rw [e]; rfl
theorem part3 {a b c : Int} (h : 0 ≤ a ∧ a < 256) (h' : 0 ≤ b ∧ b < 256) (h'' : 0 ≤ c ∧ c < 256) : ∃ s0 s1 s2 s3 s4 : Int, enc [a, b, c] = [33 + s0, 33 + s1, 33 + s2, 33 + s3] ∧ (0 ≤ s0 ∧ s0 < 85) ∧ (0 ≤ s1 ∧ s1 < 85) ∧ (0 ≤ s2 ∧ s2 < 85) ∧ (0 ≤ s3 ∧ s3 < 85) ∧ (0 ≤ s4 ∧ s4 < 85) ∧
    256 * (256 * (256 * a + b) + c) = 85 * (85 * (85 * (85 * s0 + s1) + s2) + s3) + s4 := by
  obtain ⟨s0, s1, s2, s3, s4, e, b0, b1, b2, b3, b4, hv⟩ := five_val (num [a, b, c, 0]) (by rw [num4]; omega) (by rw [num4]; omega)
  rw [num4] at hv
  refine ⟨s0, s1, s2, s3, s4, ?_, b0, b1, b2, b3, b4, by omega⟩
  show ((five (num [a, b, c, 0])).take 4).map (33 + ·) = _
  rw [e]; rfl
theorem val5_5 (a b c d e : Int) : val5 [a, b, c, d, e] = 85 * (85 * (85 * (85 * a + b) + c) + d) + e := by
  show List.foldl (fun a k => 85 * a + k) 0 [a, b, c, d, e] = _
  simp only [List.foldl]; omega
theorem val5_4 (a b c d : Int) : val5 [a, b, c, d] = 85 * (85 * (85 * (85 * a + b) + c) + d) + 84 := by
  show List.foldl (fun a k => 85 * a + k) 0 [a, b, c, d, 84] = _
  simp only [List.foldl]; omega
theorem val5_3 (a b c : Int) : val5 [a, b, c] = 85 * (85 * (85 * (85 * a + b) + c) + 84) + 84 := by
  show List.foldl (fun a k => 85 * a + k) 0 [a, b, c, 84, 84] = _
  simp only [List.foldl]; omega
theorem val5_2 (a b : Int) : val5 [a, b] = 85 * (85 * (85 * (85 * a + b) + 84) + 84) + 84 := by
  show List.foldl (fun a k => 85 * a + k) 0 [a, b, 84, 84, 84] = _
  simp only [List.foldl]; omega
theorem sub33 (s : Int) : 33 + s - 33 = s := by omega
theorem quads {P : List Int → Prop} (h4 : ∀ a b c d r, P r → P (a :: b :: c :: d :: r)) (h0 : P []) (h1 : ∀ a, P [a]) (h2 : ∀ a b, P [a, b]) (h3 : ∀ a b c, P [a, b, c]) : ∀ l, P l
  | [] => h0
  | [a] => h1 a
  | [a, b] => h2 a b
  | [a, b, c] => h3 a b c
  | a :: b :: c :: d :: r => h4 a b c d r (quads h4 h0 h1 h2 h3 r)
theorem dec_enc : ∀ ks : List Int, InO ks → dec (enc ks) = ks ∧ okG (enc ks) := by
  refine quads ?_ ?_ ?_ ?_ ?_
  · intro a b c d r ih h
    obtain ⟨s0, s1, s2, s3, s4, e, b0, b1, b2, b3, b4, hv⟩ := full h
    obtain ⟨ha, hb, hc, hd, hr⟩ := h.four
    rw [e]
    obtain ⟨i1, i2⟩ := ih hr
    refine ⟨?_, ?_, i2⟩
    · rw [dec, i1]
      simp only [sub33]
      unfold oct
      rw [val5_5, ← hv, four_of ha hb hc hd rfl]; rfl
    · simp only [sub33]
      rw [val5_5, ← hv]; omega
  · intro _; exact ⟨rfl, trivial⟩
  · intro a h
    have ha := h a (by simp)
    obtain ⟨s0, s1, s2, s3, s4, e, b0, b1, b2, b3, b4, hv⟩ := part1 ha
    rw [e]
    have hval := val5_2 s0 s1
    refine ⟨?_, ?_⟩
    · show oct [33 + s0 - 33, 33 + s1 - 33] = _
      simp only [sub33]
      unfold oct
      rw [hval]
      have : ∃ b c d : Int, (0 ≤ b ∧ b < 256) ∧ (0 ≤ c ∧ c < 256) ∧ (0 ≤ d ∧ d < 256) ∧ 85 * (85 * (85 * (85 * s0 + s1) + 84) + 84) + 84 = 256 * (256 * (256 * a + b) + c) + d := by
        generalize hV : 85 * (85 * (85 * (85 * s0 + s1) + 84) + 84) + 84 = V
        have hlo : 16777216 * a ≤ V := by omega
        have hhi : V < 16777216 * a + 16777216 := by omega
        exact ⟨V / 65536 - 256 * a, V / 256 % 256, V % 256, by omega, by omega, by omega, by omega⟩
      obtain ⟨b, c, d, hb, hc, hd, hh⟩ := this
      rw [four_of ha hb hc hd hh]; rfl
    · show val5 [33 + s0 - 33, 33 + s1 - 33] ≤ _
      simp only [sub33]
      rw [hval]; omega
  · intro a b h
    have ha := h a (by simp)
    have hb := h b (by simp)
    obtain ⟨s0, s1, s2, s3, s4, e, b0, b1, b2, b3, b4, hv⟩ := part2 ha hb
    rw [e]
    have hval := val5_3 s0 s1 s2
    refine ⟨?_, ?_⟩
    · show oct [33 + s0 - 33, 33 + s1 - 33, 33 + s2 - 33] = _
      simp only [sub33]
      unfold oct
      rw [hval]
      have : ∃ c d : Int, (0 ≤ c ∧ c < 256) ∧ (0 ≤ d ∧ d < 256) ∧ 85 * (85 * (85 * (85 * s0 + s1) + s2) + 84) + 84 = 256 * (256 * (256 * a + b) + c) + d := by
        generalize hV : 85 * (85 * (85 * (85 * s0 + s1) + s2) + 84) + 84 = V
        have hlo : 16777216 * a + 65536 * b ≤ V := by omega
        have hhi : V < 16777216 * a + 65536 * b + 65536 := by omega
        exact ⟨V / 256 - 65536 * a - 256 * b, V % 256, by omega, by omega, by omega⟩
      obtain ⟨c, d, hc, hd, hh⟩ := this
      rw [four_of ha hb hc hd hh]; rfl
    · show val5 [33 + s0 - 33, 33 + s1 - 33, 33 + s2 - 33] ≤ _
      simp only [sub33]
      rw [hval]; omega
  · intro a b c h
    have ha := h a (by simp)
    have hb := h b (by simp)
    have hc := h c (by simp)
    obtain ⟨s0, s1, s2, s3, s4, e, b0, b1, b2, b3, b4, hv⟩ := part3 ha hb hc
    rw [e]
    have hval := val5_4 s0 s1 s2 s3
    refine ⟨?_, ?_⟩
    · show oct [33 + s0 - 33, 33 + s1 - 33, 33 + s2 - 33, 33 + s3 - 33] = _
      simp only [sub33]
      unfold oct
      rw [hval]
      have : ∃ d : Int, (0 ≤ d ∧ d < 256) ∧ 85 * (85 * (85 * (85 * s0 + s1) + s2) + s3) + 84 = 256 * (256 * (256 * a + b) + c) + d := by
        generalize hV : 85 * (85 * (85 * (85 * s0 + s1) + s2) + s3) + 84 = V
        have hlo : 16777216 * a + 65536 * b + 256 * c ≤ V := by omega
        have hhi : V < 16777216 * a + 65536 * b + 256 * c + 256 := by omega
        exact ⟨V % 256, by omega, by omega⟩
      obtain ⟨d, hd, hh⟩ := this
      rw [four_of ha hb hc hd hh]; rfl
    · show val5 [33 + s0 - 33, 33 + s1 - 33, 33 + s2 - 33, 33 + s3 - 33] ≤ _
      simp only [sub33]
      rw [hval]; omega
theorem enc_len : ∀ ks : List Int, InO ks → (enc ks).length = ks.length / 4 * 5 + (if ks.length % 4 = 0 then 0 else ks.length % 4 + 1) := by
  refine quads ?_ ?_ ?_ ?_ ?_
  · intro a b c d r ih h
    obtain ⟨s0, s1, s2, s3, s4, e, b0, b1, b2, b3, b4, hv⟩ := full h
    rw [e]
    have := ih h.four.2.2.2.2
    simp only [List.length_cons]
    rw [this]
    rw [show (r.length + 1 + 1 + 1 + 1) % 4 = r.length % 4 by omega]
    split <;> omega
  · intro _; rfl
  · intro a h
    obtain ⟨s0, s1, s2, s3, s4, e, _⟩ := part1 (h a (by simp))
    rw [e]; simp
  · intro a b h
    obtain ⟨s0, s1, s2, s3, s4, e, _⟩ := part2 (h a (by simp)) (h b (by simp))
    rw [e]; simp
  · intro a b c h
    obtain ⟨s0, s1, s2, s3, s4, e, _⟩ := part3 (h a (by simp)) (h b (by simp)) (h c (by simp))
    rw [e]; simp
theorem enc_app : ∀ (g : Nat) (p l : List Int), p.length = 4 * g → enc (p ++ l) = enc p ++ enc l
  | 0, p, l, h => by
    have : p = [] := List.eq_nil_of_length_eq_zero (by omega)
    subst this; rfl
  | g + 1, p, l, h => by
    match p, h with
    | [], h => simp at h
    | [_], h => simp at h; omega
    | [_, _], h => simp at h; omega
    | [_, _, _], h => simp at h; omega
    | a :: b :: c :: d :: r, h =>
      have hr : r.length = 4 * g := by simp at h; omega
      show (five (num [a, b, c, d])).map (33 + ·) ++ enc (r ++ l) = ((five (num [a, b, c, d])).map (33 + ·) ++ enc r) ++ enc l
      rw [enc_app g r l hr, List.append_assoc]
theorem worth5 (s0 s1 s2 s3 s4 : Int) : worth [33 + s0, 33 + s1, 33 + s2, 33 + s3, 33 + s4] = 85 * (85 * (85 * (85 * s0 + s1) + s2) + s3) + s4 := by
  simp only [worth, List.foldl]; omega
theorem worth_at : ∀ (i : Nat) (ks e : List Int), InO ks → 4 * i + 4 ≤ ks.length → worth (((enc ks ++ e).drop (5 * i)).take 5) = num ((ks.drop (4 * i)).take 4) := by
  intro i
  induction i with
  | zero =>
    intro ks e h hl
    match ks, hl with
    | a :: b :: c :: d :: r, _ =>
      obtain ⟨s0, s1, s2, s3, s4, e', b0, b1, b2, b3, b4, hv⟩ := full h
      rw [e']
      show worth [33 + s0, 33 + s1, 33 + s2, 33 + s3, 33 + s4] = num [a, b, c, d]
      rw [worth5, num4, hv]
  | succ i ih =>
    intro ks e h hl
    match ks, hl with
    | a :: b :: c :: d :: r, hl =>
      obtain ⟨s0, s1, s2, s3, s4, e', _⟩ := full h
      rw [e']
      simp only [List.length_cons] at hl
      have := ih r e h.four.2.2.2.2 (by omega)
      rw [show 5 * (i + 1) = 5 * i + 5 by omega, show 4 * (i + 1) = 4 * i + 4 by omega]
      exact this
/-- less by the first that parts -/
noncomputable def ltI : List Int → List Int → Bool
  | [], [] => false
  | [], _ :: _ => true
  | _ :: _, [] => false
  | x :: xs, y :: ys => if x < y then true else if y < x then false else ltI xs ys
theorem order_lt : ∀ (l r : List UInt8), (Builtin.Bytes.order l r == .lt) = ltI (l.map fun c => (c.toNat : Int)) (r.map fun c => (c.toNat : Int))
  | [], [] => rfl
  | [], _ :: _ => rfl
  | _ :: _, [] => rfl
  | x :: xs, y :: ys => by
    simp only [Builtin.Bytes.order, List.map_cons, ltI]
    have h1 : (x < y) ↔ ((x.toNat : Int) < (y.toNat : Int)) := by rw [UInt8.lt_iff_toNat_lt]; omega
    have h2 : (x > y) ↔ ((y.toNat : Int) < (x.toNat : Int)) := by rw [show (x > y) = (y < x) from rfl, UInt8.lt_iff_toNat_lt]; omega
    by_cases a : x < y
    · rw [if_pos a, if_pos (h1.mp a)]; rfl
    · rw [if_neg a, if_neg (fun q => a (h1.mpr q))]
      by_cases b : x > y
      · rw [if_pos b, if_pos (h2.mp b)]; rfl
      · rw [if_neg b, if_neg (fun q => b (h2.mpr q)), order_lt xs ys]
theorem map_inj : ∀ (l r : List UInt8), l.map (fun c => (c.toNat : Int)) = r.map (fun c => (c.toNat : Int)) → l = r
  | [], [], _ => rfl
  | [], _ :: _, h => by simp at h
  | _ :: _, [], h => by simp at h
  | x :: xs, y :: ys, h => by
    simp only [List.map_cons, List.cons.injEq] at h
    rw [map_inj xs ys h.2, show x = y from UInt8.toNat_inj.mp (by omega)]
theorem ltI_self : ∀ l : List Int, ltI l l = false
  | [] => rfl
  | x :: xs => by simp only [ltI, if_neg (Int.lt_irrefl x)]; exact ltI_self xs
theorem ltI_pre (p : List Int) : ∀ {l r : List Int}, ltI (p ++ l) (p ++ r) = ltI l r := by
  induction p with
  | nil => intro l r; rfl
  | cons x p ih => intro l r; simp only [List.cons_append, ltI, if_neg (Int.lt_irrefl x)]; exact ih
/-- which of two numbers is less, else what is said of the rest -/
noncomputable def sel (x y : Int) (k : Bool) : Bool := if x < y then true else if y < x then false else k
theorem sel_lt {x y : Int} {k : Bool} (h : x < y) : sel x y k = true := if_pos h
theorem sel_gt {x y : Int} {k : Bool} (h : y < x) : sel x y k = false := by unfold sel; rw [if_neg (by omega), if_pos h]
theorem sel_eq {x y : Int} {k : Bool} (h : x = y) : sel x y k = k := by subst h; unfold sel; rw [if_neg (Int.lt_irrefl x), if_neg (Int.lt_irrefl x)]
theorem sel256 {x y e e' : Int} {k : Bool} (h : 0 ≤ e ∧ e < 256) (h' : 0 ≤ e' ∧ e' < 256) : sel x y (sel e e' k) = sel (256 * x + e) (256 * y + e') k := by
  rcases Int.lt_trichotomy x y with q | rfl | q
  · rw [sel_lt q, sel_lt (by omega)]
  · rw [sel_eq rfl]
    rcases Int.lt_trichotomy e e' with q | rfl | q
    · rw [sel_lt q, sel_lt (by omega)]
    · rw [sel_eq rfl, sel_eq rfl]
    · rw [sel_gt q, sel_gt (by omega)]
  · rw [sel_gt q, sel_gt (by omega)]
theorem sel85 {x y e e' : Int} {k : Bool} (h : 0 ≤ e ∧ e < 85) (h' : 0 ≤ e' ∧ e' < 85) : sel x y (sel e e' k) = sel (85 * x + e) (85 * y + e') k := by
  rcases Int.lt_trichotomy x y with q | rfl | q
  · rw [sel_lt q, sel_lt (by omega)]
  · rw [sel_eq rfl]
    rcases Int.lt_trichotomy e e' with q | rfl | q
    · rw [sel_lt q, sel_lt (by omega)]
    · rw [sel_eq rfl, sel_eq rfl]
    · rw [sel_gt q, sel_gt (by omega)]
  · rw [sel_gt q, sel_gt (by omega)]
theorem sel33 {x y : Int} {k : Bool} : sel (33 + x) (33 + y) k = sel x y k := by
  unfold sel
  simp only [Int.add_lt_add_iff_left]
theorem ltI4 {a b c d a' b' c' d' : Int} {r r' : List Int} (hb : 0 ≤ b ∧ b < 256) (hc : 0 ≤ c ∧ c < 256) (hd : 0 ≤ d ∧ d < 256) (hb' : 0 ≤ b' ∧ b' < 256) (hc' : 0 ≤ c' ∧ c' < 256) (hd' : 0 ≤ d' ∧ d' < 256) :
    ltI (a :: b :: c :: d :: r) (a' :: b' :: c' :: d' :: r') = sel (256 * (256 * (256 * a + b) + c) + d) (256 * (256 * (256 * a' + b') + c') + d') (ltI r r') := by
  show sel a a' (sel b b' (sel c c' (sel d d' (ltI r r')))) = _
  rw [sel256 hb hb', sel256 hc hc', sel256 hd hd']
theorem ltI5 {a b c d e a' b' c' d' e' : Int} {r r' : List Int} (hb : 0 ≤ b ∧ b < 85) (hc : 0 ≤ c ∧ c < 85) (hd : 0 ≤ d ∧ d < 85) (he : 0 ≤ e ∧ e < 85) (hb' : 0 ≤ b' ∧ b' < 85) (hc' : 0 ≤ c' ∧ c' < 85) (hd' : 0 ≤ d' ∧ d' < 85) (he' : 0 ≤ e' ∧ e' < 85) :
    ltI ((33 + a) :: (33 + b) :: (33 + c) :: (33 + d) :: (33 + e) :: r) ((33 + a') :: (33 + b') :: (33 + c') :: (33 + d') :: (33 + e') :: r') = sel (85 * (85 * (85 * (85 * a + b) + c) + d) + e) (85 * (85 * (85 * (85 * a' + b') + c') + d') + e') (ltI r r') := by
  show sel (33 + a) (33 + a') (sel (33 + b) (33 + b') (sel (33 + c) (33 + c') (sel (33 + d) (33 + d') (sel (33 + e) (33 + e') (ltI r r'))))) = _
  rw [sel33, sel33, sel33, sel33, sel33, sel85 hb hb', sel85 hc hc', sel85 hd hd', sel85 he he']
theorem ltI_enc : ∀ (g : Nat) (ks ls e : List Int), InO ks → InO ls → ks.length = 4 * g → ls.length = 4 * g → ltI (enc ks ++ e) (enc ls ++ e) = ltI ks ls
  | 0, ks, ls, e, _, _, h, h' => by
    have : ks = [] := List.eq_nil_of_length_eq_zero (by omega)
    have : ls = [] := List.eq_nil_of_length_eq_zero (by omega)
    subst ks; subst ls
    exact ltI_self _
  | g + 1, ks, ls, e, hk, hl, h, h' => by
    match ks, h with
    | a :: b :: c :: d :: r, h =>
    match ls, h' with
    | a' :: b' :: c' :: d' :: r', h' =>
    obtain ⟨ha, hb, hc, hd, hr⟩ := hk.four
    obtain ⟨ha', hb', hc', hd', hr'⟩ := hl.four
    obtain ⟨s0, s1, s2, s3, s4, e1, b0, b1, b2, b3, b4, hv⟩ := full hk
    obtain ⟨u0, u1, u2, u3, u4, e2, c0, c1, c2, c3, c4, hw⟩ := full hl
    rw [e1, e2]
    simp only [List.cons_append]
    rw [ltI5 b1 b2 b3 b4 c1 c2 c3 c4, ltI4 hb hc hd hb' hc' hd', hv, hw, ltI_enc g r r' e hr hr' (by simp at h; omega) (by simp at h'; omega)]
theorem enc_inj {ks ls e : List Int} (hk : InO ks) (hl : InO ls) : enc ks ++ e = enc ls ++ e ↔ ks = ls := by
  constructor
  · intro h
    rw [← (dec_enc ks hk).1, ← (dec_enc ls hl).1, List.append_cancel_right h]
  · rintro rfl; rfl
-- V9L
theorem size4 {b : Array UInt8} {x0 x1 x2 x3 : Int} (h : KBw.bInts b = [x0, x1, x2, x3]) : b.size = 4 := by rw [← KBw.ints_length, h]; rfl
structure NZ (a b c d : Int) : Prop where
  out : ¬ (a = 0 ∧ b = 0 ∧ c = 0 ∧ d = 0)
noncomputable def Good (b : Array UInt8) : Prop := ∃ g, 1 ≤ g ∧ g ≤ 3 ∧ (KBw.bInts b).length = 4 * g ∧ noZ (KBw.bInts b)
theorem good1 {b0 : Array UInt8} {a0 a1 a2 a3 : Int} (h0 : KBw.bInts b0 = [a0, a1, a2, a3]) (z0 : NZ a0 a1 a2 a3) : Good b0 := ⟨1, by decide, by decide, by rw [h0]; rfl, by rw [h0]; exact ⟨z0.out, trivial⟩⟩
theorem good2 {b0 b1 : Array UInt8} {a0 a1 a2 a3 c0 c1 c2 c3 : Int} (h0 : KBw.bInts b0 = [a0, a1, a2, a3]) (z0 : NZ a0 a1 a2 a3) (h1 : KBw.bInts b1 = [c0, c1, c2, c3]) (z1 : NZ c0 c1 c2 c3) : Good (b0 ++ b1) :=
  ⟨2, by decide, by decide, by rw [KBw.ints_app h0 h1]; rfl, by rw [KBw.ints_app h0 h1]; exact ⟨z0.out, z1.out, trivial⟩⟩
theorem good3 {b0 b1 b2 : Array UInt8} {a0 a1 a2 a3 c0 c1 c2 c3 d0 d1 d2 d3 : Int} (h0 : KBw.bInts b0 = [a0, a1, a2, a3]) (z0 : NZ a0 a1 a2 a3) (h1 : KBw.bInts b1 = [c0, c1, c2, c3]) (z1 : NZ c0 c1 c2 c3) (h2 : KBw.bInts b2 = [d0, d1, d2, d3]) (z2 : NZ d0 d1 d2 d3) : Good (b0 ++ b1 ++ b2) :=
  ⟨3, by decide, by decide, by rw [KBw.ints_app (KBw.ints_app h0 h1) h2]; rfl, by rw [KBw.ints_app (KBw.ints_app h0 h1) h2]; exact ⟨z0.out, z1.out, z2.out, trivial⟩⟩
theorem urn_start {h₀ h : Heap} {L u l sl d e : Addr} {k : Int} {tk : Tok} {n n' : Nat} {vs : List Value} {ns : List Int} {os od oe : Obj}
    (N : News h₀ L h (urnLed u l k tk n n' vs [(sl, os), (d, od), (e, oe)])) (hI : IntsAre vs ns) (hl : ns.length ≤ 64) (h0 : 0 ≤ k) (h1 : k ≤ 2000000) (l1 : l < u ∧ sl < u ∧ d < u ∧ e < u) (o1 : sl ≠ l ∧ d ≠ l ∧ e ≠ l) :
    Urn u l k tk n n' vs ns [(d, od), (e, oe)] ∧ News h₀ L h (urnLed u l k tk n n' vs [(d, od), (e, oe)]) := by
  refine ⟨⟨⟨Ne.symm (Nat.ne_of_lt l1.1)⟩, ?_, ?_, hI, hl, h0, h1⟩, news_sub N fun p hp => ?_⟩
  · intro p hp
    simp only [List.mem_cons, List.not_mem_nil, or_false] at hp
    rcases hp with rfl | rfl
    · exact Nat.ne_of_lt l1.2.2.1
    · exact Nat.ne_of_lt l1.2.2.2
  · intro p hp
    simp only [List.mem_cons, List.not_mem_nil, or_false] at hp
    rcases hp with rfl | rfl
    · exact o1.2.1
    · exact o1.2.2
  · simp only [List.mem_cons, List.not_mem_nil, or_false] at hp ⊢
    rcases hp with h | h | h | h <;> simp [h]
theorem three_cases {x : Int} (h0 : 0 ≤ x) (h4 : x < 3) : x = 0 ∨ x = 1 ∨ x = 2 := by omega
inductive EndS (P : Shared → Prop) : Flow → Shared → Prop
  | intro {s : Shared} (h : P s) : EndS P .next s
theorem mid {M : Model} {A : Around} {E : Value → Shared → Prop} {s : Shared} {env : Env} {st : Stmt} {rest : List Stmt} {Q : Flow → Shared → Prop} (P : Shared → Prop)
    (h1 : wpAny M A (exec st env) (EndS P) E s) (h2 : ∀ s', P s' → wpAny M A (execs rest env) Q E s') : wpAny M A (execs (st :: rest) env) Q E s :=
  execs_mid P (wpAny_mono h1 (fun f s' h => by cases h with | intro h => exact h) fun _ _ e => e) h2
theorem mem2 {q : Addr × Obj} {c e : Addr} {oc oe : Obj} {x : Addr} (h1 : c ≠ x) (h2 : e ≠ x) : ∀ p ∈ [(c, oc), (e, oe)], p.1 ≠ x := by
  intro p hp
  simp only [List.mem_cons, List.not_mem_nil, or_false] at hp
  rcases hp with rfl | rfl
  · exact h1
  · exact h2
theorem Urn.recell {u l c e : Addr} {k : Int} {tk : Tok} {n n' : Nat} {vs : List Value} {ns : List Int} {oc oe oc' oe' : Obj} (h : Urn u l k tk n n' vs ns [(c, oc), (e, oe)]) : Urn u l k tk n n' vs ns [(c, oc'), (e, oe')] :=
  ⟨h.apart, mem2 (q := (c, oc)) (h.offU _ (.head _)) (h.offU _ (.tail _ (.head _))), mem2 (q := (c, oc)) (h.offL _ (.head _)) (h.offL _ (.tail _ (.head _))), h.nums, h.len, h.lo, h.hi⟩
abbrev Facts (u l c e : Addr) (X : Prop) : Prop := NeA u l → NeA c u → NeA c l → NeA e u → NeA e l → NeA e c → X
theorem facts {u l c e : Addr} {k : Int} {tk : Tok} {n n' : Nat} {vs : List Value} {ns : List Int} {oc oe : Obj} {X : Prop} (h : Urn u l k tk n n' vs ns [(c, oc), (e, oe)]) (hec : e ≠ c) (f : Facts u l c e X) : X :=
  f h.apart ⟨h.offU _ (.head _)⟩ ⟨h.offL _ (.head _)⟩ ⟨h.offU _ (.tail _ (.head _))⟩ ⟨h.offL _ (.tail _ (.head _))⟩ ⟨hec⟩
theorem Good.bounds {b : Array UInt8} (h : Good b) : 4 ≤ (KBw.bInts b).length ∧ (KBw.bInts b).length ≤ 12 ∧ 4 ≤ b.size ∧ b.size ≤ 12 := by
  obtain ⟨g, h1, h2, h3, _⟩ := h
  have := KBw.ints_length b
  omega
theorem Good.nz {b : Array UInt8} (h : Good b) : noZ (KBw.bInts b) := by
  obtain ⟨g, h1, h2, h3, h4⟩ := h
  exact h4
theorem Good.m4 {b : Array UInt8} (h : Good b) : (KBw.bInts b).length % 4 = 0 := by
  obtain ⟨g, h1, h2, h3, h4⟩ := h
  omega
theorem inO (b : Array UInt8) : InO (KBw.bInts b) := fun _ hk => KBw.ints_in hk
abbrev FactsB (b : Array UInt8) (X : Prop) : Prop := ∀ ks, KBw.bInts b = ks → noZ ks → InO ks → ks.length % 4 = 0 → 4 ≤ ks.length → ks.length ≤ 12 → 4 ≤ b.size → b.size ≤ 12 → X
theorem factsB {b : Array UInt8} {X : Prop} (h : Good b) (f : FactsB b X) : X := f _ rfl h.nz (inO b) h.m4 h.bounds.1 h.bounds.2.1 h.bounds.2.2.1 h.bounds.2.2.2
abbrev FactsC (b0 b : Array UInt8) (X : Prop) : Prop := ∀ ks ls, KBw.bInts b0 = ks → KBw.bInts b = ls → noZ ks → noZ ls → InO ks → InO ls → ls.length = ks.length → ks.length % 4 = 0 → 4 ≤ ks.length → ks.length ≤ 12 → X
theorem factsC {b0 b : Array UInt8} {X : Prop} (h0 : Good b0) (h : Good b) (hl : (KBw.bInts b).length = (KBw.bInts b0).length) (f : FactsC b0 b X) : X := f _ _ rfl rfl h0.nz h.nz (inO b0) (inO b) hl h0.m4 h0.bounds.1 h0.bounds.2.1
theorem same_map {m : PySem.Str → Option Value} (x : PySem.Str) : m = fun y => if y = x then m x else m y := by
  funext y
  by_cases h : y = x
  · simp [h]
  · simp [h]
theorem same_F {h₀ h : Heap} {L : Addr} {m : PySem.Str → Option Value} (F : Fr h₀ L h m) (x : PySem.Str) : Fr h₀ L h (fun y => if y = x then m x else m y) := by rw [← same_map x]; exact F
theorem lt_K {prog : Program} {w : World} {A : Around} {E : Value → Shared → Prop} {s : Shared} {b c : Array UInt8} {t u : Tok} {ks ls : List Int} {v : Bool} {Q : Value → Shared → Prop} (hb : KBw.bInts b = ks) (hc : KBw.bInts c = ls) (hv : ltI ks ls = v) (h : Q (.bool v) s) :
    wpAny (model prog w) A (compareOp .Lt (.bytes b t) (.bytes c u)) Q E s := by
  refine lt_bytes ?_
  rw [order_lt]
  subst hb hc hv
  exact h
theorem eq_K {prog : Program} {w : World} {A : Around} {E : Value → Shared → Prop} {s : Shared} {b c : Array UInt8} {t u : Tok} {ks ls : List Int} {v : Bool} {Q : Value → Shared → Prop} (hb : KBw.bInts b = ks) (hc : KBw.bInts c = ls) (hv : decide (ks = ls) = v) (h : Q (.bool v) s) :
    wpAny (model prog w) A (compareOp .Eq (.bytes b t) (.bytes c u)) Q E s := by
  refine eq_bytes ?_
  have e : (b.toList == c.toList) = v := by
    rw [← hv, Bool.eq_iff_iff, beq_iff_eq, decide_eq_true_eq, ← hb, ← hc]
    exact ⟨fun h => by unfold KBw.bInts; rw [h], fun h => map_inj _ _ h⟩
  rw [e]; exact h
theorem ne_K {prog : Program} {w : World} {A : Around} {E : Value → Shared → Prop} {s : Shared} {b c : Array UInt8} {t u : Tok} {Q : Value → Shared → Prop} (hb : KBw.bInts b = KBw.bInts c) (h : Q (.bool false) s) :
    wpAny (model prog w) A (compareOp .NotEq (.bytes b t) (.bytes c u)) Q E s := by
  refine ne_bytes ?_
  rw [map_inj _ _ hb, bne_self_eq_false]
  exact h
theorem s5_split {ks ls : List Int} {X : Prop} (hl : ls.length = ks.length) (hm : ks.length % 4 = 0) (hk : InO ks) (hk' : InO ls)
    (f : ∀ x y, ltI ks ls = x → ltI (enc ks ++ [126, 62]) (enc ls ++ [126, 62]) = x → decide (ks = ls) = y → decide (enc ks ++ [126, 62] = enc ls ++ [126, 62]) = y → X) : X :=
  f _ _ rfl (ltI_enc (ks.length / 4) ks ls _ hk hk' (by omega) (by omega)) rfl (by rw [Bool.eq_iff_iff, decide_eq_true_eq, decide_eq_true_eq]; exact enc_inj hk hk')
theorem s6_facts {b b9 : Array UInt8} {ks : List Int} {X : Prop} (h : KBw.bInts b = ks) (h9 : KBw.bInts b9 = enc ks ++ [126, 62]) (hi : InO ks) (hm : ks.length % 4 = 0) (h4 : 4 ≤ ks.length) (h12 : ks.length ≤ 12)
    (f : ∀ g cs, KBw.bInts b = ks → KBw.bInts b9 = cs → cs = enc ks ++ [126, 62] → InO ks → ks.length = 4 * g → cs.length = 5 * g + 2 → (enc ks).length = 5 * g → 1 ≤ g → g ≤ 3 → X) : X := by
  have hl := enc_len ks hi
  rw [hm, if_pos rfl] at hl
  refine f (ks.length / 4) _ h h9 rfl hi (by omega) ?_ (by omega) (by omega) (by omega)
  rw [List.length_append, hl]
  simp only [List.length_cons, List.length_nil]; omega
theorem clip_neg {n : Nat} {x : Int} {k : Nat} (h0 : x < 0) (h : x + n = k) : clipAt n x = k := by
  obtain ⟨j, rfl⟩ : ∃ j : Nat, x = -(j : Int) := ⟨x.natAbs, by omega⟩
  unfold clipAt; simp; omega
theorem slice_V {prog : Program} {w : World} {A : Around} {E : Value → Shared → Prop} {s : Shared} {value slice : PySem.Expr} {b : Array UInt8} {t : Tok} {h₀ : Heap} {L : Addr} {m : PySem.Str → Option Value} {news : List (Addr × Obj)} {l u : Value} {lo hi : Option Int} {Q : Value → Shared → Prop} {ks ws : List Int}
    (hF : Fr h₀ L s.heap m) (hN : News h₀ L s.heap news) (hk : KBw.bInts b = ks) (hl : IsPart l lo) (hu : IsPart u hi) (hz : ks.length ≤ 16777216)
    (hv : (ks.drop (lo.elim 0 (clipAt ks.length))).take (hi.elim ks.length (clipAt ks.length) - lo.elim 0 (clipAt ks.length)) = ws)
    (h : ∀ h' t' k, Fr h₀ L h' m → News h₀ L h' news → KBw.bInts (KBy.picked b lo hi) = ws → Q (.bytes (KBy.picked b lo hi) t') { s with heap := h', toks := k })
    (hs : subscripted slice false (.bytes b t) (.ref s.heap.objs.size) = operate [.ref s.heap.objs.size, .bytes b t] (getItem (.bytes b t) (.ref s.heap.objs.size)) := by with_unfolding_all rfl)
    (ht : ∀ r, letTemporaryGo value (.bytes b t) r = pure () := by intro _; with_unfolding_all rfl) :
    wpAny (model prog w) A (subscriptTail value slice (.bytes b t) (.ref s.heap.objs.size)) Q E { s with heap := s.heap.push { cls := .type "slice", data := .fields #[l, u, .none] } } :=
  KBc.slice_K hF hN hk hl hu hz (fun h' t' k F N e => h h' t' k F N (e.trans hv)) hs ht
theorem sl_tail2 {cs l : List Int} {x : Int} (hc : cs = l ++ [126, 62]) (hx : x = -2) : (cs.drop ((some x).elim 0 (clipAt cs.length))).take ((none : Option Int).elim cs.length (clipAt cs.length) - (some x).elim 0 (clipAt cs.length)) = [126, 62] := by
  subst hc hx
  simp only [Option.elim]
  rw [clip_neg (k := l.length) (by decide) (by simp; omega)]
  simp
theorem sl_init2 {cs l : List Int} {x : Int} (hc : cs = l ++ [126, 62]) (hx : x = -2) : (cs.drop ((none : Option Int).elim 0 (clipAt cs.length))).take ((some x).elim cs.length (clipAt cs.length) - (none : Option Int).elim 0 (clipAt cs.length)) = l := by
  subst hc hx
  simp only [Option.elim]
  rw [clip_neg (k := l.length) (by decide) (by simp; omega)]
  simp
theorem sl_mid {cs : List Int} {x y : Int} {i j : Nat} (hx : x = (i : Int)) (hy : y = (j : Int)) (hj : j ≤ cs.length) (hi : i ≤ j) : (cs.drop ((some x).elim 0 (clipAt cs.length))).take ((some y).elim cs.length (clipAt cs.length) - (some x).elim 0 (clipAt cs.length)) = (cs.drop i).take (j - i) := by
  subst hx hy
  simp only [Option.elim]
  rw [clipAt_nat, clipAt_nat, Nat.min_eq_left hj, Nat.min_eq_left (by omega)]
theorem sl_pre {cs p r : List Int} {y : Int} (hc : cs = p ++ r) (hy : y = (p.length : Int)) : (cs.drop ((none : Option Int).elim 0 (clipAt cs.length))).take ((some y).elim cs.length (clipAt cs.length) - (none : Option Int).elim 0 (clipAt cs.length)) = p := by
  subst hc hy
  simp only [Option.elim]
  rw [clipAt_nat, Nat.min_eq_left (by simp)]
  simp
theorem sl_in2 {cs p q : List Int} {x y : Int} (hc : cs = p ++ q ++ [126, 62]) (hx : x = (p.length : Int)) (hy : y = -2) : (cs.drop ((some x).elim 0 (clipAt cs.length))).take ((some y).elim cs.length (clipAt cs.length) - (some x).elim 0 (clipAt cs.length)) = q := by
  subst hc hx hy
  simp only [Option.elim]
  rw [clipAt_nat, Nat.min_eq_left (by simp), clip_neg (k := (p ++ q).length) (by decide) (by simp; omega)]
  simp
theorem sl_in {cs p q r : List Int} {x y : Int} (hc : cs = p ++ q ++ r) (hx : x = (p.length : Int)) (hy : y = ((p ++ q).length : Int)) : (cs.drop ((some x).elim 0 (clipAt cs.length))).take ((some y).elim cs.length (clipAt cs.length) - (some x).elim 0 (clipAt cs.length)) = q := by
  subst hc hx hy
  simp only [Option.elim]
  rw [clipAt_nat, Nat.min_eq_left (by simp), clipAt_nat, Nat.min_eq_left (by simp)]
  simp
theorem worthV_ok (w : World) (news : Led) (b : Array UInt8) (tb : Tok) (ks : List Int) (V : Int) :
    Ctr PR w (hd.heap_39 w.params) hd.view_39 LO 121 2 16 news (KBw.bInts b = ks ∧ worth ks = V) [.bytes b tb] (RetV news fun t => .int V t) := by
  intro mean mg mb dp un gd cn cs a ccd cl outer A₀ base h₀ L m s Q E B F X N T hk hpre hdp hun hret
  obtain ⟨rfl, rfl⟩ := hpre
  exact worth_ok w news b tb mean mg mb dp un gd cn cs a ccd cl outer A₀ base h₀ L m s Q E B F X N T hk trivial hdp hun hret
theorem numberV_ok (w : World) (news : Led) (b : Array UInt8) (tb : Tok) (ks : List Int) (V : Int) :
    Ctr PR w (hd.heap_39 w.params) hd.view_39 LO 128 2 16 news (KBw.bInts b = ks ∧ num ks = V) [.bytes b tb] (RetV news fun t => .int V t) := by
  intro mean mg mb dp un gd cn cs a ccd cl outer A₀ base h₀ L m s Q E B F X N T hk hpre hdp hun hret
  obtain ⟨rfl, rfl⟩ := hpre
  exact number_ok w news b tb mean mg mb dp un gd cn cs a ccd cl outer A₀ base h₀ L m s Q E B F X N T hk trivial hdp hun hret
/-- what the decoder asks of a row of signs, and what it gives -/
structure Dec (cs cd ks : List Int) : Prop where
  app : cs = cd ++ [126, 62]
  sig : ∀ c ∈ cd, 33 ≤ c ∧ c ≤ 117
  ok : okG cd
  m5 : cd.length % 5 ≠ 1
  l20 : cd.length ≤ 20
  eq : dec cd = ks
theorem dec_of {cs ks : List Int} (hc : cs = enc ks ++ [126, 62]) (hi : InO ks) (hl : ks.length ≤ 12) : Dec cs (enc ks) ks := by
  have h := dec_enc ks hi
  have hel := enc_len ks hi
  refine ⟨hc, fun c hx => by have := enc_in ks c hx; omega, h.2, ?_, ?_, h.1⟩
  · split at hel <;> omega
  · split at hel <;> omega
theorem decodedV_ok (w : World) (news : Led) (b : Array UInt8) (tb : Tok) (cs cd ks : List Int) :
    Ctr PR w (hd.heap_39 w.params) hd.view_39 LO 102 8 128 news (KBw.bInts b = cs ∧ Dec cs cd ks) [.bytes b tb] (RetB news ks) := by
  intro mean mg mb dp un gd cn cs' a ccd cl outer A₀ base h₀ L m s Q E B F X N T hk hpre hdp hun hret
  obtain ⟨rfl, hD⟩ := hpre
  refine decoded_ok w news b tb (KBw.bInts b) cd mean mg mb dp un gd cn cs' a ccd cl outer A₀ base h₀ L m s Q E B F X N T hk ⟨rfl, hD.app, hD.sig, hD.ok, hD.m5, hD.l20⟩ hdp hun ?_
  intro c t h' tk' hc
  exact hret c t h' tk' (hc.trans hD.eq)
structure At (i g : Nat) : Prop where
  lt : i < g
theorem sl4 {ks : List Int} {i g : Nat} {x y : Int} (hA : At i g) (hl : ks.length = 4 * g) (hx : x = 4 * (i : Int)) (hy : y = 4 * (i : Int) + 4) : (ks.drop ((some x).elim 0 (clipAt ks.length))).take ((some y).elim ks.length (clipAt ks.length) - (some x).elim 0 (clipAt ks.length)) = (ks.drop (4 * i)).take 4 := by
  have := hA.lt
  rw [sl_mid (i := 4 * i) (j := 4 * i + 4) (by omega) (by omega) (by omega) (by omega), Nat.add_sub_cancel_left]
theorem sl5 {ks : List Int} {i g : Nat} {x y : Int} (hA : At i g) (hl : ks.length = 5 * g + 2) (hx : x = 5 * (i : Int)) (hy : y = 5 * (i : Int) + 5) : (ks.drop ((some x).elim 0 (clipAt ks.length))).take ((some y).elim ks.length (clipAt ks.length) - (some x).elim 0 (clipAt ks.length)) = (ks.drop (5 * i)).take 5 := by
  have := hA.lt
  rw [sl_mid (i := 5 * i) (j := 5 * i + 5) (by omega) (by omega) (by omega) (by omega), Nat.add_sub_cancel_left]
theorem wn_at {cs ks : List Int} {i g : Nat} {X : Prop} (hA : At i g) (hc : cs = enc ks ++ [126, 62]) (hi : InO ks) (hl : ks.length = 4 * g) (f : ∀ V, worth ((cs.drop (5 * i)).take 5) = V → num ((ks.drop (4 * i)).take 4) = V → X) : X := by
  have := hA.lt
  exact f _ (by rw [hc]; exact worth_at i ks _ hi (by omega)) rfl
theorem atF {h₀ h : Heap} {L : Addr} {m m₁ : PySem.Str → Option Value} {v : Option Value} (F : Fr h₀ L h (fun y => if y = Str.ofString "at" then v else m₁ y)) (hm : ∀ y, y ≠ Str.ofString "at" → m₁ y = m y) : Fr h₀ L h (fun y => if y = Str.ofString "at" then v else m y) := by
  have e : (fun y => if y = Str.ofString "at" then v else m₁ y) = fun y => if y = Str.ofString "at" then v else m y := by
    funext y
    by_cases h1 : y = Str.ofString "at"
    · rw [if_pos h1, if_pos h1]
    · rw [if_neg h1, if_neg h1]; exact hm y h1
  rw [← e]; exact F
/-- the rows of a last group that is cut -/
inductive CutQ (a b c e : Int) : Int → List Int → List Int → Prop
  | one : CutQ a b c e 0 [a, b, c] [e]
  | two : CutQ a b c e 1 [a, b] [c, e]
  | three : CutQ a b c e 2 [a] [b, c, e]
theorem cutQ {d a b c e : Int} (h0 : 0 ≤ d) (h3 : d < 3) : ∃ q r, CutQ a b c e d q r := by
  rcases three_cases h0 h3 with rfl | rfl | rfl
  · exact ⟨_, _, .one⟩
  · exact ⟨_, _, .two⟩
  · exact ⟨_, _, .three⟩
theorem CutQ.app {a b c e d : Int} {q r : List Int} (h : CutQ a b c e d q r) : [a, b, c, e] = q ++ r := by cases h <;> rfl
theorem CutQ.nz {a b c e d : Int} {q r : List Int} (h : CutQ a b c e d q r) : noZ q := by cases h <;> exact trivial
theorem CutQ.len {a b c e d : Int} {q r : List Int} (h : CutQ a b c e d q r) : (q.length : Int) = 3 - d ∧ (r.length : Int) = 1 + d := by cases h <;> exact ⟨rfl, rfl⟩
theorem noZ_app : ∀ (g : Nat) (p l : List Int), p.length = 4 * g → noZ (p ++ l) → (∀ q, noZ q → noZ (p ++ q))
  | 0, p, l, h, _ => by
    have : p = [] := List.eq_nil_of_length_eq_zero (by omega)
    subst this; exact fun q hq => hq
  | g + 1, p, l, h, hz => by
    match p, h with
    | [], h => simp at h
    | [_], h => simp at h; omega
    | [_, _], h => simp at h; omega
    | [_, _, _], h => simp at h; omega
    | a :: b :: c :: d :: r, h =>
      have hr : r.length = 4 * g := by simp at h; omega
      exact fun q hq => ⟨hz.1, noZ_app g r l hr hz.2 q hq⟩
theorem last4 (ks : List Int) (hm : ks.length % 4 = 0) (h4 : 4 ≤ ks.length) : ∃ p a b c e, ks = p ++ [a, b, c, e] ∧ p.length = 4 * (p.length / 4) := by
  refine ⟨ks.take (ks.length - 4), ?_⟩
  have h := List.take_append_drop (ks.length - 4) ks
  have hl : (ks.drop (ks.length - 4)).length = 4 := by rw [List.length_drop]; omega
  match hd : ks.drop (ks.length - 4), hl with
  | [a, b, c, e], _ =>
    rw [hd] at h
    exact ⟨a, b, c, e, h.symm, by rw [List.length_take]; omega⟩
theorem cutQ_worth {a b c e d : Int} {q r : List Int} (h : CutQ a b c e d q r) (hi : InO [a, b, c, e]) : ∃ V : Int, num (q ++ List.replicate (1 + d).toNat 0) = V ∧ worth (enc q) = V.fdiv (85 ^ (1 + d).toNat) ∧ 0 ≤ V ∧ V < 4294967296 := by
  obtain ⟨ha, hb, hc, hd, _⟩ := InO.four hi
  refine ⟨_, rfl, ?_⟩
  cases h with
  | one =>
    obtain ⟨s0, s1, s2, s3, s4, e, b0, b1, b2, b3, b4, hv⟩ := part3 ha hb hc
    rw [e]
    show worth [33 + s0, 33 + s1, 33 + s2, 33 + s3] = (num [a, b, c, 0]).fdiv 85 ∧ _
    rw [num4, Int.fdiv_eq_ediv_of_nonneg _ (by decide)]
    simp only [worth, List.foldl]
    refine ⟨by omega, ?_⟩
    show 0 ≤ num [a, b, c, 0] ∧ num [a, b, c, 0] < _
    rw [num4]; omega
  | two =>
    obtain ⟨s0, s1, s2, s3, s4, e, b0, b1, b2, b3, b4, hv⟩ := part2 ha hb
    rw [e]
    show worth [33 + s0, 33 + s1, 33 + s2] = (num [a, b, 0, 0]).fdiv 7225 ∧ _
    rw [num4, Int.fdiv_eq_ediv_of_nonneg _ (by decide)]
    simp only [worth, List.foldl]
    refine ⟨by omega, ?_⟩
    show 0 ≤ num [a, b, 0, 0] ∧ num [a, b, 0, 0] < _
    rw [num4]; omega
  | three =>
    obtain ⟨s0, s1, s2, s3, s4, e, b0, b1, b2, b3, b4, hv⟩ := part1 ha
    rw [e]
    show worth [33 + s0, 33 + s1] = (num [a, 0, 0, 0]).fdiv 614125 ∧ _
    rw [num4, Int.fdiv_eq_ediv_of_nonneg _ (by decide)]
    simp only [worth, List.foldl]
    refine ⟨by omega, ?_⟩
    show 0 ≤ num [a, 0, 0, 0] ∧ num [a, 0, 0, 0] < _
    rw [num4]; omega
structure Pre (cs p : List Int) : Prop where
  eq : ∃ r, cs = p ++ r
theorem sl_pre' {cs p : List Int} {y : Int} (hc : Pre cs p) (hy : y = (p.length : Int)) : (cs.drop ((none : Option Int).elim 0 (clipAt cs.length))).take ((some y).elim cs.length (clipAt cs.length) - (none : Option Int).elim 0 (clipAt cs.length)) = p := by
  obtain ⟨r, h⟩ := hc.eq
  exact sl_pre h hy
theorem ints_zeros (n : Nat) : KBw.bInts (Array.replicate n 0) = List.replicate n 0 := by
  unfold KBw.bInts
  simp
/-- all that the law's last part asks of the cut -/
theorem cut_facts {ks cs : List Int} {d : Int} {X : Prop} (hin : InO ks) (hz : noZ ks) (hm : ks.length % 4 = 0) (h4 : 4 ≤ ks.length) (h12 : ks.length ≤ 12) (hcs : cs = enc ks ++ [126, 62]) (h0 : 0 ≤ d) (h3 : d < 3)
    (f : ∀ (p q r : List Int) (ws : List Int) (V : Int), cs.length ≤ 100 → ks = p ++ q ++ r → noZ (p ++ q) → (p ++ q).length ≤ 16 → InO (p ++ q) → Pre ks (p ++ q) → Pre cs (enc p) → enc (p ++ q) ++ [126, 62] = ws → Pre ws (enc p) → ws = enc p ++ enc q ++ [126, 62] → Dec ws (enc (p ++ q)) (p ++ q) →
      (ks.length : Int) = p.length + 4 → (q.length : Int) = 3 - d → ((enc p).length : Int) = (p.length : Int) / 4 * 5 → (p.length : Int) % 4 = 0 → ((ws.length : Int) = ((enc p).length : Int) + 6 - d) → num (q ++ List.replicate (1 + d).toNat 0) = V → worth (enc q) = V.fdiv (85 ^ (1 + d).toNat) → 0 ≤ V → V < 4294967296 → X) : X := by
  obtain ⟨p, a, b, c, e, rfl, hp⟩ := last4 ks hm h4
  obtain ⟨q, r, hq⟩ := cutQ (a := a) (b := b) (c := c) (e := e) h0 h3
  have happ := hq.app
  have hlen := hq.len
  have hpl : p.length ≤ 8 := by simp only [List.length_append, List.length_cons, List.length_nil] at h12; omega
  have hiq : InO (p ++ q) := fun k hk => hin k (by
    rw [happ, ← List.append_assoc]
    exact List.mem_append_left _ hk)
  have hi4 : InO [a, b, c, e] := fun k hk => hin k (List.mem_append_right _ hk)
  have hip : InO p := fun k hk => hin k (List.mem_append_left _ hk)
  obtain ⟨V, v1, v2, v3, v4⟩ := cutQ_worth hq hi4
  have hel := enc_len p hip
  rw [if_pos (by omega)] at hel
  have helq := enc_len (p ++ q) hiq
  have hqq : (p ++ q).length = p.length + q.length := List.length_append
  have he := enc_app (p.length / 4) p q hp
  have hapq : p ++ [a, b, c, e] = p ++ q ++ r := by rw [happ, List.append_assoc]
  refine f p q r _ V ?_ hapq (noZ_app (p.length / 4) p _ hp hz q hq.nz) (by omega) hiq ⟨_, hapq⟩ ⟨enc [a, b, c, e] ++ [126, 62], ?_⟩ rfl ⟨enc q ++ [126, 62], ?_⟩ ?_ (dec_of rfl hiq (by omega)) ?_ hlen.1 ?_ (by omega) ?_ v1 v2 v3 v4
  · have := enc_len (p ++ [a, b, c, e]) hin
    rw [if_pos hm] at this
    rw [hcs, List.length_append, this]
    simp only [List.length_cons, List.length_nil]; omega
  · rw [hcs, enc_app (p.length / 4) p _ hp, List.append_assoc]
  · rw [he, List.append_assoc]
  · rw [he]
  · simp only [List.length_append, List.length_cons, List.length_nil]; omega
  · omega
  · rw [List.length_append, helq, hqq]
    simp only [List.length_cons, List.length_nil]
    split <;> omega
theorem cut_factsB {b9 : Array UInt8} {ks : List Int} {d : Int} {X : Prop} (e : KBw.bInts b9 = enc ks ++ [126, 62]) (hin : InO ks) (hz : noZ ks) (hm : ks.length % 4 = 0) (h4 : 4 ≤ ks.length) (h12 : ks.length ≤ 12) (h0 : 0 ≤ d) (h3 : d < 3)
    (f : ∀ cs, KBw.bInts b9 = cs → ∀ (p q r : List Int) (ws : List Int) (V : Int), cs.length ≤ 100 → ks = p ++ q ++ r → noZ (p ++ q) → (p ++ q).length ≤ 16 → InO (p ++ q) → Pre ks (p ++ q) → Pre cs (enc p) → enc (p ++ q) ++ [126, 62] = ws → Pre ws (enc p) → ws = enc p ++ enc q ++ [126, 62] → Dec ws (enc (p ++ q)) (p ++ q) →
      (ks.length : Int) = p.length + 4 → (q.length : Int) = 3 - d → ((enc p).length : Int) = (p.length : Int) / 4 * 5 → (p.length : Int) % 4 = 0 → ((ws.length : Int) = ((enc p).length : Int) + 6 - d) → num (q ++ List.replicate (1 + d).toNat 0) = V → worth (enc q) = V.fdiv (85 ^ (1 + d).toNat) → 0 ≤ V → V < 4294967296 → X) : X :=
  cut_facts hin hz hm h4 h12 rfl h0 h3 (f _ e)
theorem bytes_of_intK {prog : Program} {w : World} {A : Around} {E : Value → Shared → Prop} {s : Shared} {n : Int} {t : Tok} {Q : Value → Shared → Prop} (h0 : 0 ≤ n) (h1 : n ≤ 1000) (h : ∀ t' k, KBw.bInts (Array.replicate n.toNat 0) = List.replicate n.toNat 0 → Q (.bytes (Array.replicate n.toNat 0) t') { s with toks := k }) : wpAny (model prog w) A (PySem.call (.type "bytes") [.int n t]) Q E s :=
  bytes_of_int h0 h1 fun t' k => h t' k (ints_zeros _)
abbrev rowO (n : Int) (t : Tok) (c : Array UInt8) (u : Tok) (k : Nat) : Obj := { cls := .type "tuple", data := .seq #[.int n t, .bytes c u] k }
/-- the octets of a number, as the law takes them -/
noncomputable def octs (n : Int) : List Int := [(n.fdiv (256 ^ Int.toNat 3)).fmod 256, (n.fdiv (256 ^ Int.toNat 2)).fmod 256, (n.fdiv (256 ^ Int.toNat 1)).fmod 256, (n.fdiv (256 ^ Int.toNat 0)).fmod 256]
structure Row (n : Int) (c : Array UInt8) : Prop where
  eq : enc (octs n) = KBw.bInts c
  nz : noZ (octs n)
  lo : 0 ≤ n
  hi : n ≤ 4294967295
  len : (KBw.bInts c).length = 5
theorem rows6 {h₀ h : Heap} {L : Addr} {led : Led} {T1 T2 T3 T4 T5 T6 : Addr} {t1 t2 t3 t4 t5 t6 u1 u2 u3 u4 u5 u6 : Tok} {k1 k2 k3 k4 k5 k6 : Nat} {n1 n2 n3 n4 n5 n6 : Int} {c1 c2 c3 c4 c5 c6 : Array UInt8} (_N : News h₀ L h led)
    (m1 : (T1, rowO n1 t1 c1 u1 k1) ∈ led) (m2 : (T2, rowO n2 t2 c2 u2 k2) ∈ led) (m3 : (T3, rowO n3 t3 c3 u3 k3) ∈ led) (m4 : (T4, rowO n4 t4 c4 u4 k4) ∈ led) (m5 : (T5, rowO n5 t5 c5 u5 k5) ∈ led) (m6 : (T6, rowO n6 t6 c6 u6 k6) ∈ led)
    (r1 : Row n1 c1) (r2 : Row n2 c2) (r3 : Row n3 c3) (r4 : Row n4 c4) (r5 : Row n5 c5) (r6 : Row n6 c6) :
    ∀ v ∈ (#[.ref T1, .ref T2, .ref T3, .ref T4, .ref T5, .ref T6] : Array Value).toList, ∃ T n t c u k, v = .ref T ∧ (T, rowO n t c u k) ∈ led ∧ Row n c := by
  intro v hv
  simp only [List.mem_cons, List.not_mem_nil, or_false] at hv
  rcases hv with rfl | rfl | rfl | rfl | rfl | rfl
  · exact ⟨_, _, _, _, _, _, rfl, m1, r1⟩
  · exact ⟨_, _, _, _, _, _, rfl, m2, r2⟩
  · exact ⟨_, _, _, _, _, _, rfl, m3, r3⟩
  · exact ⟨_, _, _, _, _, _, rfl, m4, r4⟩
  · exact ⟨_, _, _, _, _, _, rfl, m5, r5⟩
  · exact ⟨_, _, _, _, _, _, rfl, m6, r6⟩
theorem row_1 : Row 1 #[33, 33, 33, 33, 34] := ⟨by decide +kernel, by unfold octs noZ; exact ⟨by decide, trivial⟩, by decide, by decide, rfl⟩
theorem row_84 : Row 84 #[33, 33, 33, 33, 117] := ⟨by decide +kernel, by unfold octs noZ; exact ⟨by decide, trivial⟩, by decide, by decide, rfl⟩
theorem row_85 : Row 85 #[33, 33, 33, 34, 33] := ⟨by decide +kernel, by unfold octs noZ; exact ⟨by decide, trivial⟩, by decide, by decide, rfl⟩
theorem row_256 : Row 256 #[33, 33, 33, 36, 34] := ⟨by decide +kernel, by unfold octs noZ; exact ⟨by decide, trivial⟩, by decide, by decide, rfl⟩
theorem row_m : Row 4294967295 #[115, 56, 87, 45, 33] := ⟨by decide +kernel, by unfold octs noZ; exact ⟨by decide, trivial⟩, by decide, by decide, rfl⟩
theorem row_l : Row 4294967294 #[115, 56, 87, 44, 117] := ⟨by decide +kernel, by unfold octs noZ; exact ⟨by decide, trivial⟩, by decide, by decide, rfl⟩
theorem news_pre {h₀ h : Heap} {L : Addr} {p : Addr × Obj} {a news : Led} (N : News h₀ L h (a ++ news)) (hp : p ∈ news) : News h₀ L h (p :: (a ++ news)) := by
  intro q hq
  rcases List.mem_cons.mp hq with rfl | hq
  · exact N _ (List.mem_append_right _ hp)
  · exact N _ hq
theorem ints_octs (n : Int) : KBw.bInts #[((n.fdiv (256 ^ Int.toNat 3)).fmod 256).toNat.toUInt8, ((n.fdiv (256 ^ Int.toNat 2)).fmod 256).toNat.toUInt8, ((n.fdiv (256 ^ Int.toNat 1)).fmod 256).toNat.toUInt8, ((n.fdiv (256 ^ Int.toNat 0)).fmod 256).toNat.toUInt8] = octs n :=
  ints_four (draw_in _ _ (by decide)) (draw_in _ _ (by decide)) (draw_in _ _ (by decide)) (draw_in _ _ (by decide))
theorem encodedR_ok (w : World) (news : Led) (b : Array UInt8) (tb : Tok) (n : Int) (c : Array UInt8) :
    Ctr PR w (hd.heap_39 w.params) hd.view_39 LO 81 4 96 news (KBw.bInts b = octs n ∧ Row n c) [.bytes b tb] (RetB news (KBw.bInts c ++ [126, 62])) := by
  intro mean mg mb dp un gd cn cs' a ccd cl outer A₀ base h₀ L m s Q E B F X N T hk hpre hdp hun hret
  obtain ⟨hb, hr⟩ := hpre
  refine encoded_ok w news b tb (octs n) mean mg mb dp un gd cn cs' a ccd cl outer A₀ base h₀ L m s Q E B F X N T hk ⟨hb.symm, by show 4 ≤ 16; decide, hr.nz⟩ hdp hun ?_
  intro c' t h' tk' hc
  exact hret c' t h' tk' (hc.trans (by rw [hr.eq]))
theorem sl_to {ks : List Int} {x : Int} (h0 : 0 ≤ x) (h1 : x < ks.length) : (ks.drop ((none : Option Int).elim 0 (clipAt ks.length))).take ((some x).elim ks.length (clipAt ks.length) - (none : Option Int).elim 0 (clipAt ks.length)) = ks.take x.toNat := by
  simp only [Option.elim]
  rw [clip_at _ x x.toNat (by omega), Nat.min_eq_left (by omega)]
  simp
theorem sl_from {ks : List Int} {x : Int} (h0 : 0 ≤ x) (h1 : x ≤ ks.length) : (ks.drop ((some x).elim 0 (clipAt ks.length))).take ((none : Option Int).elim ks.length (clipAt ks.length) - (some x).elim 0 (clipAt ks.length)) = ks.drop x.toNat := by
  simp only [Option.elim]
  rw [clip_at _ x x.toNat (by omega), Nat.min_eq_left (by omega)]
  rw [List.take_of_length_le (by rw [List.length_drop]; omega)]
/-- a row of groups, none of noughts -/
theorem noZ_any : ∀ (g : Nat) (ls : List Int) (ys : List Value), ls.length = 4 * g → (∀ i y, ys[i]? = some y → ∃ b t, y = Value.bytes b t ∧ KBw.bInts b = (ls.drop (4 * i)).take 4) → ys.length = g → ys.any (isB [0, 0, 0, 0]) = false → noZ ls
  | 0, ls, _, h, _, _, _ => by
    have : ls = [] := List.eq_nil_of_length_eq_zero (by omega)
    subst this; exact trivial
  | g + 1, ls, ys, h, hy, hl, ha => by
    match ls, h with
    | [], h => simp at h
    | [_], h => simp at h; omega
    | [_, _], h => simp at h; omega
    | [_, _, _], h => simp at h; omega
    | a :: b :: c :: d :: r, h =>
      match ys, hl with
      | y :: ys, hl =>
        have hr : r.length = 4 * g := by simp at h; omega
        rw [List.any_cons, Bool.or_eq_false_iff] at ha
        refine ⟨?_, noZ_any g r ys hr (fun i z hz => ?_) (by simp at hl; exact hl) ha.2⟩
        · rintro ⟨rfl, rfl, rfl, rfl⟩
          obtain ⟨q, t, rfl, hq⟩ := hy 0 y rfl
          have e : q.toList = [0, 0, 0, 0] := map_inj _ _ hq
          have h1 := ha.1
          simp only [isB, e, decide_true] at h1
          exact Bool.noConfusion h1
        · obtain ⟨q, t, rfl, hq⟩ := hy (i + 1) z (by simpa using hz)
          exact ⟨q, t, rfl, by rw [hq, show 4 * (i + 1) = 4 * i + 4 by omega]; rfl⟩
theorem in_list_K {prog : Program} {w : World} {A : Around} {E : Value → Shared → Prop} {s : Shared} {l : Addr} {ys : List Value} {k : Nat} {c : Array UInt8} {u : Tok} {R : Nat → Array UInt8 → Prop} {Q : Value → Shared → Prop} {h₀ : Heap} {L : Addr} {news : Led} (hy : ∀ i y, ys[i]? = some y → ∃ b t, y = Value.bytes b t ∧ R i b) (N : News h₀ L s.heap news) (hm : (l, listOf ys.toArray k) ∈ news)
    (h : ∀ x, ys.any (isB c.toList) = x → Q (.bool x) s) : wpAny (model prog w) A (compareOp .In (.bytes c u) (.ref l)) Q E s :=
  in_list_bytes (News.isList N hm) (fun v hv => by
    obtain ⟨i, hi⟩ := List.getElem?_of_mem hv
    obtain ⟨b, t, e, _⟩ := hy i v hi
    exact ⟨b, t, e⟩) (h _ rfl)
theorem four_g {n : Nat} (h : n % 4 = 0) (h12 : n ≤ 12) : ∃ g, n = 4 * g ∧ g ≤ 3 := ⟨n / 4, by omega, by omega⟩
theorem ex_row {b : Array UInt8} {rhs : List Int} {n : Nat} {X : Prop} (h : KBw.bInts b = rhs) (hl : rhs.length = n) (f : ∀ ls, KBw.bInts b = ls → ls.length = n → X) : X := f _ h hl
-- VL0
structure Keep (P : Prop) : Prop where
  out : P
structure Cut1 (X : Prop) where
  P : Prop
  ok : Keep P → X
structure Cut2 (X : Prop) where
  P : Prop
  R : Prop
  ok : Keep P → Keep R → X
section
variable {M : Model} {A : Around} {E : Value → Shared → Prop} {env : Env} {sh : Heap} {sg : Array GenState} {sd : Drawn} {st : Nat} {so : OsState} {stm : Stmt} {rest : List Stmt} {Q : Flow → Shared → Prop} {h₀ : Heap} {L : Addr} {m : PySem.Str → Option Value}
theorem midP (Rel : Heap → Prop) (h1 : ∀ P : Flow → Shared → Prop, (∀ h' tk', Rel h' → P .next ⟨h', sg, sd, tk', so⟩) → wpAny M A (exec stm env) P E ⟨sh, sg, sd, st, so⟩) (h2 : ∀ h' tk', Rel h' → wpAny M A (execs rest env) Q E ⟨h', sg, sd, tk', so⟩) :
    wpAny M A (execs (stm :: rest) env) Q E ⟨sh, sg, sd, st, so⟩ :=
  mid (fun s' => ∃ h' tk', s' = ⟨h', sg, sd, tk', so⟩ ∧ Rel h') (h1 _ fun h' tk' r => .intro ⟨h', tk', rfl, r⟩) fun s' ⟨h', tk', e, r⟩ => by rw [e]; exact h2 h' tk' r
theorem hideQE {s : Shared} {body : List Stmt} (h : ∀ (Q' : Flow → Shared → Prop) (E' : Value → Shared → Prop), (∀ f s, Q f s → Q' f s) → PassesOwn M A env E' → wpAny M A (execs body env) Q' E' s) (hp : PassesOwn M A env E := by passes_own) : wpAny M A (execs body env) Q E s := h Q E (fun _ _ q => q) hp
theorem one_P {u l c e : Addr} {k : Int} {tk : Tok} {n n' : Nat} {vs : List Value} {ns : List Int} {oc oe : Obj} (F : Fr h₀ L sh m) (N : News h₀ L sh (urnLed u l k tk n n' vs [(c, oc), (e, oe)])) (U : Urn u l k tk n n' vs ns [(c, oc), (e, oe)])
    (h1 : Fr h₀ L sh m → News h₀ L sh (urnLed u l k tk n n' vs [(c, oc), (e, oe)]) → Urn u l k tk n n' vs ns [(c, oc), (e, oe)] →
      ∀ P : Flow → Shared → Prop, (∀ b t k tk n n' vs ns h' tk', Good b → Urn u l k tk n n' vs ns [(c, oc), (e, oe)] → Fr h₀ L h' (fun y => if y = Str.ofString "one" then some (.bytes b t) else m y) → News h₀ L h' (urnLed u l k tk n n' vs [(c, oc), (e, oe)]) → P .next ⟨h', sg, sd, tk', so⟩) → wpAny M A (exec stm env) P E ⟨sh, sg, sd, st, so⟩)
    (h2 : ∀ b t k tk n n' vs ns h' tk', Good b → Urn u l k tk n n' vs ns [(c, oc), (e, oe)] → Fr h₀ L h' (fun y => if y = Str.ofString "one" then some (.bytes b t) else m y) → News h₀ L h' (urnLed u l k tk n n' vs [(c, oc), (e, oe)]) → wpAny M A (execs rest env) Q E ⟨h', sg, sd, tk', so⟩) :
    wpAny M A (execs (stm :: rest) env) Q E ⟨sh, sg, sd, st, so⟩ :=
  midP (fun h' => ∃ b t k tk n n' vs ns, Good b ∧ Urn u l k tk n n' vs ns [(c, oc), (e, oe)] ∧ Fr h₀ L h' (fun y => if y = Str.ofString "one" then some (.bytes b t) else m y) ∧ News h₀ L h' (urnLed u l k tk n n' vs [(c, oc), (e, oe)]))
    (fun P hP => h1 F N U P fun b t k tk n n' vs ns h' tk' g U F N => hP h' tk' ⟨b, t, k, tk, n, n', vs, ns, g, U, F, N⟩) fun h' tk' ⟨b, t, k, tk, n, n', vs, ns, g, U, F, N⟩ => h2 b t k tk n n' vs ns h' tk' g U F N
theorem if_P {u l c e : Addr} {k : Int} {tk : Tok} {n n' : Nat} {vs : List Value} {ns : List Int} {oc oc0 oe : Obj} {b0 : Array UInt8} {t0 : Tok} (F : Fr h₀ L sh m) (N : News h₀ L sh (urnLed u l k tk n n' vs [(c, oc), (e, oe)])) (U : Urn u l k tk n n' vs ns [(c, oc0), (e, oe)]) (g0 : Good b0) (_ : oc.data = .cell (some (.bytes b0 t0)))
    (h1 : Fr h₀ L sh m → News h₀ L sh (urnLed u l k tk n n' vs [(c, oc), (e, oe)]) → Urn u l k tk n n' vs ns [(c, oc), (e, oe)] →
      ∀ P : Flow → Shared → Prop, (∀ sv b t oc' k tk n n' vs ns h' tk', Good b → (KBw.bInts b).length = (KBw.bInts b0).length → oc'.data = .cell (some (.bytes b t)) → Urn u l k tk n n' vs ns [(c, oc'), (e, oe)] → Fr h₀ L h' (fun y => if y = Str.ofString "spot" then sv else m y) → News h₀ L h' (urnLed u l k tk n n' vs [(c, oc'), (e, oe)]) → P .next ⟨h', sg, sd, tk', so⟩) →
      FactsB b0 (wpAny M A (exec stm env) P E ⟨sh, sg, sd, st, so⟩))
    (h2 : ∀ sv b t oc' k tk n n' vs ns h' tk', oc'.data = .cell (some (.bytes b t)) → Urn u l k tk n n' vs ns [(c, oc'), (e, oe)] → Fr h₀ L h' (fun y => if y = Str.ofString "spot" then sv else m y) → News h₀ L h' (urnLed u l k tk n n' vs [(c, oc'), (e, oe)]) → FactsC b0 b (wpAny M A (execs rest env) Q E ⟨h', sg, sd, tk', so⟩)) :
    wpAny M A (execs (stm :: rest) env) Q E ⟨sh, sg, sd, st, so⟩ :=
  midP (fun h' => ∃ sv b t oc' k tk n n' vs ns, Good b ∧ (KBw.bInts b).length = (KBw.bInts b0).length ∧ oc'.data = .cell (some (.bytes b t)) ∧ Urn u l k tk n n' vs ns [(c, oc'), (e, oe)] ∧ Fr h₀ L h' (fun y => if y = Str.ofString "spot" then sv else m y) ∧ News h₀ L h' (urnLed u l k tk n n' vs [(c, oc'), (e, oe)]))
    (fun P hP => factsB g0 (h1 F N U.recell P fun sv b t oc' k tk n n' vs ns h' tk' g hl hd U F N => hP h' tk' ⟨sv, b, t, oc', k, tk, n, n', vs, ns, g, hl, hd, U, F, N⟩)) fun h' tk' ⟨sv, b, t, oc', k, tk, n, n', vs, ns, g, hl, hd, U, F, N⟩ => factsC g0 g hl (h2 sv b t oc' k tk n n' vs ns h' tk' hd U F N)
theorem same_P {news : Led} (F : Fr h₀ L sh m) (N : News h₀ L sh news)
    (h1 : Fr h₀ L sh m → News h₀ L sh news → ∀ P : Flow → Shared → Prop, (∀ h' tk', Fr h₀ L h' m → News h₀ L h' news → P .next ⟨h', sg, sd, tk', so⟩) → wpAny M A (exec stm env) P E ⟨sh, sg, sd, st, so⟩)
    (h2 : ∀ h' tk', Fr h₀ L h' m → News h₀ L h' news → wpAny M A (execs rest env) Q E ⟨h', sg, sd, tk', so⟩) : wpAny M A (execs (stm :: rest) env) Q E ⟨sh, sg, sd, st, so⟩ :=
  midP (fun h' => Fr h₀ L h' m ∧ News h₀ L h' news) (fun P hP => h1 F N P fun h' tk' F N => hP h' tk' ⟨F, N⟩) fun h' tk' ⟨F, N⟩ => h2 h' tk' F N
theorem loop_P {news : Led} (F : Fr h₀ L sh m) (N : News h₀ L sh news)
    (h1 : Fr h₀ L sh m → News h₀ L sh news → ∀ P : Flow → Shared → Prop, (∀ a b c h' tk', Fr h₀ L h' (fun y => if y = Str.ofString "octets" then a else if y = Str.ofString "coded" then b else if y = Str.ofString "at" then c else m y) → News h₀ L h' news → P .next ⟨h', sg, sd, tk', so⟩) → wpAny M A (exec stm env) P E ⟨sh, sg, sd, st, so⟩)
    (h2 : ∀ a b c h' tk', Fr h₀ L h' (fun y => if y = Str.ofString "octets" then a else if y = Str.ofString "coded" then b else if y = Str.ofString "at" then c else m y) → News h₀ L h' news → wpAny M A (execs rest env) Q E ⟨h', sg, sd, tk', so⟩) : wpAny M A (execs (stm :: rest) env) Q E ⟨sh, sg, sd, st, so⟩ :=
  midP (fun h' => ∃ a b c, Fr h₀ L h' (fun y => if y = Str.ofString "octets" then a else if y = Str.ofString "coded" then b else if y = Str.ofString "at" then c else m y) ∧ News h₀ L h' news) (fun P hP => h1 F N P fun a b c h' tk' F N => hP h' tk' ⟨a, b, c, F, N⟩) fun h' tk' ⟨a, b, c, F, N⟩ => h2 a b c h' tk' F N
theorem at_P {news : Led} (F : Fr h₀ L sh m) (N : News h₀ L sh news)
    (h1 : Fr h₀ L sh m → News h₀ L sh news → ∀ P : Flow → Shared → Prop, (∀ c h' tk', Fr h₀ L h' (fun y => if y = Str.ofString "at" then c else m y) → News h₀ L h' news → P .next ⟨h', sg, sd, tk', so⟩) → wpAny M A (exec stm env) P E ⟨sh, sg, sd, st, so⟩)
    (h2 : ∀ c h' tk', Fr h₀ L h' (fun y => if y = Str.ofString "at" then c else m y) → News h₀ L h' news → wpAny M A (execs rest env) Q E ⟨h', sg, sd, tk', so⟩) : wpAny M A (execs (stm :: rest) env) Q E ⟨sh, sg, sd, st, so⟩ :=
  midP (fun h' => ∃ c, Fr h₀ L h' (fun y => if y = Str.ofString "at" then c else m y) ∧ News h₀ L h' news) (fun P hP => h1 F N P fun c h' tk' F N => hP h' tk' ⟨c, F, N⟩) fun h' tk' ⟨c, F, N⟩ => h2 c h' tk' F N
theorem cut_P {news news' : Led} (F : Fr h₀ L sh m) (N : News h₀ L sh news)
    (h1 : Fr h₀ L sh m → News h₀ L sh news → ∀ P : Flow → Shared → Prop, (∀ d t h' tk', 0 ≤ d → d < 3 → Fr h₀ L h' (fun y => if y = Str.ofString "cut" then some (.int (1 + d) t) else m y) → News h₀ L h' news' → P .next ⟨h', sg, sd, tk', so⟩) → wpAny M A (exec stm env) P E ⟨sh, sg, sd, st, so⟩)
    (h2 : ∀ d t h' tk', 0 ≤ d → d < 3 → Fr h₀ L h' (fun y => if y = Str.ofString "cut" then some (.int (1 + d) t) else m y) → News h₀ L h' news' → wpAny M A (execs rest env) Q E ⟨h', sg, sd, tk', so⟩) : wpAny M A (execs (stm :: rest) env) Q E ⟨sh, sg, sd, st, so⟩ :=
  midP (fun h' => ∃ d t, 0 ≤ d ∧ d < 3 ∧ Fr h₀ L h' (fun y => if y = Str.ofString "cut" then some (.int (1 + d) t) else m y) ∧ News h₀ L h' news') (fun P hP => h1 F N P fun d t h' tk' a b F N => hP h' tk' ⟨d, t, a, b, F, N⟩) fun h' tk' ⟨d, t, a, b, F, N⟩ => h2 d t h' tk' a b F N
theorem less_P {news : Led} (W : List Int) (F : Fr h₀ L sh m) (N : News h₀ L sh news)
    (h1 : Fr h₀ L sh m → News h₀ L sh news → ∀ P : Flow → Shared → Prop, (∀ b t h' tk', KBw.bInts b = W → Fr h₀ L h' (fun y => if y = Str.ofString "less" then some (.bytes b t) else m y) → News h₀ L h' news → P .next ⟨h', sg, sd, tk', so⟩) → wpAny M A (exec stm env) P E ⟨sh, sg, sd, st, so⟩)
    (h2 : ∀ b t h' tk', KBw.bInts b = W → Fr h₀ L h' (fun y => if y = Str.ofString "less" then some (.bytes b t) else m y) → News h₀ L h' news → wpAny M A (execs rest env) Q E ⟨h', sg, sd, tk', so⟩) : wpAny M A (execs (stm :: rest) env) Q E ⟨sh, sg, sd, st, so⟩ :=
  midP (fun h' => ∃ b t, KBw.bInts b = W ∧ Fr h₀ L h' (fun y => if y = Str.ofString "less" then some (.bytes b t) else m y) ∧ News h₀ L h' news) (fun P hP => h1 F N P fun b t h' tk' a F N => hP h' tk' ⟨b, t, a, F, N⟩) fun h' tk' ⟨b, t, a, F, N⟩ => h2 b t h' tk' a F N
end
theorem kw14 : True := by
  k_with_none
  k_with "k_all" => (first | exact ne_of_lts (by with_reducible assumption) | exact ne_of_allLt (by with_reducible assumption) | exact ne_of_off1 (by with_reducible assumption) | exact ne_of_allLt (And.right (by with_reducible assumption)) | exact ne_of_off1 (And.right (by with_reducible assumption)) | exact ne_of_allLt (And.right (And.right (by with_reducible assumption))) | exact ne_of_off1 (And.right (And.right (by with_reducible assumption))) | exact ne_of_allLt (And.right (And.right (And.right (by with_reducible assumption)))) | exact ne_of_off1 (And.right (And.right (And.right (by with_reducible assumption)))) | with_reducible assumption)
  k_with "k_ne" => ((refine neN ?_; (try dsimp only); first | exact NeA.out (by with_reducible assumption) | exact Ne.symm (NeA.out (by with_reducible assumption)) | with_reducible assumption | exact Ne.symm (by with_reducible assumption)))
  k_with "mine.dec" => (((try simp only [fd4, decide_eq_true_eq, beq_iff_eq, bne_iff_ne, Bool.not_eq_true', Bool.not_eq_true, Bool.not_eq_false', beq_eq_false_iff_ne, decide_eq_false_iff_not]); omega))
  k_with "ite" => (first | (refine ite_neg ?cn ?_; (case cn => walk_at "mine.dec")) | (refine ite_pos ?cn ?_; (case cn => walk_at "mine.dec")))
  k_with "kba_size" => (exact Nat.le_trans (by assumption) (by decide))
  k_with "call ref" => ((refine unbox ?_))
  k_with "CompSrc" => (((rename NeA _ _ => z9q); refine unbox ?_))
  k_with "eval ListComp" => (((rename NeA _ _ => z9q); refine unbox ?_))
  k_with "execs cons" => ((k_here; (fail_if_success (with_reducible show wpAny _ _ (execs (Stmt.If (Expr.Compare _ [CmpOp.In] _ _) _ _ _ :: _) _) _ _ _)); (with_reducible show wpAny _ _ (execs (Stmt.If _ _ _ _ :: _) _) _ _ _); refine unbox ?_))
  k_with "execs cons" => ((k_here; (with_reducible show wpAny _ _ (execs (Stmt.For _ _ _ _ _ :: _) _) _ _ _); refine unbox ?_))
  k_with "execs cons" => ((k_here; (with_reducible show wpAny _ _ (execs (Stmt.Assign [Expr.Name _ _] (Expr.Call (Expr.Attribute _ _ _) _ _ _) _ :: _) _) _ _ _); refine unbox ?_))
  k_with "getMethod" => ((with_reducible refine method_join ?_))
  exact True.intro
set_option maxHeartbeats 1500000 in
noncomputable def l0 : Cut2 PySem.Challenge.rw_qz0074_01.Holds := by
  apply Cut2.mk
  intro kP kR
  exact hd (by
    k_go0
    all_goals try k_fold
    k_steps
    refine Box.mk ?_
    refine hideQE ?_
    intro Qh Eh hQ hE
    (rename Fr _ _ _ _ => F9); (rename News _ _ _ _ => N9); (rename (_ ≠ _ ∧ _ ≠ _ ∧ _ ≠ _) => o9); (rename (_ < _ ∧ _ < _ ∧ _ < _ ∧ _ < _) => l9); (rename (IntsAre _ (List.map _ _)) => hI9)
    have U9 := urn_start N9 hI9 (by rw [List.length_map]; omega) (by omega) (by omega) l9 o9
    clear N9
    obtain ⟨U9, N9⟩ := U9
    have F8 : Fr _ _ _ (fun y => if y = Str.ofString "script" then some (Value.ref _) else none) := F9
    (rename Shared => s1)
    have hfin : ∀ (h : Heap) (m : PySem.Str → Option Value) (tk : Nat), Fr s1.heap s1.heap.objs.size h m → Qh (.ret (.bool true)) ⟨h, s1.gens, s1.drawn, tk, s1.os⟩ := by
      intro h m tk F5
      refine hQ _ _ ?_
      k_steps
    clear hQ F9 l9 o9 hI9
    (try ((rename (IntsAre _ (List.take _ _)) => z9); clear z9))
    (try ((rename (IntsAre _ (List.map _ _)) => z9); clear z9))
    (try ((rename (ReadsAll _ _ _ _) => z9); clear z9))
    (try ((rename (Well _ _ _ _) => z9); clear z9))
    (try ((rename (Reads _ _ _ _) => z9); clear z9))
    (try ((rename (ReadsAllW _ _ _ _ _ _) => z9); clear z9))
    (try ((rename (Dflts _ _ _ _ _ _) => z9); clear z9))
    (try ((rename (CellsAre _ _ _) => z9); clear z9))
    (try ((rename (Spec.Shape.has _ _ = true) => z9); clear z9))
    (try ((rename (List.length (List.take _ _) = _) => z9); clear z9))
    (try ((rename (List.length (List.take _ _) ≤ _) => z9); clear z9))
    (try ((rename (List.length _ = List.length (List.take _ _)) => z9); clear z9))
    (try ((rename (List.length _ = List.length (List.map _ _)) => z9); clear z9))
    (try ((rename (IntsAre _ _) => z9); clear z9))
    (try ((rename (Heap.IsList _ _ _) => z9); clear z9))
    (try ((rename (PyData.layable0 _ = true) => z9); clear z9))
    (try ((rename (PyData.layableAll0 _ = true) => z9); clear z9))
    (try ((rename (WData.layableAll _ = true) => z9); clear z9))
    (try ((rename (WShape.hasAll _ _ _ = true) => z9); clear z9))
    (try ((rename (¬ _ < _) => z9); clear z9))
    (try ((rename (True) => z9); clear z9))
    (rename (_ = Data.cell (bindC _ _ _ _)) => z9); clear z9
    (rename (_ = Data.cell (bindC _ _ _ _)) => z9)
    have dc : _ = Data.cell none := z9
    clear z9
    show wpAny _ _ _ _ _ ⟨_, s1.gens, s1.drawn, _, s1.os⟩
    generalize s1.gens = sg at hfin ⊢
    generalize s1.drawn = sd at hfin ⊢
    generalize s1.os = so at hfin ⊢
    refine one_P F8 N9 U9 ?_ ?_ <;> clear F8 N9 U9
    · (repeat (rename _ => z9; (fail_if_success (have := Keep.out z9)); revert z9)); exact kP.out
    · intro b t k tk n n' vs ns h' tk' G9 U9 F9 N9
      (repeat (rename _ => z9; (fail_if_success (have := Keep.out z9)); revert z9)); exact kR.out)
-- VS1
theorem join_good {prog : Program} {w : World} {A : Around} {E : Value → Shared → Prop} {s : Shared} {t : Tok} {D : Addr} {ys : List Value} {d : Int} {Q : Value → Shared → Prop} (h0 : 0 ≤ d) (h3 : d < 3) (hl : ys.length = (1 + d).toNat)
    (hy : ∀ y ∈ ys, ∃ b t a0 a1 a2 a3, y = Value.bytes b t ∧ KBw.bInts b = [a0, a1, a2, a3] ∧ NZ a0 a1 a2 a3) (hD : s.heap.IsList D ys.toArray) (h : ∀ b t' k, Good b → Q (.bytes b t') { s with toks := k }) :
    wpAny (model prog w) A (PySem.call (.builtin "bytes.join") [.bytes #[] t, .ref D]) Q E s := by
  rcases three_cases h0 h3 with rfl | rfl | rfl
  · match ys, hl with
    | [y], _ =>
      obtain ⟨b, t0, a0, a1, a2, a3, rfl, hb, z⟩ := hy y (.head _)
      exact join_c1 hD (by rw [size4 hb]; decide) fun t' k => h _ t' k (good1 hb z)
  · match ys, hl with
    | [y, y'], _ =>
      obtain ⟨b, t0, a0, a1, a2, a3, rfl, hb, z⟩ := hy y (.head _)
      obtain ⟨b', t0', c0, c1, c2, c3, rfl, hb', z'⟩ := hy y' (.tail _ (.head _))
      exact join_c2 hD (by rw [size4 hb, size4 hb']; decide) fun t' k => h _ t' k (good2 hb z hb' z')
  · match ys, hl with
    | [y, y', y''], _ =>
      obtain ⟨b, t0, a0, a1, a2, a3, rfl, hb, z⟩ := hy y (.head _)
      obtain ⟨b', t0', c0, c1, c2, c3, rfl, hb', z'⟩ := hy y' (.tail _ (.head _))
      obtain ⟨b'', t0'', e0, e1, e2, e3, rfl, hb'', z''⟩ := hy y'' (.tail _ (.tail _ (.head _)))
      exact join_c3 hD (by rw [size4 hb, size4 hb', size4 hb'']; decide) fun t' k => h _ t' k (good3 hb z hb' z' hb'' z'')
theorem kw15 : True := by
  k_with_none
  k_with "k_all" => (first | exact ne_of_lts (by with_reducible assumption) | exact ne_of_allLt (by with_reducible assumption) | exact ne_of_off1 (by with_reducible assumption) | exact ne_of_allLt (And.right (by with_reducible assumption)) | exact ne_of_off1 (And.right (by with_reducible assumption)) | exact ne_of_allLt (And.right (And.right (by with_reducible assumption))) | exact ne_of_off1 (And.right (And.right (by with_reducible assumption))) | exact ne_of_allLt (And.right (And.right (And.right (by with_reducible assumption)))) | exact ne_of_off1 (And.right (And.right (And.right (by with_reducible assumption)))) | with_reducible assumption)
  k_with "k_ne" => ((refine neN ?_; (try dsimp only); first | exact NeA.out (by with_reducible assumption) | exact Ne.symm (NeA.out (by with_reducible assumption)) | with_reducible assumption | exact Ne.symm (by with_reducible assumption)))
  k_with "mine.dec" => (((try simp only [fd4, decide_eq_true_eq, beq_iff_eq, bne_iff_ne, Bool.not_eq_true', Bool.not_eq_true, Bool.not_eq_false', beq_eq_false_iff_ne, decide_eq_false_iff_not]); omega))
  k_with "ite" => (first | (refine ite_neg ?cn ?_; (case cn => walk_at "mine.dec")) | (refine ite_pos ?cn ?_; (case cn => walk_at "mine.dec")))
  k_with "kba_size" => (exact Nat.le_trans (by assumption) (by decide))
  k_with "call ref" => ((refine unbox ?_))
  k_with "CompSrc" => (((rename NeA _ _ => z9q); refine unbox ?_))
  k_with "eval ListComp" => (((rename NeA _ _ => z9q); refine unbox ?_))
  k_with "execs cons" => ((k_here; (fail_if_success (with_reducible show wpAny _ _ (execs (Stmt.If (Expr.Compare _ [CmpOp.In] _ _) _ _ _ :: _) _) _ _ _)); (with_reducible show wpAny _ _ (execs (Stmt.If _ _ _ _ :: _) _) _ _ _); refine unbox ?_))
  k_with "execs cons" => ((k_here; (with_reducible show wpAny _ _ (execs (Stmt.For _ _ _ _ _ :: _) _) _ _ _); refine unbox ?_))
  k_with "execs cons" => ((k_here; (with_reducible show wpAny _ _ (execs (Stmt.Assign [Expr.Name _ _] (Expr.Call (Expr.Attribute _ _ _) _ _ _) _ :: _) _) _ _ _); refine unbox ?_))
  k_with "getMethod" => ((with_reducible refine method_join ?_))
  k_with "call builtin:bytes.join" => ((refine unbox ?_))
  exact True.intro
theorem s1_ok : l0.P := by
  w_top off
  delta l0
  dsimp only
  intros
  (rename Array GenState => sg); (rename Drawn => sd); (rename OsState => so)
  (rename (∀ _ _ _ _ _ _ _ _ _ _, _ → _ → _ → _) => hP)
  (rename Urn _ _ _ _ _ _ _ _ _ => U9)
  refine facts U9 (Nat.ne_of_lt (Nat.lt_succ_self _)) ?_
  intro a1 a2 a3 a4 a5 a6
  k_steps
  refine Box.mk ?_
  k_dflt (refine LCg.ListComp_U (F₀ := by k_asm) (by with_unfolding_all rfl) (by decide) (by rfl) (by decide) (by rfl) ?_)
  k_steps
  try refine Box.mk ?_
  (rename Fr _ _ _ _ => F9); (rename News _ _ _ _ => N9)
  k_dflt refine' pull_ok _ _ _ _ _ _ _ _ _ _ _ _ _ _ _ _ _ _ _ _ _ _ _ _ _ _ _ _ _ _ _ _ ?k1 F9 ?k3 N9 ?k5 ?k6 ⟨U9, by decide, by decide⟩ ?k9 ?k10 ?_
  case k1 => k_asm
  case k3 => k_asm
  case k5 => k_asm
  case k6 => first | exact rfl | assumption
  case k9 => ktr_room
  case k10 => ktr_units
  clear F9 N9
  rintro _ k8 tk8 n8 p8 vs8 ns8 h8 r8 ⟨d8, t8, rfl, b8, c8⟩ U9 F9 N9
  k_steps
  refine Box.mk ?_
  (rename IsRange _ _ _ _ _ _ _ _ => R9); (rename Fr _ _ _ _ => F9); (rename News _ _ _ _ => N9); (rename Urn _ _ _ _ _ _ _ _ _ => U9)
  show LCg.CompSrc _ _ _ _ _ _ _ _ _ _ _ _ _ ⟨_, sg, sd, _, so⟩
  refine LCg.CompSrc.range rfl F9 N9 R9 (small1 (by omega) (by omega)).1 (small1 (by omega) (by omega)).2 (by rw [sizeLine_eq]; omega) ?_
  intro g8
  refine rest_urn (fun y => ∃ b t a0 a1 a2 a3, y = Value.bytes b t ∧ KBw.bInts b = [a0, a1, a2, a3] ∧ NZ a0 a1 a2 a3) U9 (fun _ => trivial) ?_ ?_ <;> clear F9 N9 R9 U9
  · intro i v I oI C oC D m₂ ys h8 tk8 E' Pz k tku n n' vs ns hv hC hx F9 N9 U9 hend
    k_steps
    refine Box.mk ?_
    (rename Fr _ _ _ _ => F9); (rename News _ _ _ _ => N9)
    k_dflt refine' group_ok _ _ _ _ _ _ _ _ _ _ _ _ _ _ _ _ _ _ _ _ _ _ _ _ _ _ _ _ _ _ ?k1 F9 ?k3 N9 ?k5 ?k6 U9 ?k9 ?k10 ?_
    case k1 => k_asm
    case k3 => k_asm
    case k5 => k_asm
    case k6 => first | exact rfl | assumption
    case k9 => ktr_room
    case k10 => ktr_units
    clear F9 N9
    rintro _ k9 tk9 n9 p9 vs9 ns9 h9 r9 ⟨b9, t9, a0, a1, a2, a3, rfl, hb9, hz9⟩ U9 F9 N9
    k_steps
    exact hend _ _ _ _ _ _ _ _ _ ⟨_, _, _, _, _, _, rfl, hb9, ⟨hz9⟩⟩ U9 F9 N9
  · intro ys k tku n n' vs ns hl hy U9
    unfold LCg.FinE
    intro D h8 tk8 F9 N9 o8
    dsimp only
    k_steps
    try refine Box.mk ?_
    (rename News _ _ _ _ => N9)
    refine join_good (s := ⟨_, sg, sd, _, so⟩) b8 c8 hl hy (News.isList N9 (.head _)) ?_
    intro b t' k' G9
    k_steps
    (rename Fr _ _ _ _ => F9); (rename News _ _ _ _ => N9)
    exact hP _ _ _ _ _ _ _ _ _ _ G9 U9 F9 (drop1 N9)
-- VL1
theorem kw16 : True := by
  k_with_none
  k_with "k_all" => (first | exact ne_of_lts (by with_reducible assumption) | exact ne_of_allLt (by with_reducible assumption) | exact ne_of_off1 (by with_reducible assumption) | exact ne_of_allLt (And.right (by with_reducible assumption)) | exact ne_of_off1 (And.right (by with_reducible assumption)) | exact ne_of_allLt (And.right (And.right (by with_reducible assumption))) | exact ne_of_off1 (And.right (And.right (by with_reducible assumption))) | exact ne_of_allLt (And.right (And.right (And.right (by with_reducible assumption)))) | exact ne_of_off1 (And.right (And.right (And.right (by with_reducible assumption)))) | with_reducible assumption)
  k_with "k_ne" => ((refine neN ?_; (try dsimp only); first | exact NeA.out (by with_reducible assumption) | exact Ne.symm (NeA.out (by with_reducible assumption)) | with_reducible assumption | exact Ne.symm (by with_reducible assumption)))
  k_with "mine.dec" => (((try simp only [fd4, decide_eq_true_eq, beq_iff_eq, bne_iff_ne, Bool.not_eq_true', Bool.not_eq_true, Bool.not_eq_false', beq_eq_false_iff_ne, decide_eq_false_iff_not]); omega))
  k_with "ite" => (first | (refine ite_neg ?cn ?_; (case cn => walk_at "mine.dec")) | (refine ite_pos ?cn ?_; (case cn => walk_at "mine.dec")))
  k_with "kba_size" => (exact Nat.le_trans (by assumption) (by decide))
  k_with "call ref" => ((refine unbox ?_))
  k_with "CompSrc" => (((rename NeA _ _ => z9q); refine unbox ?_))
  k_with "eval ListComp" => (((rename NeA _ _ => z9q); refine unbox ?_))
  k_with "execs cons" => ((k_here; (fail_if_success (with_reducible show wpAny _ _ (execs (Stmt.If (Expr.Compare _ [CmpOp.In] _ _) _ _ _ :: _) _) _ _ _)); (with_reducible show wpAny _ _ (execs (Stmt.If _ _ _ _ :: _) _) _ _ _); refine unbox ?_))
  k_with "execs cons" => ((k_here; (with_reducible show wpAny _ _ (execs (Stmt.For _ _ _ _ _ :: _) _) _ _ _); refine unbox ?_))
  k_with "execs cons" => ((k_here; (with_reducible show wpAny _ _ (execs (Stmt.Assign [Expr.Name _ _] (Expr.Call (Expr.Attribute _ _ _) _ _ _) _ :: _) _) _ _ _); refine unbox ?_))
  k_with "getMethod" => ((with_reducible refine method_join ?_))
  k_with "call type:bytes" => ((k_here; (with_reducible show wpAny _ _ (PySem.call (Value.type _) [Value.bytes _ _]) _ _ _); refine bytes_of_bytes ?_))
  exact True.intro
noncomputable def l1 : Cut2 l0.R := by
  apply Cut2.mk
  intro kP kR
  w_top off
  delta l0
  dsimp only
  intros
  (rename Array GenState => sg); (rename Drawn => sd); (rename OsState => so)
  k_steps
  refine Box.mk ?_
  (rename Fr _ _ _ _ => F9); (rename News _ _ _ _ => N9); (rename Urn _ _ _ _ _ _ _ _ _ => U9)
  (rename Good _ => G9); (rename (_ = Data.cell (some (Value.bytes _ _))) => D9)
  show wpAny _ _ _ _ _ ⟨_, sg, sd, _, so⟩
  refine if_P F9 N9 U9 G9 D9 ?_ ?_ <;> clear F9 N9 U9
  · intro F9 N9 U9 P hP ks hks hz hin hm h4 h12 hb4 hb12
    (repeat (rename _ => z9; (fail_if_success (have := Keep.out z9)); revert z9)); exact kP.out
  · clear G9 D9
    intro sv b t oc' k tk n n' vs ns h' tk' D9 U9 F9 N9 ks ls hks hls hz hz' hin hin' hl hm h4 h12
    (repeat (rename _ => z9; (fail_if_success (have := Keep.out z9)); revert z9)); exact kR.out
-- VSA
section
variable {prog : Program} {w : World} {A : Around} {E : Value → Shared → Prop} {env : Env} {h₀ : Heap} {L : Addr} {m : PySem.Str → Option Value}
open PyProof.Rows.LCg in
theorem rest_allP {sh : Heap} {sg : Array GenState} {sd : Drawn} {st : Nat} {so : OsState} {elt : PySem.Expr} {x : PySem.Str} {scope : Scope} {cl : List (PySem.Str × Addr)} {S : Led → Prop} {P : Nat → Value → Prop} {Fin : List Value → Led → Prop} {news : Led} {n : Nat} (R : Nat → Value → Prop) (hS : S news)
    (turn : ∀ i v I oI C oC D m₂ ys h tk (E' Pz : Value → Shared → Prop), i < n → P i v → NsObj oC m₂ → m₂ x = some v → Fr h₀ L h m → News h₀ L h ((I, oI) :: (C, oC) :: (D, lst ys) :: news) →
      (∀ y h' tk', R i y → Fr h₀ L h' m → News h₀ L h' ((I, oI) :: (C, oC) :: (D, lst ys) :: news) → Pz y ⟨h', sg, sd, tk', so⟩) →
      wpAny (model prog w) A (eval elt (compEnvC scope cl C env)) Pz E' ⟨h, sg, sd, tk, so⟩)
    (fin : ∀ ys, ys.length = n → (∀ i y, ys[i]? = some y → R i y) → Fin ys news) : CompRest prog w A h₀ L m env elt x scope cl ⟨sh, sg, sd, st, so⟩ S P Fin n 0 [] news :=
  rest_all R (fun i v I oI C oC D m₂ ys h tk E' hi hv hC hx F N off _ => turn i v I oI C oC D m₂ ys h tk E' _ hi hv hC hx F N fun y h' tk' hr F' N' => CompEnd.intro F' N' news (fun _ h => h) off hS ⟨rfl, hr⟩) fin
end
theorem kw17 : True := by
  k_with_none
  k_with "k_all" => (first | exact ne_of_lts (by with_reducible assumption) | exact ne_of_allLt (by with_reducible assumption) | exact ne_of_off1 (by with_reducible assumption) | exact ne_of_allLt (And.right (by with_reducible assumption)) | exact ne_of_off1 (And.right (by with_reducible assumption)) | exact ne_of_allLt (And.right (And.right (by with_reducible assumption))) | exact ne_of_off1 (And.right (And.right (by with_reducible assumption))) | exact ne_of_allLt (And.right (And.right (And.right (by with_reducible assumption)))) | exact ne_of_off1 (And.right (And.right (And.right (by with_reducible assumption)))) | with_reducible assumption)
  k_with "k_ne" => ((refine neN ?_; (try dsimp only); first | exact NeA.out (by with_reducible assumption) | exact Ne.symm (NeA.out (by with_reducible assumption)) | with_reducible assumption | exact Ne.symm (by with_reducible assumption)))
  k_with "mine.dec" => (((try simp only [fd4, decide_eq_true_eq, beq_iff_eq, bne_iff_ne, Bool.not_eq_true', Bool.not_eq_true, Bool.not_eq_false', beq_eq_false_iff_ne, decide_eq_false_iff_not]); omega))
  k_with "ite" => (first | (refine ite_neg ?cn ?_; (case cn => walk_at "mine.dec")) | (refine ite_pos ?cn ?_; (case cn => walk_at "mine.dec")))
  k_with "kba_size" => (exact Nat.le_trans (by assumption) (by decide))
  k_with "call ref" => ((refine unbox ?_))
  k_with "CompSrc" => (((rename NeA _ _ => z9q); refine unbox ?_))
  k_with "eval ListComp" => (((rename NeA _ _ => z9q); refine unbox ?_))
  k_with "execs cons" => ((k_here; (fail_if_success (with_reducible show wpAny _ _ (execs (Stmt.If (Expr.Compare _ [CmpOp.In] _ _) _ _ _ :: _) _) _ _ _)); (with_reducible show wpAny _ _ (execs (Stmt.If _ _ _ _ :: _) _) _ _ _); refine unbox ?_))
  k_with "execs cons" => ((k_here; (with_reducible show wpAny _ _ (execs (Stmt.For _ _ _ _ _ :: _) _) _ _ _); refine unbox ?_))
  k_with "execs cons" => ((k_here; (with_reducible show wpAny _ _ (execs (Stmt.Assign [Expr.Name _ _] (Expr.Call (Expr.Attribute _ _ _) _ _ _) _ :: _) _) _ _ _); refine unbox ?_))
  k_with "getMethod" => ((with_reducible refine method_join ?_))
  k_with "exec If" => ((refine wpAny_If ?_))
  k_with "subscriptTail" => ((k_here; (with_reducible show wpAny _ _ (subscriptTail _ (Expr.Slice _ _ none _) (Value.bytes _ _) (Value.ref _)) _ _ _); (with_reducible rename Fr _ _ _ _ => F9q); (with_reducible rename News _ _ _ _ => N9q); (refine slice_V (s := ⟨_, _, _, _, _⟩) F9q N9q (by assumption) (by constructor) (by constructor) (by kba_size) (by walk_at "mine.slice") ?_); clear F9q N9q; intro _ _ _ F9q N9q K9q))
  k_with "compareOp NotEq bytes bytes" => ((k_here; (with_reducible show wpAny _ _ (compareOp CmpOp.NotEq (Value.bytes _ _) (Value.bytes _ _)) _ _ _); refine ne_K (by walk_at "mine.beq") ?_))
  k_with "call type:bytes" => ((k_here; (with_reducible show wpAny _ _ (PySem.call (Value.type _) [Value.bytes _ _]) _ _ _); refine bytes_of_bytes ?_))
  k_with "mine.slice" => ((first | exact sl4 (by assumption) (by assumption) (by omega) (by omega) | exact sl_to (by omega) (by omega) | exact sl_from (by omega) (by omega)))
  k_with "compareOp In" => ((refine unbox ?_))
  k_with "StepSrc" => ((refine unbox ?_))
  exact True.intro
theorem sa_ok : l1.P := by
  w_top off
  delta l1
  dsimp only
  intros
  (rename Array GenState => sg); (rename Drawn => sd); (rename OsState => so)
  (rename (∀ _ _ _ _ _ _ _ _ _ _ _ _, _ → _ → _ → _ → _ → _ → _) => hP)
  (rename Urn _ _ _ _ _ _ _ _ _ => U9)
  refine facts U9 (Nat.ne_of_lt (Nat.lt_succ_self _)) ?_
  intro a1 a2 a3 a4 a5 a6
  k_steps
  try refine Box.mk ?_
  (rename Fr _ _ _ _ => F9); (rename News _ _ _ _ => N9)
  k_dflt refine' pull_ok _ _ _ _ _ _ _ _ _ _ _ _ _ _ _ _ _ _ _ _ _ _ _ _ _ _ _ _ _ _ _ _ ?k1 F9 ?k3 N9 ?k5 ?k6 ⟨U9, by decide, by decide⟩ ?k9 ?k10 ?_
  case k1 => k_asm
  case k3 => k_asm
  case k5 => k_asm
  case k6 => first | exact rfl | assumption
  case k9 => ktr_room
  case k10 => ktr_units
  clear F9 N9
  rintro _ k8 tk8 n8 p8 vs8 ns8 h8 r8 ⟨d8, t8, rfl, b8, c8⟩ U9 F9 N9
  k_steps
  · try refine Box.mk ?_
    (rename Fr _ _ _ _ => F9); (rename News _ _ _ _ => N9)
    k_dflt refine' pull_ok _ _ _ _ _ _ _ _ _ _ _ _ _ _ _ _ _ _ _ _ _ _ _ _ _ _ _ _ _ _ _ _ ?k1 F9 ?k3 N9 ?k5 ?k6 ⟨U9, by omega, by omega⟩ ?k9 ?k10 ?_
    case k1 => k_asm
    case k3 => k_asm
    case k5 => k_asm
    case k6 => first | exact rfl | assumption
    case k9 => ktr_room
    case k10 => ktr_units
    clear F9 N9
    rintro _ k7 tk7 n7 p7 vs7 ns7 h7 r7 ⟨d7, t7, rfl, b7, c7⟩ U9 F9 N9
    k_steps
    try refine Box.mk ?_
    (rename Fr _ _ _ _ => F9); (rename News _ _ _ _ => N9)
    k_dflt refine' pull_ok _ _ _ _ _ _ _ _ _ _ _ _ _ _ _ _ _ _ _ _ _ _ _ _ _ _ _ _ _ _ _ _ ?k1 F9 ?k3 N9 ?k5 ?k6 ⟨U9, by decide, by decide⟩ ?k9 ?k10 ?_
    case k1 => k_asm
    case k3 => k_asm
    case k5 => k_asm
    case k6 => first | exact rfl | assumption
    case k9 => ktr_room
    case k10 => ktr_units
    clear F9 N9
    rintro _ k6 tk6 n6 p6 vs6 ns6 h6 r6 ⟨d6, t6, rfl, b6, c6⟩ U9 F9 N9
    k_steps
    try refine Box.mk ?_
    k_dflt (refine comp_step (by k_asm) (by with_unfolding_all rfl) (by decide) (by rfl) (by decide) (by rfl) ?_)
    k_steps
    try refine Box.mk ?_
    (rename IsRange _ _ _ _ _ _ _ _ => R9); (rename Fr _ _ _ _ => F9); (rename News _ _ _ _ => N9); (rename (KBw.bInts (_ ++ _ ++ _) = _) => K9); (rename (_ % 4 = 0) => hm9)
    obtain ⟨g, hg, hg3⟩ := four_g hm9 (by omega)
    refine ex_row (n := 4 * g) K9 (by simp only [List.length_append, List.length_take, List.length_drop, List.length_map, List.length_cons, List.length_nil]; omega) ?_
    intro ls hK hl
    show StepSrc _ _ _ _ _ _ _ _ _ _ _ _ _ ⟨_, sg, sd, _, so⟩
    refine stepSrcG (n := g) (by rfl) F9 N9 R9 (by simp only [List.length_cons, List.length_nil]; omega) hg3 ?_
    intro g'
    refine rest_allP (fun i y => ∃ b t, y = Value.bytes b t ∧ KBw.bInts b = (ls.drop (4 * i)).take 4) trivial ?_ ?_
    · intro i v I oI C oC D m₂ ys h tk E' Pz hi hv hC hx F8 N8 hend
      obtain ⟨_, t, rfl⟩ := hv
      have hA : At i g := ⟨hi⟩
      clear R9 F9 N9 K9
      k_steps
      (rename Fr _ _ _ _ => F9); (rename News _ _ _ _ => N9)
      exact hend _ _ _ ⟨_, _, rfl, by assumption⟩ F9 N9
    · intro ys hyl hy
      clear R9 F9 N9
      unfold LCg.FinE
      intro D h8 tk8 F9 N9 o8
      dsimp only
      k_steps
      refine Box.mk ?_
      refine' in_list_K hy N9 (.head _) ?_
      intro x9 hx9
      cases x9
      · k_steps
        (rename Fr _ _ _ _ => F9); (rename News _ _ _ _ => N9); (rename (_ = Data.cell (some (Value.bytes _ _))) => D9); (rename Urn _ _ _ _ _ _ _ _ _ => U9)
        exact hP _ _ _ _ _ _ _ _ _ _ _ _ ⟨g, by omega, hg3, (congrArg List.length hK).trans hl, by rw [hK]; exact noZ_any g ls ys hl hy hyl hx9⟩ ((congrArg List.length hK).trans ((hl.trans hg.symm).trans (congrArg List.length (Eq.symm (by assumption))))) D9 U9.recell F9 (drop1 (drop1 N9))
      · replace N9 := drop1 (drop1 N9)
        k_steps
        (rename Fr _ _ _ _ => F9); (rename News _ _ _ _ => N9); (rename (_ = Data.cell (some (Value.bytes _ _))) => D9); (rename Urn _ _ _ _ _ _ _ _ _ => U9); (rename Good _ => G9)
        exact hP _ _ _ _ _ _ _ _ _ _ _ _ G9 rfl D9 U9.recell F9 N9
  · (rename Fr _ _ _ _ => F9); (rename News _ _ _ _ => N9); (rename Urn _ _ _ _ _ _ _ _ _ => U9); (rename Good _ => G9); (rename (_ = Data.cell (some (Value.bytes _ _))) => D9)
    exact hP _ _ _ _ _ _ _ _ _ _ _ _ G9 rfl D9 U9 (same_F F9 (Str.ofString "spot")) N9
-- VL2
theorem kw18 : True := by
  k_with_none
  k_with "k_all" => (first | exact ne_of_lts (by with_reducible assumption) | exact ne_of_allLt (by with_reducible assumption) | exact ne_of_off1 (by with_reducible assumption) | exact ne_of_allLt (And.right (by with_reducible assumption)) | exact ne_of_off1 (And.right (by with_reducible assumption)) | exact ne_of_allLt (And.right (And.right (by with_reducible assumption))) | exact ne_of_off1 (And.right (And.right (by with_reducible assumption))) | exact ne_of_allLt (And.right (And.right (And.right (by with_reducible assumption)))) | exact ne_of_off1 (And.right (And.right (And.right (by with_reducible assumption)))) | with_reducible assumption)
  k_with "k_ne" => ((refine neN ?_; (try dsimp only); first | exact NeA.out (by with_reducible assumption) | exact Ne.symm (NeA.out (by with_reducible assumption)) | with_reducible assumption | exact Ne.symm (by with_reducible assumption)))
  k_with "mine.dec" => (((try simp only [fd4, decide_eq_true_eq, beq_iff_eq, bne_iff_ne, Bool.not_eq_true', Bool.not_eq_true, Bool.not_eq_false', beq_eq_false_iff_ne, decide_eq_false_iff_not]); omega))
  k_with "ite" => (first | (refine ite_neg ?cn ?_; (case cn => walk_at "mine.dec")) | (refine ite_pos ?cn ?_; (case cn => walk_at "mine.dec")))
  k_with "kba_size" => (exact Nat.le_trans (by assumption) (by decide))
  k_with "call ref" => ((refine unbox ?_))
  k_with "CompSrc" => (((rename NeA _ _ => z9q); refine unbox ?_))
  k_with "eval ListComp" => (((rename NeA _ _ => z9q); refine unbox ?_))
  k_with "execs cons" => ((k_here; (fail_if_success (with_reducible show wpAny _ _ (execs (Stmt.If (Expr.Compare _ [CmpOp.In] _ _) _ _ _ :: _) _) _ _ _)); (with_reducible show wpAny _ _ (execs (Stmt.If _ _ _ _ :: _) _) _ _ _); refine unbox ?_))
  k_with "execs cons" => ((k_here; (with_reducible show wpAny _ _ (execs (Stmt.For _ _ _ _ _ :: _) _) _ _ _); refine unbox ?_))
  k_with "execs cons" => ((k_here; (with_reducible show wpAny _ _ (execs (Stmt.Assign [Expr.Name _ _] (Expr.Call (Expr.Attribute _ _ _) _ _ _) _ :: _) _) _ _ _); refine unbox ?_))
  k_with "getMethod" => ((with_reducible refine method_join ?_))
  exact True.intro
noncomputable def l2 : Cut2 l1.R := by
  apply Cut2.mk
  intro kP kR
  w_top off
  delta l1
  dsimp only
  intros
  (rename Array GenState => sg); (rename Drawn => sd); (rename OsState => so)
  k_steps
  refine Box.mk ?_
  (rename Fr _ _ _ _ => F9); (rename News _ _ _ _ => N9)
  k_dflt refine' encoded_ok _ _ _ _ _ _ _ _ _ _ _ _ _ _ _ _ _ _ _ _ _ _ _ _ _ ?k1 F9 ?k3 N9 ?k5 ?k6 ⟨Eq.symm ?ka, ?kb, ?kc⟩ ?k9 ?k10 ?_
  case k1 => k_asm
  case k3 => k_asm
  case k5 => k_asm
  case k6 => first | exact rfl | assumption
  case ka => assumption
  case kb => omega
  case kc => assumption
  case k9 => ktr_room
  case k10 => ktr_units
  clear F9 N9
  intro b9 t9 h9 tk9 hb9 F9 N9
  k_steps
  refine Box.mk ?_
  (rename Fr _ _ _ _ => F9); (rename News _ _ _ _ => N9)
  k_dflt refine' encoded_ok _ _ _ _ _ _ _ _ _ _ _ _ _ _ _ _ _ _ _ _ _ _ _ _ _ ?k1 F9 ?k3 N9 ?k5 ?k6 ⟨Eq.symm ?ka, ?kb, ?kc⟩ ?k9 ?k10 ?_
  case k1 => k_asm
  case k3 => k_asm
  case k5 => k_asm
  case k6 => first | exact rfl | assumption
  case ka => assumption
  case kb => omega
  case kc => assumption
  case k9 => ktr_room
  case k10 => ktr_units
  clear F9 N9
  intro b9 t9 h9 tk9 hb9 F9 N9
  k_steps
  refine Box.mk ?_
  (rename Fr _ _ _ _ => F9); (rename News _ _ _ _ => N9)
  show wpAny _ _ _ _ _ ⟨_, sg, sd, _, so⟩
  refine same_P F9 (drop1 N9) ?_ ?_ <;> clear F9 N9
  · intro F9 N9 P hP
    (repeat (rename _ => z9; (fail_if_success (have := Keep.out z9)); revert z9)); exact kP.out
  · intro h' tk' F9 N9
    (repeat (rename _ => z9; (fail_if_success (have := Keep.out z9)); revert z9)); exact kR.out
noncomputable def l3 : Cut2 l2.R := by
  apply Cut2.mk
  intro kP kR
  w_top off
  delta l2
  dsimp only
  intros
  (rename Array GenState => sg); (rename Drawn => sd); (rename OsState => so)
  k_steps
  refine Box.mk ?_
  (rename Fr _ _ _ _ => F9); (rename News _ _ _ _ => N9)
  show wpAny _ _ _ _ _ ⟨_, sg, sd, _, so⟩
  refine loop_P F9 N9 ?_ ?_ <;> clear F9 N9
  · intro F9 N9 P hP
    (repeat (rename _ => z9; (fail_if_success (have := Keep.out z9)); revert z9)); exact kP.out
  · intro a b c h' tk' F9 N9
    (repeat (rename _ => z9; (fail_if_success (have := Keep.out z9)); revert z9)); exact kR.out
-- VS5
theorem kw19 : True := by
  k_with_none
  k_with "k_all" => (first | exact ne_of_lts (by with_reducible assumption) | exact ne_of_allLt (by with_reducible assumption) | exact ne_of_off1 (by with_reducible assumption) | exact ne_of_allLt (And.right (by with_reducible assumption)) | exact ne_of_off1 (And.right (by with_reducible assumption)) | exact ne_of_allLt (And.right (And.right (by with_reducible assumption))) | exact ne_of_off1 (And.right (And.right (by with_reducible assumption))) | exact ne_of_allLt (And.right (And.right (And.right (by with_reducible assumption)))) | exact ne_of_off1 (And.right (And.right (And.right (by with_reducible assumption)))) | with_reducible assumption)
  k_with "k_ne" => ((refine neN ?_; (try dsimp only); first | exact NeA.out (by with_reducible assumption) | exact Ne.symm (NeA.out (by with_reducible assumption)) | with_reducible assumption | exact Ne.symm (by with_reducible assumption)))
  k_with "mine.dec" => (((try simp only [fd4, decide_eq_true_eq, beq_iff_eq, bne_iff_ne, Bool.not_eq_true', Bool.not_eq_true, Bool.not_eq_false', beq_eq_false_iff_ne, decide_eq_false_iff_not]); omega))
  k_with "ite" => (first | (refine ite_neg ?cn ?_; (case cn => walk_at "mine.dec")) | (refine ite_pos ?cn ?_; (case cn => walk_at "mine.dec")))
  k_with "kba_size" => (exact Nat.le_trans (by assumption) (by decide))
  k_with "call ref" => ((refine unbox ?_))
  k_with "CompSrc" => (((rename NeA _ _ => z9q); refine unbox ?_))
  k_with "eval ListComp" => (((rename NeA _ _ => z9q); refine unbox ?_))
  k_with "execs cons" => ((k_here; (fail_if_success (with_reducible show wpAny _ _ (execs (Stmt.If (Expr.Compare _ [CmpOp.In] _ _) _ _ _ :: _) _) _ _ _)); (with_reducible show wpAny _ _ (execs (Stmt.If _ _ _ _ :: _) _) _ _ _); refine unbox ?_))
  k_with "execs cons" => ((k_here; (with_reducible show wpAny _ _ (execs (Stmt.For _ _ _ _ _ :: _) _) _ _ _); refine unbox ?_))
  k_with "execs cons" => ((k_here; (with_reducible show wpAny _ _ (execs (Stmt.Assign [Expr.Name _ _] (Expr.Call (Expr.Attribute _ _ _) _ _ _) _ :: _) _) _ _ _); refine unbox ?_))
  k_with "getMethod" => ((with_reducible refine method_join ?_))
  k_with "exec If" => ((refine wpAny_If ?_))
  k_with "compareOp Lt bytes bytes" => ((refine unbox ?_))
  k_with "compareOp Eq bytes bytes" => ((refine unbox ?_))
  exact True.intro
theorem s5_ok : l2.P := by
  w_top off
  delta l2
  dsimp only
  intros
  (rename Array GenState => sg); (rename Drawn => sd); (rename OsState => so)
  (rename (∀ _ _, _ → _ → _) => hP)
  (rename (List.length _ = List.length _) => hl9)
  refine s5_split hl9 (by assumption) (by assumption) (by assumption) ?_
  intro x y hx1 hx2 hy1 hy2
  cases x <;> cases y
  all_goals
    k_steps
    refine Box.mk ?_
    refine lt_K (by assumption) (by assumption) (by assumption) ?_
    k_steps
    refine Box.mk ?_
    refine lt_K (by assumption) (by assumption) (by assumption) ?_
    k_steps
    refine Box.mk ?_
    refine eq_K (by assumption) (by assumption) (by assumption) ?_
    k_steps
    refine Box.mk ?_
    refine eq_K (by assumption) (by assumption) (by assumption) ?_
    k_steps
    (rename Fr _ _ _ _ => F9); (rename News _ _ _ _ => N9)
    exact hP _ _ F9 N9
-- VL4
structure Pack (h₀ : Heap) (L : Addr) (h : Heap) (m : PySem.Str → Option Value) (news : Led) (b : Array UInt8) (t : Tok) (b9 : Array UInt8) (t9 : Tok) (ks : List Int) : Prop where
  F : Fr h₀ L h (fun y => if y = Str.ofString "coded" then some (.bytes b9 t9) else if y = Str.ofString "octets" then some (.bytes b t) else m y)
  N : News h₀ L h news
  hb : KBw.bInts b = ks
  h9 : KBw.bInts b9 = enc ks ++ [126, 62]
  hin : InO ks
  hm : ks.length % 4 = 0
  h4 : 4 ≤ ks.length
  h12 : ks.length ≤ 12
section
variable {M : Model} {A : Around} {E : Value → Shared → Prop} {env : Env} {sh : Heap} {sg : Array GenState} {sd : Drawn} {st : Nat} {so : OsState} {Q : Flow → Shared → Prop} {h₀ : Heap} {L : Addr} {m : PySem.Str → Option Value}
abbrev TurnG (M : Model) (A : Around) (E : Value → Shared → Prop) (env : Env) (sg : Array GenState) (sd : Drawn) (so : OsState) (h₀ : Heap) (L : Addr) (body : List Stmt) : Prop :=
  ∀ (b : Array UInt8) (t : Tok) (b9 : Array UInt8) (t9 : Tok) (ks : List Int) (m : PySem.Str → Option Value) (news : Led) (sh : Heap) (st : Nat) (P : Flow → Shared → Prop), Pack h₀ L sh m news b t b9 t9 ks →
    (∀ a h' tk', Fr h₀ L h' (fun y => if y = Str.ofString "at" then a else if y = Str.ofString "coded" then some (.bytes b9 t9) else if y = Str.ofString "octets" then some (.bytes b t) else m y) → News h₀ L h' news → P .next ⟨h', sg, sd, tk', so⟩) →
    wpAny M A (execs body env) P E ⟨sh, sg, sd, st, so⟩
theorem for_turns {tgt it : PySem.Expr} {body orelse : List Stmt} {pos : Pos} (_F : Fr h₀ L sh m) (hT : TurnG M A E env sg sd so h₀ L body) (h : TurnG M A E env sg sd so h₀ L body → wpAny M A (exec (.For tgt it body orelse pos) env) Q E ⟨sh, sg, sd, st, so⟩) :
    wpAny M A (exec (.For tgt it body orelse pos) env) Q E ⟨sh, sg, sd, st, so⟩ := h hT
end
theorem loop_F {h₀ h : Heap} {L : Addr} {m m' : PySem.Str → Option Value} (F : Fr h₀ L h m') (hm : ∀ y, y ≠ Str.ofString "octets" → y ≠ Str.ofString "coded" → y ≠ Str.ofString "at" → m' y = m y) : ∃ a b c, Fr h₀ L h (fun y => if y = Str.ofString "octets" then a else if y = Str.ofString "coded" then b else if y = Str.ofString "at" then c else m y) := by
  refine ⟨m' (Str.ofString "octets"), m' (Str.ofString "coded"), m' (Str.ofString "at"), ?_⟩
  have e : m' = fun y => if y = Str.ofString "octets" then m' (Str.ofString "octets") else if y = Str.ofString "coded" then m' (Str.ofString "coded") else if y = Str.ofString "at" then m' (Str.ofString "at") else m y := by
    funext y
    by_cases h1 : y = Str.ofString "octets"
    · rw [if_pos h1, h1]
    · rw [if_neg h1]
      by_cases h2 : y = Str.ofString "coded"
      · rw [if_pos h2, h2]
      · rw [if_neg h2]
        by_cases h3 : y = Str.ofString "at"
        · rw [if_pos h3, h3]
        · rw [if_neg h3]; exact hm y h1 h2 h3
  rw [← e]; exact F
section
variable {prog : Program} {w : World} {A : Around} {E : Value → Shared → Prop} {env : Env} {sh : Heap} {sg : Array GenState} {sd : Drawn} {st : Nat} {so : OsState} {h₀ : Heap}
theorem krs_atP {body : List Stmt} {Q : Flow → Shared → Prop} {r : Addr} {n g : Nat} {t₀ u₀ v₀ : Tok} {m₀ : PySem.Str → Option Value} {news : Led}
    (hh : A.handled = none) (hr : IsRange sh r 0 (n : Int) 4 t₀ u₀ v₀) (hn : n = 4 * g) (hg : g ≤ 3) (F : Fr h₀ env.locals sh m₀) (N : News h₀ env.locals sh news)
    (turn : ∀ (I : Addr) (it : Obj) (i : Nat) (t : Tok) (h : Heap) (tk : Nat) (P : Flow → Shared → Prop), At i g → (∀ p ∈ news, p.1 ≠ I) →
      (∀ h' tk', Fr h₀ env.locals h' (fun y => if y = Str.ofString "at" then some (.int (0 + (i : Int) * 4) t) else m₀ y) → News h₀ env.locals h' ((I, it) :: news) → P .next ⟨h', sg, sd, tk', so⟩) →
      Fr h₀ env.locals h (fun y => if y = Str.ofString "at" then some (.int (0 + (i : Int) * 4) t) else m₀ y) → News h₀ env.locals h ((I, it) :: news) →
      wpAny (model prog w) A (execs body env) P E ⟨h, sg, sd, tk, so⟩)
    (done : ∀ c h tk, Fr h₀ env.locals h (fun y => if y = Str.ofString "at" then c else m₀ y) → News h₀ env.locals h news → Q .next ⟨h, sg, sd, tk, so⟩) :
    wpAny (model prog w) A (pyIter (.ref r)) (fun it s₂ => LoopAtV prog w A h₀ env (Str.ofString "at") body Q E it s₂) E ⟨sh, sg, sd, st, so⟩ := by
  refine krs_invP (n := (n + 3) / 4) (fun i m nx => nx = news ∧ ∀ y, y ≠ Str.ofString "at" → m y = m₀ y) hh hr (small4 _ (by omega)) (range4 _) F N ⟨rfl, fun _ _ => rfl⟩ ?_ ?_
  · rintro I it i m₁ nx t h tk P hi off ⟨rfl, hm⟩ hend - F1 N1
    exact turn I it i t h tk P ⟨by omega⟩ off (fun h' tk' F' N' => hend _ _ _ _ ⟨rfl, fun y hy => if_neg hy⟩ off F' N') (atF F1 hm) N1
  · rintro m₁ nx h tk ⟨rfl, hm⟩ F1 N1
    refine done (m₁ (Str.ofString "at")) h tk ?_ N1
    have e : m₁ = fun y => if y = Str.ofString "at" then m₁ (Str.ofString "at") else m₀ y := by
      funext y
      by_cases h1 : y = Str.ofString "at"
      · rw [if_pos h1, h1]
      · rw [if_neg h1]; exact hm y h1
    rw [← e]; exact F1
end
theorem kw20 : True := by
  k_with_none
  k_with "k_all" => (first | exact ne_of_lts (by with_reducible assumption) | exact ne_of_allLt (by with_reducible assumption) | exact ne_of_off1 (by with_reducible assumption) | exact ne_of_allLt (And.right (by with_reducible assumption)) | exact ne_of_off1 (And.right (by with_reducible assumption)) | exact ne_of_allLt (And.right (And.right (by with_reducible assumption))) | exact ne_of_off1 (And.right (And.right (by with_reducible assumption))) | exact ne_of_allLt (And.right (And.right (And.right (by with_reducible assumption)))) | exact ne_of_off1 (And.right (And.right (And.right (by with_reducible assumption)))) | with_reducible assumption)
  k_with "k_ne" => ((refine neN ?_; (try dsimp only); first | exact NeA.out (by with_reducible assumption) | exact Ne.symm (NeA.out (by with_reducible assumption)) | with_reducible assumption | exact Ne.symm (by with_reducible assumption)))
  k_with "mine.dec" => (((try simp only [fd4, decide_eq_true_eq, beq_iff_eq, bne_iff_ne, Bool.not_eq_true', Bool.not_eq_true, Bool.not_eq_false', beq_eq_false_iff_ne, decide_eq_false_iff_not]); omega))
  k_with "ite" => (first | (refine ite_neg ?cn ?_; (case cn => walk_at "mine.dec")) | (refine ite_pos ?cn ?_; (case cn => walk_at "mine.dec")))
  k_with "kba_size" => (exact Nat.le_trans (by assumption) (by decide))
  k_with "call ref" => ((refine unbox ?_))
  k_with "CompSrc" => (((rename NeA _ _ => z9q); refine unbox ?_))
  k_with "eval ListComp" => (((rename NeA _ _ => z9q); refine unbox ?_))
  k_with "execs cons" => ((k_here; (fail_if_success (with_reducible show wpAny _ _ (execs (Stmt.If (Expr.Compare _ [CmpOp.In] _ _) _ _ _ :: _) _) _ _ _)); (with_reducible show wpAny _ _ (execs (Stmt.If _ _ _ _ :: _) _) _ _ _); refine unbox ?_))
  k_with "execs cons" => ((k_here; (with_reducible show wpAny _ _ (execs (Stmt.For _ _ _ _ _ :: _) _) _ _ _); refine unbox ?_))
  k_with "execs cons" => ((k_here; (with_reducible show wpAny _ _ (execs (Stmt.Assign [Expr.Name _ _] (Expr.Call (Expr.Attribute _ _ _) _ _ _) _ :: _) _) _ _ _); refine unbox ?_))
  k_with "getMethod" => ((with_reducible refine method_join ?_))
  exact True.intro
noncomputable def l4 : Cut1 l3.P := by
  apply Cut1.mk
  intro kT
  w_top off
  delta l3
  dsimp only
  intros
  (rename Array GenState => sg); (rename Drawn => sd); (rename OsState => so)
  (rename (∀ _ _ _ _ _, _ → _ → _) => hP)
  (rename Fr _ _ _ _ => F9); (rename News _ _ _ _ => N9)
  refine for_turns F9 ?_ ?_
  · clear F9 N9
    intro b t b9 t9 ks m news sh st P pk hP
    (repeat (rename _ => z9; (fail_if_success (have := Keep.out z9)); revert z9)); exact kT.out
  · intro hT
    k_steps
    refine Box.mk ?_
    (rename Fr _ _ _ _ => F9); (rename News _ _ _ _ => N9)
    show wpAny _ _ _ _ _ ⟨_, sg, sd, _, so⟩
    (rename (KBw.bInts _ = enc _ ++ _) => e8); revert e8; (rename (KBw.bInts _ = enc _ ++ _) => e7); intro e8
    refine hT _ _ _ _ _ _ _ _ _ _ ⟨F9, N9, by assumption, e7, by assumption, by assumption, by assumption, by assumption⟩ ?_
    clear F9 N9
    intro a h' tk' F9 N9
    k_steps
    refine Box.mk ?_
    (rename Fr _ _ _ _ => F9); (rename News _ _ _ _ => N9)
    show wpAny _ _ _ _ _ ⟨_, sg, sd, _, so⟩
    refine hT _ _ _ _ _ _ _ _ _ _ ⟨F9, N9, by assumption, e8, by assumption, by omega, by omega, by omega⟩ ?_
    clear F9 N9
    intro a2 h' tk' F9 N9
    k_steps
    (rename Fr _ _ _ _ => F9); (rename News _ _ _ _ => N9)
    obtain ⟨x9, y9, z9, F7⟩ := loop_F F9 (fun y h1 h2 h3 => by simp only [h1, h2, h3, if_false]; rfl)
    exact hP _ _ _ _ _ F7 (drop1 (drop1 (drop1 N9)))
-- VT6
theorem kw21 : True := by
  k_with_none
  k_with "k_all" => (first | exact ne_of_lts (by with_reducible assumption) | exact ne_of_allLt (by with_reducible assumption) | exact ne_of_off1 (by with_reducible assumption) | exact ne_of_allLt (And.right (by with_reducible assumption)) | exact ne_of_off1 (And.right (by with_reducible assumption)) | exact ne_of_allLt (And.right (And.right (by with_reducible assumption))) | exact ne_of_off1 (And.right (And.right (by with_reducible assumption))) | exact ne_of_allLt (And.right (And.right (And.right (by with_reducible assumption)))) | exact ne_of_off1 (And.right (And.right (And.right (by with_reducible assumption)))) | with_reducible assumption)
  k_with "k_ne" => ((refine neN ?_; (try dsimp only); first | exact NeA.out (by with_reducible assumption) | exact Ne.symm (NeA.out (by with_reducible assumption)) | with_reducible assumption | exact Ne.symm (by with_reducible assumption)))
  k_with "mine.dec" => (((try simp only [fd4, decide_eq_true_eq, beq_iff_eq, bne_iff_ne, Bool.not_eq_true', Bool.not_eq_true, Bool.not_eq_false', beq_eq_false_iff_ne, decide_eq_false_iff_not]); omega))
  k_with "ite" => (first | (refine ite_neg ?cn ?_; (case cn => walk_at "mine.dec")) | (refine ite_pos ?cn ?_; (case cn => walk_at "mine.dec")))
  k_with "kba_size" => (exact Nat.le_trans (by assumption) (by decide))
  k_with "call ref" => ((refine unbox ?_))
  k_with "CompSrc" => (((rename NeA _ _ => z9q); refine unbox ?_))
  k_with "eval ListComp" => (((rename NeA _ _ => z9q); refine unbox ?_))
  k_with "execs cons" => ((k_here; (fail_if_success (with_reducible show wpAny _ _ (execs (Stmt.If (Expr.Compare _ [CmpOp.In] _ _) _ _ _ :: _) _) _ _ _)); (with_reducible show wpAny _ _ (execs (Stmt.If _ _ _ _ :: _) _) _ _ _); refine unbox ?_))
  k_with "execs cons" => ((k_here; (with_reducible show wpAny _ _ (execs (Stmt.For _ _ _ _ _ :: _) _) _ _ _); refine unbox ?_))
  k_with "execs cons" => ((k_here; (with_reducible show wpAny _ _ (execs (Stmt.Assign [Expr.Name _ _] (Expr.Call (Expr.Attribute _ _ _) _ _ _) _ :: _) _) _ _ _); refine unbox ?_))
  k_with "getMethod" => ((with_reducible refine method_join ?_))
  k_with "exec If" => ((refine wpAny_If ?_))
  k_with "subscriptTail" => ((k_here; (with_reducible show wpAny _ _ (subscriptTail _ (Expr.Slice _ _ none _) (Value.bytes _ _) (Value.ref _)) _ _ _); (with_reducible rename Fr _ _ _ _ => F9q); (with_reducible rename News _ _ _ _ => N9q); (refine slice_V (s := ⟨_, _, _, _, _⟩) F9q N9q (by assumption) (by constructor) (by constructor) (by kba_size) (by walk_at "mine.slice") ?_); clear F9q N9q; intro _ _ _ F9q N9q K9q))
  k_with "compareOp NotEq bytes bytes" => ((k_here; (with_reducible show wpAny _ _ (compareOp CmpOp.NotEq (Value.bytes _ _) (Value.bytes _ _)) _ _ _); refine ne_K (by walk_at "mine.beq") ?_))
  k_with "call builtin:min" => ((refine unbox ?_))
  k_with "call builtin:max" => ((refine unbox ?_))
  k_with "mine.slice" => ((first | exact sl4 (by assumption) (by assumption) (by omega) (by omega) | exact sl5 (by assumption) (by assumption) (by simp only [fd4]; omega) (by simp only [fd4]; omega) | exact sl_tail2 (by assumption) (by rfl) | exact sl_init2 (by assumption) (by rfl)))
  k_with "mine.beq" => ((first | exact Eq.trans (by assumption) (Eq.symm (by first | assumption | k_dflt rfl)) | assumption | k_dflt rfl))
  k_with "pyIter" => (((rename IsRange _ _ _ _ _ _ _ _ => R9q); refine unbox ?_))
  exact True.intro
theorem t6_ok : l4.P := by
  w_top off
  delta l4
  dsimp only
  intros
  (rename Array GenState => sg); (rename Drawn => sd); (rename OsState => so)
  (rename Pack _ _ _ _ _ _ _ _ _ _ => pk)
  (rename (∀ _ _ _, _ → _ → _) => hP)
  obtain ⟨F9, N9, hks, e7, hin, hm, h4, h12⟩ := pk
  refine s6_facts hks e7 hin hm h4 h12 ?_
  intro g cs hb hb9 hcs hin hkl hcl hel hg1 hg3
  have hD := dec_of hcs hin (by omega)
  have hc17 : cs.length ≤ 17 := by omega
  clear e7
  refine same_P F9 N9 ?_ ?_ <;> clear F9 N9
  · intro F9 N9 P hP'
    k_steps
    refine Box.mk ?_
    (rename Fr _ _ _ _ => F9); (rename News _ _ _ _ => N9)
    refine min_bytes (by rfl) F9 N9 (by assumption) (by omega) ?_
    clear F9 N9
    intro k9 t9 h9 tk9 hm9 F9 N9
    replace hm9 := enc_in _ _ hm9
    k_steps
    refine Box.mk ?_
    (rename Fr _ _ _ _ => F9); (rename News _ _ _ _ => N9)
    refine max_bytes (by rfl) F9 N9 (by assumption) (by omega) ?_
    clear F9 N9
    intro k9 t9 h9 tk9 hm9 F9 N9
    replace hm9 := enc_in _ _ hm9
    k_steps
    (rename Fr _ _ _ _ => F9); (rename News _ _ _ _ => N9)
    exact hP' _ _ F9 N9
  intro h9 k9 F9 N9
  refine same_P F9 N9 ?_ ?_ <;> clear F9 N9
  · intro F9 N9 P hP'
    k_steps
    refine Box.mk ?_
    (rename Fr _ _ _ _ => F9); (rename News _ _ _ _ => N9)
    k_dflt refine' decodedV_ok _ _ _ _ _ _ _ _ _ _ _ _ _ _ _ _ _ _ _ _ _ _ _ _ _ _ _ ?k1 F9 ?k3 N9 ?k5 ?k6 ⟨?ka, ?kb⟩ ?k9 ?k10 ?_
    case k1 => k_asm
    case k3 => k_asm
    case k5 => k_asm
    case k6 => first | exact rfl | assumption
    case ka => assumption
    case kb => assumption
    case k9 => ktr_room
    case k10 => ktr_units
    clear F9 N9
    intro b9 t9 h9 tk9 hb9 F9 N9
    k_steps
    (rename Fr _ _ _ _ => F9); (rename News _ _ _ _ => N9)
    exact hP' _ _ F9 N9
  intro h9 k9 F9 N9
  refine at_P F9 N9 ?_ ?_ <;> clear F9 N9
  · intro F9 N9 P hP'
    k_steps
    refine Box.mk ?_
    (rename IsRange _ _ _ _ _ _ _ _ => R9); (rename Fr _ _ _ _ => F9); (rename News _ _ _ _ => N9)
    show wpAny _ _ _ _ _ ⟨_, sg, sd, _, so⟩
    with_unfolding_all refine krs_atP rfl R9 hkl hg3 F9 N9 ?_ ?_
    · intro I it i t h tk P hA off hP8 F8 N8
      clear F9 N9 R9
      refine wn_at hA hcs hin hkl ?_
      intro V hV1 hV2
      k_steps
      try refine Box.mk ?_
      (rename Fr _ _ _ _ => F9); (rename News _ _ _ _ => N9)
      show wpAny _ _ _ _ _ ⟨_, sg, sd, _, so⟩
      refine same_P F9 N9 ?_ ?_ <;> clear F9 N9
      · intro F9 N9 P2 hP2
        k_steps
        refine Box.mk ?_
        (rename Fr _ _ _ _ => F9); (rename News _ _ _ _ => N9)
        k_dflt refine' worthV_ok _ _ _ _ _ _ _ _ _ _ _ _ _ _ _ _ _ _ _ _ _ _ _ _ _ _ ?k1 F9 ?k3 N9 ?k5 ?k6 ⟨?ka, ?kb⟩ ?k9 ?k10 ?_
        case k1 => k_asm
        case k3 => k_asm
        case k5 => k_asm
        case k6 => first | exact rfl | assumption
        case ka => assumption
        case kb => assumption
        case k9 => ktr_room
        case k10 => ktr_units
        clear F9 N9
        intro t9 h9 tk9 F9 N9
        k_steps
        refine Box.mk ?_
        (rename Fr _ _ _ _ => F9); (rename News _ _ _ _ => N9)
        k_dflt refine' numberV_ok _ _ _ _ _ _ _ _ _ _ _ _ _ _ _ _ _ _ _ _ _ _ _ _ _ _ ?k1 F9 ?k3 N9 ?k5 ?k6 ⟨?ka, ?kb⟩ ?k9 ?k10 ?_
        case k1 => k_asm
        case k3 => k_asm
        case k5 => k_asm
        case k6 => first | exact rfl | assumption
        case ka => assumption
        case kb => assumption
        case k9 => ktr_room
        case k10 => ktr_units
        clear F9 N9
        intro t9 h9 tk9 F9 N9
        k_steps
        (rename Fr _ _ _ _ => F9); (rename News _ _ _ _ => N9)
        exact hP2 _ _ F9 N9
      · intro h7 k7 F9 N9
        k_steps
        (rename Fr _ _ _ _ => F9); (rename News _ _ _ _ => N9)
        exact hP8 _ _ F9 N9
    · intro c h tk F8 N8
      exact hP' _ _ _ F8 N8
  intro c9 h9 k9 F9 N9
  k_steps
  (rename Fr _ _ _ _ => F9); (rename News _ _ _ _ => N9)
  exact hP _ _ _ F9 N9
-- VL5
theorem len_w {k p e w : Nat} {d : Int} (l3 : (e : Int) = (p : Int) / 4 * 5) (l5 : (w : Int) = (e : Int) + 6 - d) (l1 : (k : Int) = (p : Int) + 4) (h12 : k ≤ 12) (h0 : 0 ≤ d) (h3 : d < 3) : w ≤ 16 := by omega
section
variable {M : Model} {A : Around} {E : Value → Shared → Prop} {env : Env} {sh : Heap} {sg : Array GenState} {sd : Drawn} {st : Nat} {so : OsState} {stm : Stmt} {rest : List Stmt} {Q : Flow → Shared → Prop} {h₀ : Heap} {L : Addr} {m : PySem.Str → Option Value}
theorem cut_U {u l : Addr} {k : Int} {tk : Tok} {n n' : Nat} {vs : List Value} {ns : List Int} {X : Led} (_ : Urn u l k tk n n' vs ns X) (F : Fr h₀ L sh m) (N : News h₀ L sh (urnLed u l k tk n n' vs X))
    (h1 : Fr h₀ L sh m → News h₀ L sh (urnLed u l k tk n n' vs X) → ∀ P : Flow → Shared → Prop, (∀ d t h' tk', 0 ≤ d → d < 3 → Fr h₀ L h' (fun y => if y = Str.ofString "cut" then some (.int (1 + d) t) else m y) → News h₀ L h' X → P .next ⟨h', sg, sd, tk', so⟩) → wpAny M A (exec stm env) P E ⟨sh, sg, sd, st, so⟩)
    (h2 : ∀ d t h' tk', 0 ≤ d → d < 3 → Fr h₀ L h' (fun y => if y = Str.ofString "cut" then some (.int (1 + d) t) else m y) → News h₀ L h' X → wpAny M A (execs rest env) Q E ⟨h', sg, sd, tk', so⟩) : wpAny M A (execs (stm :: rest) env) Q E ⟨sh, sg, sd, st, so⟩ := cut_P F N h1 h2
end
theorem kw22 : True := by
  k_with_none
  k_with "k_all" => (first | exact ne_of_lts (by with_reducible assumption) | exact ne_of_allLt (by with_reducible assumption) | exact ne_of_off1 (by with_reducible assumption) | exact ne_of_allLt (And.right (by with_reducible assumption)) | exact ne_of_off1 (And.right (by with_reducible assumption)) | exact ne_of_allLt (And.right (And.right (by with_reducible assumption))) | exact ne_of_off1 (And.right (And.right (by with_reducible assumption))) | exact ne_of_allLt (And.right (And.right (And.right (by with_reducible assumption)))) | exact ne_of_off1 (And.right (And.right (And.right (by with_reducible assumption)))) | with_reducible assumption)
  k_with "k_ne" => ((refine neN ?_; (try dsimp only); first | exact NeA.out (by with_reducible assumption) | exact Ne.symm (NeA.out (by with_reducible assumption)) | with_reducible assumption | exact Ne.symm (by with_reducible assumption)))
  k_with "mine.dec" => (((try simp only [fd4, decide_eq_true_eq, beq_iff_eq, bne_iff_ne, Bool.not_eq_true', Bool.not_eq_true, Bool.not_eq_false', beq_eq_false_iff_ne, decide_eq_false_iff_not]); omega))
  k_with "ite" => (first | (refine ite_neg ?cn ?_; (case cn => walk_at "mine.dec")) | (refine ite_pos ?cn ?_; (case cn => walk_at "mine.dec")))
  k_with "kba_size" => (exact Nat.le_trans (by assumption) (by decide))
  k_with "call ref" => ((refine unbox ?_))
  k_with "CompSrc" => (((rename NeA _ _ => z9q); refine unbox ?_))
  k_with "eval ListComp" => (((rename NeA _ _ => z9q); refine unbox ?_))
  k_with "execs cons" => ((k_here; (fail_if_success (with_reducible show wpAny _ _ (execs (Stmt.If (Expr.Compare _ [CmpOp.In] _ _) _ _ _ :: _) _) _ _ _)); (with_reducible show wpAny _ _ (execs (Stmt.If _ _ _ _ :: _) _) _ _ _); refine unbox ?_))
  k_with "execs cons" => ((k_here; (with_reducible show wpAny _ _ (execs (Stmt.For _ _ _ _ _ :: _) _) _ _ _); refine unbox ?_))
  k_with "execs cons" => ((k_here; (with_reducible show wpAny _ _ (execs (Stmt.Assign [Expr.Name _ _] (Expr.Call (Expr.Attribute _ _ _) _ _ _) _ :: _) _) _ _ _); refine unbox ?_))
  k_with "getMethod" => ((with_reducible refine method_join ?_))
  k_with "exec If" => ((refine wpAny_If ?_))
  k_with "subscriptTail" => ((k_here; (with_reducible show wpAny _ _ (subscriptTail _ (Expr.Slice _ _ none _) (Value.bytes _ _) (Value.ref _)) _ _ _); (with_reducible rename Fr _ _ _ _ => F9q); (with_reducible rename News _ _ _ _ => N9q); (refine slice_V (s := ⟨_, _, _, _, _⟩) F9q N9q (by assumption) (by constructor) (by constructor) (by kba_size) (by walk_at "mine.slice") ?_); clear F9q N9q; intro _ _ _ F9q N9q K9q))
  k_with "compareOp NotEq bytes bytes" => ((k_here; (with_reducible show wpAny _ _ (compareOp CmpOp.NotEq (Value.bytes _ _) (Value.bytes _ _)) _ _ _); refine ne_K (by walk_at "mine.beq") ?_))
  k_with "mine.slice" => ((first | exact sl_pre' (by assumption) (by (try simp only [fd4, List.length_append]); omega) | exact sl_in (by assumption) (by (try simp only [List.length_append]); omega) (by (try simp only [List.length_append]); omega) | exact sl_in2 (by assumption) (by (try simp only [fd4]); omega) (by rfl)))
  k_with "mine.beq" => ((first | exact Eq.trans (by assumption) (Eq.symm (by first | assumption | k_dflt rfl)) | assumption | k_dflt rfl))
  exact True.intro
noncomputable def l5 : Cut2 l3.R := by
  apply Cut2.mk
  intro kP kR
  w_top off
  delta l3
  dsimp only
  intros
  (rename Array GenState => sg); (rename Drawn => sd); (rename OsState => so)
  (rename (KBw.bInts _ = enc _ ++ _) => e8); revert e8; (rename (KBw.bInts _ = enc _ ++ _) => e7); intro e8
  (rename Fr _ _ _ _ => F9); (rename News _ _ _ _ => N9); (rename Urn _ _ _ _ _ _ _ _ _ => U9)
  refine cut_U U9 F9 N9 ?_ ?_ <;> clear F9 N9
  · intro F9 N9 P hP
    k_steps
    try refine Box.mk ?_
    (rename Fr _ _ _ _ => F9); (rename News _ _ _ _ => N9)
    k_dflt refine' pull_ok _ _ _ _ _ _ _ _ _ _ _ _ _ _ _ _ _ _ _ _ _ _ _ _ _ _ _ _ _ _ _ _ ?k1 F9 ?k3 N9 ?k5 ?k6 ⟨U9, by decide, by decide⟩ ?k9 ?k10 ?_
    case k1 => k_asm
    case k3 => k_asm
    case k5 => k_asm
    case k6 => first | exact rfl | assumption
    case k9 => ktr_room
    case k10 => ktr_units
    clear F9 N9
    rintro _ k8 tk8 n8 p8 vs8 ns8 h8 r8 ⟨d8, t8, rfl, b8, c8⟩ U9 F9 N9
    k_steps
    (rename Fr _ _ _ _ => F9); (rename News _ _ _ _ => N9)
    exact hP _ _ _ _ b8 c8 F9 (drop1 (drop1 N9))
  clear U9
  intro d t h9 k9 h0 h3 F9 N9
  refine cut_factsB e7 (by assumption) (by assumption) (by omega) (by omega) (by omega) h0 h3 ?_
  intro cs hcs p q r ws V hcl hks hzq hlq hiq hpk hpc hws hpw hw2 hD l1 l2 l3 l4 l5 v1 v2 v3 v4
  clear e8
  refine less_P ws F9 N9 ?_ ?_ <;> clear F9 N9
  · intro F9 N9 P hP
    k_steps
    refine Box.mk ?_
    (rename Fr _ _ _ _ => F9); (rename News _ _ _ _ => N9)
    k_dflt refine' encoded_ok _ _ _ _ _ _ _ _ _ _ _ _ _ _ _ _ _ _ _ _ _ _ _ _ _ ?k1 F9 ?k3 N9 ?k5 ?k6 ⟨Eq.symm ?ka, ?kb, ?kc⟩ ?k9 ?k10 ?_
    case k1 => k_asm
    case k3 => k_asm
    case k5 => k_asm
    case k6 => first | exact rfl | assumption
    case ka => assumption
    case kb => omega
    case kc => assumption
    case k9 => ktr_room
    case k10 => ktr_units
    clear F9 N9
    intro b9 t9 h9 tk9 hb9 F9 N9
    k_steps
    (rename Fr _ _ _ _ => F9); (rename News _ _ _ _ => N9)
    exact hP _ _ _ _ (hb9.trans hws) F9 N9
  intro b9 t9 h9 k9 hb9 F9 N9
  k_steps
  refine Box.mk ?_
  (rename Fr _ _ _ _ => F9); (rename News _ _ _ _ => N9)
  show wpAny _ _ _ _ _ ⟨_, sg, sd, _, so⟩
  refine same_P F9 N9 ?_ ?_ <;> clear F9 N9
  · intro F9 N9 P hP
    (repeat (rename _ => z9; (fail_if_success (have := Keep.out z9)); revert z9)); exact kP.out
  · intro h' tk' F9 N9
    (repeat (rename _ => z9; (fail_if_success (have := Keep.out z9)); revert z9)); exact kR.out
noncomputable def l7 : Cut2 l5.R := by
  apply Cut2.mk
  intro kP kR
  w_top off
  delta l5
  dsimp only
  intros
  (rename Array GenState => sg); (rename Drawn => sd); (rename OsState => so)
  (rename Fr _ _ _ _ => F9); (rename News _ _ _ _ => N9)
  refine same_P F9 N9 ?_ ?_ <;> clear F9 N9
  · intro F9 N9 P hP
    (repeat (rename _ => z9; (fail_if_success (have := Keep.out z9)); revert z9)); exact kP.out
  · intro h' tk' F9 N9
    (repeat (rename _ => z9; (fail_if_success (have := Keep.out z9)); revert z9)); exact kR.out
-- VC6
theorem kw23 : True := by
  k_with_none
  k_with "k_all" => (first | exact ne_of_lts (by with_reducible assumption) | exact ne_of_allLt (by with_reducible assumption) | exact ne_of_off1 (by with_reducible assumption) | exact ne_of_allLt (And.right (by with_reducible assumption)) | exact ne_of_off1 (And.right (by with_reducible assumption)) | exact ne_of_allLt (And.right (And.right (by with_reducible assumption))) | exact ne_of_off1 (And.right (And.right (by with_reducible assumption))) | exact ne_of_allLt (And.right (And.right (And.right (by with_reducible assumption)))) | exact ne_of_off1 (And.right (And.right (And.right (by with_reducible assumption)))) | with_reducible assumption)
  k_with "k_ne" => ((refine neN ?_; (try dsimp only); first | exact NeA.out (by with_reducible assumption) | exact Ne.symm (NeA.out (by with_reducible assumption)) | with_reducible assumption | exact Ne.symm (by with_reducible assumption)))
  k_with "mine.dec" => (((try simp only [fd4, decide_eq_true_eq, beq_iff_eq, bne_iff_ne, Bool.not_eq_true', Bool.not_eq_true, Bool.not_eq_false', beq_eq_false_iff_ne, decide_eq_false_iff_not]); omega))
  k_with "ite" => (first | (refine ite_neg ?cn ?_; (case cn => walk_at "mine.dec")) | (refine ite_pos ?cn ?_; (case cn => walk_at "mine.dec")))
  k_with "kba_size" => (exact Nat.le_trans (by assumption) (by decide))
  k_with "call ref" => ((refine unbox ?_))
  k_with "CompSrc" => (((rename NeA _ _ => z9q); refine unbox ?_))
  k_with "eval ListComp" => (((rename NeA _ _ => z9q); refine unbox ?_))
  k_with "execs cons" => ((k_here; (fail_if_success (with_reducible show wpAny _ _ (execs (Stmt.If (Expr.Compare _ [CmpOp.In] _ _) _ _ _ :: _) _) _ _ _)); (with_reducible show wpAny _ _ (execs (Stmt.If _ _ _ _ :: _) _) _ _ _); refine unbox ?_))
  k_with "execs cons" => ((k_here; (with_reducible show wpAny _ _ (execs (Stmt.For _ _ _ _ _ :: _) _) _ _ _); refine unbox ?_))
  k_with "execs cons" => ((k_here; (with_reducible show wpAny _ _ (execs (Stmt.Assign [Expr.Name _ _] (Expr.Call (Expr.Attribute _ _ _) _ _ _) _ :: _) _) _ _ _); refine unbox ?_))
  k_with "getMethod" => ((with_reducible refine method_join ?_))
  k_with "exec If" => ((refine wpAny_If ?_))
  k_with "subscriptTail" => ((k_here; (with_reducible show wpAny _ _ (subscriptTail _ (Expr.Slice _ _ none _) (Value.bytes _ _) (Value.ref _)) _ _ _); (with_reducible rename Fr _ _ _ _ => F9q); (with_reducible rename News _ _ _ _ => N9q); (refine slice_V (s := ⟨_, _, _, _, _⟩) F9q N9q (by assumption) (by constructor) (by constructor) (by kba_size) (by walk_at "mine.slice") ?_); clear F9q N9q; intro _ _ _ F9q N9q K9q))
  k_with "compareOp NotEq bytes bytes" => ((k_here; (with_reducible show wpAny _ _ (compareOp CmpOp.NotEq (Value.bytes _ _) (Value.bytes _ _)) _ _ _); refine ne_K (by walk_at "mine.beq") ?_))
  k_with "mine.slice" => ((first | exact sl_pre' (by assumption) (by (try simp only [fd4, List.length_append]); omega) | exact sl_in (by assumption) (by (try simp only [List.length_append]); omega) (by (try simp only [List.length_append]); omega) | exact sl_in2 (by assumption) (by (try simp only [fd4]); omega) (by rfl)))
  k_with "mine.beq" => ((first | exact Eq.trans (by assumption) (Eq.symm (by first | assumption | k_dflt rfl)) | assumption | k_dflt rfl))
  exact True.intro
theorem c6_ok : l5.P := by
  w_top off
  delta l5
  dsimp only
  intros
  (rename Array GenState => sg); (rename Drawn => sd); (rename OsState => so)
  (rename (∀ _ _, _ → _ → _) => hP)
  (rename (_ = (List.length (enc _) : Int) + 6 - _) => l5)
  have hw := len_w (by assumption) l5 (by assumption) (by assumption) (by assumption) (by assumption)
  k_steps
  refine Box.mk ?_
  (rename Fr _ _ _ _ => F9); (rename News _ _ _ _ => N9)
  k_dflt refine' decodedV_ok _ _ _ _ _ _ _ _ _ _ _ _ _ _ _ _ _ _ _ _ _ _ _ _ _ _ _ ?k1 F9 ?k3 N9 ?k5 ?k6 ⟨?ka, ?kb⟩ ?k9 ?k10 ?_
  case k1 => k_asm
  case k3 => k_asm
  case k5 => k_asm
  case k6 => first | exact rfl | assumption
  case ka => assumption
  case kb => assumption
  case k9 => ktr_room
  case k10 => ktr_units
  clear F9 N9
  intro b9 t9 h9 tk9 hb9 F9 N9
  k_steps
  (rename Fr _ _ _ _ => F9); (rename News _ _ _ _ => N9)
  exact hP _ _ F9 N9
-- VC7
theorem kw24 : True := by
  k_with_none
  k_with "k_all" => (first | exact ne_of_lts (by with_reducible assumption) | exact ne_of_allLt (by with_reducible assumption) | exact ne_of_off1 (by with_reducible assumption) | exact ne_of_allLt (And.right (by with_reducible assumption)) | exact ne_of_off1 (And.right (by with_reducible assumption)) | exact ne_of_allLt (And.right (And.right (by with_reducible assumption))) | exact ne_of_off1 (And.right (And.right (by with_reducible assumption))) | exact ne_of_allLt (And.right (And.right (And.right (by with_reducible assumption)))) | exact ne_of_off1 (And.right (And.right (And.right (by with_reducible assumption)))) | with_reducible assumption)
  k_with "k_ne" => ((refine neN ?_; (try dsimp only); first | exact NeA.out (by with_reducible assumption) | exact Ne.symm (NeA.out (by with_reducible assumption)) | with_reducible assumption | exact Ne.symm (by with_reducible assumption)))
  k_with "mine.dec" => (((try simp only [fd4, decide_eq_true_eq, beq_iff_eq, bne_iff_ne, Bool.not_eq_true', Bool.not_eq_true, Bool.not_eq_false', beq_eq_false_iff_ne, decide_eq_false_iff_not]); omega))
  k_with "ite" => (first | (refine ite_neg ?cn ?_; (case cn => walk_at "mine.dec")) | (refine ite_pos ?cn ?_; (case cn => walk_at "mine.dec")))
  k_with "kba_size" => (exact Nat.le_trans (by assumption) (by decide))
  k_with "call ref" => ((refine unbox ?_))
  k_with "CompSrc" => (((rename NeA _ _ => z9q); refine unbox ?_))
  k_with "eval ListComp" => (((rename NeA _ _ => z9q); refine unbox ?_))
  k_with "execs cons" => ((k_here; (fail_if_success (with_reducible show wpAny _ _ (execs (Stmt.If (Expr.Compare _ [CmpOp.In] _ _) _ _ _ :: _) _) _ _ _)); (with_reducible show wpAny _ _ (execs (Stmt.If _ _ _ _ :: _) _) _ _ _); refine unbox ?_))
  k_with "execs cons" => ((k_here; (with_reducible show wpAny _ _ (execs (Stmt.For _ _ _ _ _ :: _) _) _ _ _); refine unbox ?_))
  k_with "execs cons" => ((k_here; (with_reducible show wpAny _ _ (execs (Stmt.Assign [Expr.Name _ _] (Expr.Call (Expr.Attribute _ _ _) _ _ _) _ :: _) _) _ _ _); refine unbox ?_))
  k_with "getMethod" => ((with_reducible refine method_join ?_))
  k_with "exec If" => ((refine wpAny_If ?_))
  k_with "subscriptTail" => ((k_here; (with_reducible show wpAny _ _ (subscriptTail _ (Expr.Slice _ _ none _) (Value.bytes _ _) (Value.ref _)) _ _ _); (with_reducible rename Fr _ _ _ _ => F9q); (with_reducible rename News _ _ _ _ => N9q); (refine slice_V (s := ⟨_, _, _, _, _⟩) F9q N9q (by assumption) (by constructor) (by constructor) (by kba_size) (by walk_at "mine.slice") ?_); clear F9q N9q; intro _ _ _ F9q N9q K9q))
  k_with "compareOp NotEq bytes bytes" => ((k_here; (with_reducible show wpAny _ _ (compareOp CmpOp.NotEq (Value.bytes _ _) (Value.bytes _ _)) _ _ _); refine ne_K (by walk_at "mine.beq") ?_))
  k_with "mine.slice" => ((first | exact sl_pre' (by assumption) (by (try simp only [fd4, List.length_append]); omega) | exact sl_in (by assumption) (by (try simp only [List.length_append]); omega) (by (try simp only [List.length_append]); omega) | exact sl_in2 (by assumption) (by (try simp only [fd4]); omega) (by rfl)))
  k_with "mine.beq" => ((first | exact Eq.trans (by assumption) (Eq.symm (by first | assumption | k_dflt rfl)) | assumption | k_dflt rfl))
  k_with "call type:bytes" => ((k_here; (with_reducible show wpAny _ _ (PySem.call (Value.type _) [Value.int _ _]) _ _ _); refine bytes_of_intK (by omega) (by omega) ?_; intro t9q k9q hz9q))
  k_with "binaryOp Add" => (((with_reducible show wpAny _ _ (binaryOp _ (Value.bytes _ _) _) _ _ _); refine unbox ?_))
  exact True.intro
theorem pow85 (n : Nat) : (85 : Int) ^ n ≠ 0 := Int.ne_of_gt (Int.pow_pos (by decide))
theorem c7_ok : l7.P := by
  w_top off
  delta l7
  dsimp only
  intros
  (rename Array GenState => sg); (rename Drawn => sd); (rename OsState => so)
  (rename (∀ _ _, _ → _ → _) => hP)
  (rename (_ = (List.length (enc _) : Int) + 6 - _) => l5)
  have hw := len_w (by assumption) l5 (by assumption) (by assumption) (by assumption) (by assumption)
  k_steps
  refine Box.mk ?_
  (rename Fr _ _ _ _ => F9); (rename News _ _ _ _ => N9)
  k_dflt refine' worthV_ok _ _ _ _ _ _ _ _ _ _ _ _ _ _ _ _ _ _ _ _ _ _ _ _ _ _ ?k1 F9 ?k3 N9 ?k5 ?k6 ⟨?ka, ?kb⟩ ?k9 ?k10 ?_
  case k1 => k_asm
  case k3 => k_asm
  case k5 => k_asm
  case k6 => first | exact rfl | assumption
  case ka => assumption
  case kb => assumption
  case k9 => ktr_room
  case k10 => ktr_units
  clear F9 N9
  intro t9 h9 tk9 F9 N9
  k_steps
  refine Box.mk ?_
  refine KBa.add_K (by assumption) (by assumption) (by simp only [List.length_replicate]; omega) ?_
  intro _ _ kbaApp
  k_steps
  refine Box.mk ?_
  (rename Fr _ _ _ _ => F9); (rename News _ _ _ _ => N9)
  k_dflt refine' numberV_ok _ _ _ _ _ _ _ _ _ _ _ _ _ _ _ _ _ _ _ _ _ _ _ _ _ _ ?k1 F9 ?k3 N9 ?k5 ?k6 ⟨?ka, ?kb⟩ ?k9 ?k10 ?_
  case k1 => k_asm
  case k3 => k_asm
  case k5 => k_asm
  case k6 => first | exact rfl | assumption
  case ka => assumption
  case kb => assumption
  case k9 => ktr_room
  case k10 => ktr_units
  clear F9 N9
  intro t9 h9 tk9 F9 N9
  k_steps
  · exfalso
    (rename (_ ^ _ = (0 : Int)) => q9)
    exact pow85 _ q9
  · (rename Fr _ _ _ _ => F9); (rename News _ _ _ _ => N9)
    exact hP _ _ F9 N9
-- VC8
theorem kw25 : True := by
  k_with_none
  k_with "k_all" => (first | exact ne_of_lts (by with_reducible assumption) | exact ne_of_allLt (by with_reducible assumption) | exact ne_of_off1 (by with_reducible assumption) | exact ne_of_allLt (And.right (by with_reducible assumption)) | exact ne_of_off1 (And.right (by with_reducible assumption)) | exact ne_of_allLt (And.right (And.right (by with_reducible assumption))) | exact ne_of_off1 (And.right (And.right (by with_reducible assumption))) | exact ne_of_allLt (And.right (And.right (And.right (by with_reducible assumption)))) | exact ne_of_off1 (And.right (And.right (And.right (by with_reducible assumption)))) | with_reducible assumption)
  k_with "k_ne" => ((refine neN ?_; (try dsimp only); first | exact NeA.out (by with_reducible assumption) | exact Ne.symm (NeA.out (by with_reducible assumption)) | with_reducible assumption | exact Ne.symm (by with_reducible assumption)))
  k_with "mine.dec" => (((try simp only [fd4, decide_eq_true_eq, beq_iff_eq, bne_iff_ne, Bool.not_eq_true', Bool.not_eq_true, Bool.not_eq_false', beq_eq_false_iff_ne, decide_eq_false_iff_not]); omega))
  k_with "ite" => (first | (refine ite_neg ?cn ?_; (case cn => walk_at "mine.dec")) | (refine ite_pos ?cn ?_; (case cn => walk_at "mine.dec")))
  k_with "kba_size" => (exact Nat.le_trans (by assumption) (by decide))
  k_with "call ref" => ((refine unbox ?_))
  k_with "execs cons" => ((k_here; (fail_if_success (with_reducible show wpAny _ _ (execs (Stmt.If (Expr.Compare _ [CmpOp.In] _ _) _ _ _ :: _) _) _ _ _)); (with_reducible show wpAny _ _ (execs (Stmt.If _ _ _ _ :: _) _) _ _ _); refine unbox ?_))
  k_with "execs cons" => ((k_here; (with_reducible show wpAny _ _ (execs (Stmt.For _ _ _ _ _ :: _) _) _ _ _); refine unbox ?_))
  k_with "execs cons" => ((k_here; (with_reducible show wpAny _ _ (execs (Stmt.Assign [Expr.Name _ _] (Expr.Call (Expr.Attribute _ _ _) _ _ _) _ :: _) _) _ _ _); refine unbox ?_))
  k_with "getMethod" => ((with_reducible refine method_join ?_))
  k_with "TupSrc" => ((refine unbox ?_))
  k_with "CompEnd" => ((refine unbox ?_))
  k_with "eval ListComp" => (((with_reducible show wpAny _ _ (eval (PySem.Expr.ListComp _ [⟨_, PySem.Expr.Tuple _ _ _, _, _⟩] _ _) _) _ _ _); refine unbox ?_))
  k_with "binaryOp Add" => (((with_reducible show wpAny _ _ (binaryOp _ (Value.bytes _ _) _) _ _ _); refine unbox ?_))
  k_with "mine.beq" => ((k_dflt exact Eq.trans (by assumption) (Eq.symm (by assumption))))
  k_with "compareOp NotEq bytes bytes" => ((k_here; (with_reducible show wpAny _ _ (compareOp CmpOp.NotEq (Value.bytes _ _) (Value.bytes _ _)) _ _ _); refine ne_K (by walk_at "mine.beq") ?_))
  exact True.intro
theorem gen_led {h₀ h : Heap} {L : Addr} {led : Led} {D : Addr} {o : Obj} {arr : Array Value} {X : Prop} (N : News h₀ L h led) (hd : (D, o) ∈ led) (rows : ∀ v ∈ arr.toList, ∃ T n t c u k, v = Value.ref T ∧ (T, rowO n t c u k) ∈ led ∧ Row n c)
    (f : ∀ led, (D, o) ∈ led → (∀ v ∈ arr.toList, ∃ T n t c u k, v = Value.ref T ∧ (T, rowO n t c u k) ∈ led ∧ Row n c) → News h₀ L h led → X) : X := f led hd rows N
theorem c8_ok : l7.R := by
  w_top off
  delta l7
  dsimp only
  intros
  (rename Array GenState => sg); (rename Drawn => sd); (rename OsState => so)
  k_steps
  (rename Fr _ _ _ _ => F9)
  refine comp_none F9 (by with_unfolding_all rfl) rfl (fun _ _ => rfl) (fun _ => rfl) (fun _ => rfl) (by decide) ?_
  k_steps
  (rename Fr _ _ _ _ => F9); (rename News _ _ _ _ => N9)
  have rows := rows6 N9 (.tail _ (.tail _ (.tail _ (.tail _ (.tail _ (.tail _ (.head _))))))) (.tail _ (.tail _ (.tail _ (.tail _ (.tail _ (.head _)))))) (.tail _ (.tail _ (.tail _ (.tail _ (.head _))))) (.tail _ (.tail _ (.tail _ (.head _)))) (.tail _ (.tail _ (.head _))) (.tail _ (.head _)) row_1 row_84 row_85 row_256 row_m row_l
  refine gen_led N9 (List.Mem.head _) rows ?_
  clear rows N9
  intro led hhd rows N9
  refine ⟨_, _, _, _, rfl, rfl, F9, N9, hhd, Nat.le_of_ble_eq_true rfl, ?_, ?_⟩
  · intro v I oI C oC K oK D h tk E' hv hoK F8 N8
    clear F9 N9
    obtain ⟨T, n, t, c, u, k, rfl, hm, hr⟩ := rows v hv
    have N7 := news_pre (a := [_, _, _, _]) N8 hm
    clear N8 hm
    simp only [List.cons_append, List.nil_append] at N7
    have hl5 := hr.len
    clear hv rows
    k_steps
    refine Box.mk ?_
    k_dflt (refine comp_tup (by k_asm) (by with_unfolding_all rfl) (by decide) (by rfl) (by decide) (by rfl) ?_)
    k_steps
    refine Box.mk ?_
    k_dflt (refine tupSrc (by rfl) (by k_asm) (by k_asm) (by k_mem) (by exact Nat.le_of_ble_eq_true rfl) ?_; intro g'; lcg_lit)
    iterate 4
      k_steps
      refine Box.mk ?_
      (rename Fr _ _ _ _ => F9); (rename News _ _ _ _ => N9); (rename ((_ ≠ _ ∧ _ ≠ _ ∧ _ ≠ _) ∧ _) => o9)
      k_dflt refine LCg.CompEnd.intro F9 N9 _ (fun _ h9 => h9) (by simp only [LCg.Off3, and_true]; exact o9) (by show _ ∈ _; k_mem) ?_
      clear o9
    k_steps
    refine Box.mk ?_
    (rename Fr _ _ _ _ => F9); (rename News _ _ _ _ => N9)
    k_dflt refine' encodedR_ok _ _ _ _ _ _ _ _ _ _ _ _ _ _ _ _ _ _ _ _ _ _ _ _ _ _ ?k1 F9 ?k3 N9 ?k5 ?k6 ⟨?ka, ?kb⟩ ?k9 ?k10 ?_
    case k1 => k_asm
    case k3 => k_asm
    case k5 => k_asm
    case k6 => first | exact rfl | assumption
    case ka => exact ints_octs _
    case kb => assumption
    case k9 => ktr_room
    case k10 => ktr_units
    clear F9 N9
    intro b9 t9 h9 tk9 hb9 F9 N9
    k_steps
    refine Box.mk ?_
    refine KBa.add_K rfl rfl (by (rename (List.length (KBw.bInts _) = 5) => l9); rw [l9]; k_dflt exact Nat.le_of_ble_eq_true rfl) ?_
    intro _ _ kbaApp
    k_steps
    · (rename Fr _ _ _ _ => F9); exact F9
    · (rename News _ _ _ _ => N9); exact drop1 (drop1 (drop1 N9))
  · intro D h tk F8 N8 l8
    clear F9 N9 rows
    k_steps
    (rename (∀ (_ : Heap) (_ : PySem.Str → Option Value) (_ : Nat), _ → _) => hfin)
    (rename Fr _ _ _ _ => F9)
    exact hfin _ _ _ F9
theorem r7 : l5.R := by with_reducible exact l7.ok ⟨c7_ok⟩ ⟨c8_ok⟩
theorem r5 : l3.R := by with_reducible exact l5.ok ⟨c6_ok⟩ ⟨r7⟩
theorem r4 : l3.P := by with_reducible exact l4.ok ⟨t6_ok⟩
theorem r3 : l2.R := by with_reducible exact l3.ok ⟨r4⟩ ⟨r5⟩
theorem r2 : l1.R := by with_reducible exact l2.ok ⟨s5_ok⟩ ⟨r3⟩
theorem r1 : l0.R := by with_reducible exact l1.ok ⟨sa_ok⟩ ⟨r2⟩
theorem law_ok : PySem.Challenge.rw_qz0074_01.Holds := by with_reducible exact l0.ok ⟨s1_ok⟩ ⟨r1⟩
end Mine
theorem PySem.Challenge.cw_qz0074_01_holds : PySem.Challenge.rw_qz0074_01.Holds := by
  exact Mine.law_ok
