import PyProof.Rows.All
import Wide.All
import OpenK.AllK
import Wide.FinOn
import PySem.Challenge.RW_or0024_01
set_option Elab.async false
section PartHd
open PySem PySem.W PyProof.Rows
namespace Mine
set_option maxRecDepth 100000 in
set_option maxHeartbeats 8000000 in
open_top hd for PySem.Challenge.rw_or0024_01
end Mine

end PartHd
section PartBase
open PySem PySem.W PySem.Calls PyProof.Rows
namespace Mine
abbrev Ar (dp un : Nat) (fr : Option (List Env)) (gd : Option (List Code)) : Around := { handled := none, depth := dp, frames := fr, guards := gd, units := un }

/-- a def is entered: its frame stands on the heap as it is -/
theorem enter {prog : Program} {w : World} {dp un : Nat} {fr : Option (List Env)} {gd : Option (List Code)} {s : Shared} {K : Frag} {lo : List Str} {mean : ExcName → Option Value} {mg mb : Str → Option Value} {p : Program}
    {R : Result → Shared → Prop} {name qual : Str} {params : Arguments} {body : List Stmt} {scope : Scope} {dV kV doc pm cdv ct oc : Value} {an od : Option Addr} {osl : Array (Option Value)} {f : Addr} {args : Args} {binds : List (Str × Value)}
    (X : K.In s.heap) (T : Top p lo mean mg mb s.heap) (hroom : dp < recursionLimit)
    (ho : K.lookup f = some ⟨oc, od, .func (fnOf name qual params body scope dV kV doc pm an cdv ct), osl⟩) (hcd : codeIn K cdv qual = true)
    (hbind : BindsTo s (fnOf name qual params body scope dV kV doc pm an cdv ct) args binds) (hloc : ∀ y ∈ binds, scope.names.lookup y.1 = some .local)
    (h : ∀ L h₁, Fr s.heap L h₁ (fun y => binds.reverse.lookup y) → News s.heap L h₁ [] →
      wpAny (model prog w) (Ar (dp + 1) (un + 3) (fr.map (envOf qual scope L f cdv :: ·)) gd) (execs body (envOf qual scope L f cdv))
        (fun fl s' => R (.ok (.ret (match fl with | .ret v => v | _ => .none))) s') (fun _ _ => False)
        { s with heap := h₁, toks := s.toks + binds.length })
    (hco : scope.isCoroutine = false := by rfl) (hgen : scope.isGenerator = false := by rfl) (hk : scope.kind = .function := by rfl)
    (hcell : ∀ x ∈ scope.names, x.2 ≠ .cell := by decide) : codeAny (model prog w) (Ar dp un fr gd) (.call (.ref f) args) R s := by
  refine codeAny_call_def (fd := fnOf name qual params body scope dV kV doc pm an cdv ct) (body := body) (binds := binds) hroom (X _ _ ho) rfl T.nolimit (codeRec_of X hcd) rfl hbind hcell hloc (fun h₁ hns hk₁ => ?_) hco hgen hk
  have := h s.heap.objs.size h₁ ⟨hns, hk₁, Nat.le_refl _⟩ News.nil
  refine wpAny_mono ?_ (fun _ _ x => x) (fun _ _ x => False.elim x)
  exact this

end Mine
namespace Mine
open PySem PySem.W PySem.Calls PyProof.Rows
abbrev Kept (h h' : Heap) : Prop := ∀ b o, h.get? b = some o → h'.get? b = some o
theorem retI {R : Result → Shared → Prop} {s : Shared} {x y : Int} {t : Tok} {h' : Heap} {tk : Nat} (ret : ∀ h' tk t', Kept s.heap h' → R (.ok (.ret (.int x t'))) { s with heap := h', toks := tk })
    (hk : Kept s.heap h') (e : y = x) : R (.ok (.ret (.int y t))) { s with heap := h', toks := tk } := by subst e; exact ret _ _ _ hk
end Mine
namespace Mine
open PySem PySem.W PySem.Calls PyProof.Rows
/-- what a call has made stands on the caller's ledger -/
theorem news_plus {h₀ h h' : Heap} {L : Addr} {m : Str → Option Value} {news add : List (Addr × Obj)} (F : Fr h₀ L h m) (N : News h₀ L h news) (hk : Kept h h') (ha : ∀ p ∈ add, h'.get? p.1 = some p.2 ∧ h.get? p.1 = none) :
    News h₀ L h' (add ++ news) := by
  intro p hp
  rcases List.mem_append.mp hp with hp | hp
  · refine ⟨(ha p hp).1, fun e => ?_, ?_⟩
    · obtain ⟨oL, _, _, hL, _⟩ := F.ns
      have := (ha p hp).2
      rw [e, hL] at this
      cases this
    · cases q : h₀.get? p.1 with
      | none => rfl
      | some o => have := (ha p hp).2; rw [F.keep _ _ q] at this; cases this
  · exact ⟨hk _ _ (N p hp).1, (N p hp).2⟩
theorem apart_new {h₀ h : Heap} {L : Addr} {news : List (Addr × Obj)} (N : News h₀ L h news) {a : Addr} (ha : h.get? a = none) {p : Addr × Obj} (hp : p ∈ news) : a ≠ p.1 := by
  intro e
  rw [e, (N p hp).1] at ha
  cases ha
end Mine

end PartBase
section PartRules
open PySem PySem.W PySem.Calls PyProof.Rows
namespace Mine
section
variable {prog : Program} {w : World} {A : Around} {E : Value → Shared → Prop} {s : Shared} {x y : List UInt8} {t u : Tok} {Q : Value → Shared → Prop} {value slice : PySem.Expr}
theorem len_L (hfit : x.length ≤ 1000000) (h : ∀ t' k, Q (.int (x.length : Int) t') { s with toks := k }) : wpAny (model prog w) A (call (.builtin "len") [.bytes x.toArray t]) Q E s :=
  len_bytes (by simp; omega) (by simpa using h _ _)
theorem item_L {i : Int} {ui : Tok} (hfit : x.length ≤ 1000000) (h0 : 0 ≤ i) (h1 : i < (x.length : Int))
    (h : ∀ t' k, Q (.int ((x.getD i.toNat 0).toNat : Int) t') { s with toks := k })
    (hs : subscripted slice false (.bytes x.toArray t) (.int i ui) = operate [.bytes x.toArray t, .int i ui] (getItem (.bytes x.toArray t) (.int i ui)) := by with_unfolding_all rfl)
    (ht : ∀ r, letTemporaryGo value (.bytes x.toArray t) r = pure () := by intro _; with_unfolding_all rfl) : wpAny (model prog w) A (subscriptTail value slice (.bytes x.toArray t) (.int i ui)) Q E s :=
  KBy.item_N (by omega) h0 h1 (h _ _) hs ht
theorem add_L (hsz : x.length + y.length ≤ 1000000) (h : ∀ t' k, Q (.bytes (x ++ y).toArray t') { s with toks := k }) : wpAny (model prog w) A (binaryOp .Add (.bytes x.toArray t) (.bytes y.toArray u)) Q E s :=
  KBy.add_bytes (by simp; omega) fun t' k => by simpa using h t' k
theorem eq_L (h : Q (.bool (x == y)) s) : wpAny (model prog w) A (compareOp .Eq (.bytes x.toArray t) (.bytes y.toArray u)) Q E s := eq_bytes h
theorem ne_L (h : Q (.bool (x != y)) s) : wpAny (model prog w) A (compareOp .NotEq (.bytes x.toArray t) (.bytes y.toArray u)) Q E s := ne_bytes h
end
end Mine

end PartRules
section PartLoop
set_option maxRecDepth 100000
open PySem PySem.W PySem.Calls PyProof.Rows PyProof.V PySem.Spec
set_option linter.unusedVariables false
namespace Mine
inductive BsAre : List Value → List (List UInt8) → Prop
  | nil : BsAre [] []
  | cons {vs : List Value} {xs : List (List UInt8)} (x : List UInt8) (t : Tok) : BsAre vs xs → BsAre (.bytes x.toArray t :: vs) (x :: xs)
theorem BsAre.length : ∀ {vs : List Value} {xs : List (List UInt8)}, BsAre vs xs → vs.length = xs.length
  | _, _, .nil => rfl
  | _, _, .cons _ _ h => congrArg (· + 1) h.length
theorem BsAre.append : ∀ {vs ws : List Value} {xs ys : List (List UInt8)}, BsAre vs xs → BsAre ws ys → BsAre (vs ++ ws) (xs ++ ys)
  | _, _, _, _, .nil, k => k
  | _, _, _, _, .cons x t h, k => .cons x t (h.append k)
theorem BsAre.one (x : List UInt8) (t : Tok) : BsAre [.bytes x.toArray t] [x] := .cons x t .nil
theorem BsAre.get : ∀ {vs : List Value} {xs : List (List UInt8)}, BsAre vs xs → ∀ k, k < xs.length → ∃ t, vs[k]? = some (.bytes (xs.getD k []).toArray t)
  | _, _, .nil, k, h => absurd h (Nat.not_lt_zero _)
  | _, _, .cons x t _, 0, _ => ⟨t, rfl⟩
  | _, _, .cons x t r, k + 1, h => by obtain ⟨t, e⟩ := r.get k (Nat.lt_of_succ_lt_succ h); exact ⟨t, by simpa using e⟩

def Hold (P : Prop) : Prop := P
theorem hold_of {P : Prop} (h : Hold P) : P := h

def MJ {σ : Type} (led : Nat → σ → List (Addr × Obj)) (ps : Nat → σ → List (Str × Value)) (stored : List Str) (P : Nat → σ → Prop) (x : Str) (m₀ : Str → Option Value) (i : Nat) (m : Str → Option Value) (nx : List (Addr × Obj)) : Prop :=
  ∃ c : σ, nx = led i c ∧ (∀ p ∈ ps i c, m p.1 = some p.2) ∧ (∀ z, z ≠ x → (∀ p ∈ ps i c, z ≠ p.1) → stored.contains z = false → m z = m₀ z) ∧ P i c

section
variable {prog : Program} {w : World} {A : Around} {E : Value → Shared → Prop} {s : Shared} {env : Env} {h₀ : Heap} {x : Str} {body : List Stmt} {Q : Flow → Shared → Prop}

theorem m_loop {σ : Type} {I : Addr} {fp wr : List Addr} {n : Nat} {Pv : Nat → Value → Prop} {St : Nat → Heap → Prop} {m₀ : Str → Option Value}
    (led : Nat → σ → List (Addr × Obj)) (ps : Nat → σ → List (Str × Value)) (stored : List Str) (P : Nat → σ → Prop) (c₀ : σ)
    (W : Walks prog w A I fp wr n Pv St) (hLf : env.locals ∉ fp) (hwr : ∀ b ∈ wr, h₀.get? b = none) (hnw : ∀ p ∈ led 0 c₀, p.1 ∉ wr) (hfp : ∀ q ∈ led 0 c₀, q.1 ∉ fp) (hst : St 0 s.heap)
    (F : Fr h₀ env.locals s.heap m₀) (N : News h₀ env.locals s.heap (led 0 c₀)) (hk : ∀ p ∈ ps 0 c₀, m₀ p.1 = some p.2) (hp : P 0 c₀)
    (turn : ∀ i v c (u : Str → Option Value) h tk own, i < n → Pv i v → OwnOff own ((led 0 c₀).map (·.1)) → P i c →
      Fr h₀ env.locals h (fun y => if y = x then some v else kstB (fun z => if stored.contains z then u z else m₀ z) (ps i c) y) → News h₀ env.locals h (led i c ++ own) →
      wpAny (model prog w) A (execs body env) (InvPostN h₀ env.locals (MJ led ps stored P x m₀ (i + 1)) own ((led 0 c₀).map (·.1)) { s with heap := h, toks := tk } Q) E { s with heap := h, toks := tk })
    (done : ∀ c (u : Str → Option Value) h tk, P n c → Fr h₀ env.locals h (fun y => if y = x then u y else kstB (fun z => if stored.contains z then u z else m₀ z) (ps n c) y) → News h₀ env.locals h (led n c) → Q .next { s with heap := h, toks := tk }) :
    LoopAtV prog w A h₀ env x body Q E (.ref I) s := by
  refine loop_invN (MJ led ps stored P x m₀) W hLf hwr hnw hfp hst F N ⟨c₀, rfl, hk, fun _ _ _ _ => rfl, hp⟩ ?_ ?_
  · rintro i v m₁ nx h tk own hi hv _ hoff ⟨c, rfl, h1, h2, hp'⟩ F₁ N₁
    exact turn i v c m₁ h tk own hi hv hoff hp' (kst_fr h1 h2 F₁) N₁
  · rintro m₁ nx h tk ⟨c, rfl, h1, h2, hp'⟩ F₁ N₁
    exact done c m₁ h tk hp' (kst_frOut h1 h2 F₁) N₁

/-- for x in range(..): by what holds ahead of turn i -/
theorem m_range {σ : Type} {r : Addr} {a₀ b₀ d₀ : Int} {t₀ u₀ v₀ : Tok} {n : Nat} {m₀ : Str → Option Value}
    (led : Nat → σ → List (Addr × Obj)) (ps : Nat → σ → List (Str × Value)) (stored : List Str) (P : Nat → σ → Prop) (c₀ : σ)
    (hh : A.handled = none) (hr : IsRange s.heap r a₀ b₀ d₀ t₀ u₀ v₀) (hsmall : Builtin.Range.small a₀ b₀ d₀ = true) (hn : Builtin.Range.rangeSize a₀ b₀ d₀ = (n : Int))
    (F : Fr h₀ env.locals s.heap m₀) (N : News h₀ env.locals s.heap (led 0 c₀)) (hk : ∀ p ∈ ps 0 c₀, m₀ p.1 = some p.2) (hp : P 0 c₀)
    (turn : ∀ i t c (u : Str → Option Value) h tk own, i < n → OwnOff own ((led 0 c₀).map (·.1)) → P i c →
      Fr h₀ env.locals h (fun y => if y = x then some (.int (a₀ + (i : Int) * d₀) t) else kstB (fun z => if stored.contains z then u z else m₀ z) (ps i c) y) → News h₀ env.locals h (led i c ++ own) →
      wpAny (model prog w) A (execs body env) (InvPostN h₀ env.locals (MJ led ps stored P x m₀ (i + 1)) own ((led 0 c₀).map (·.1)) { s with heap := h, toks := tk } Q) E { s with heap := h, toks := tk })
    (done : ∀ c (u : Str → Option Value) h tk, P n c → Fr h₀ env.locals h (fun y => if y = x then u y else kstB (fun z => if stored.contains z then u z else m₀ z) (ps n c) y) → News h₀ env.locals h (led n c) → Q .next { s with heap := h, toks := tk }) :
    wpAny (model prog w) A (pyIter (.ref r)) (fun it s₂ => LoopAtV prog w A h₀ env x body Q E it s₂) E s := by
  refine wpAny_pyIter_range hr hsmall ?_
  have W := Walks.range (prog := prog) (w := w) hh s.heap.objs.size a₀ d₀ n
  refine m_loop led ps stored P c₀ W ?_ ?_ ?_ ?_ (by show IsRangeIter _ _ _ _ _; rw [hn]; simpa using Heap.get?_push_size _ rfl) (F.push _) (fun p hp => ⟨Heap.get?_push_of_some _ (N p hp).1, (N p hp).2⟩) hk hp ?_ ?_
  · intro hm
    exact absurd F.ns.lt ((List.mem_singleton.mp hm) ▸ Nat.lt_irrefl _)
  · intro b hb
    rw [List.mem_singleton.mp hb]
    exact next_is_new F
  · intro p hp hI
    exact absurd (Heap.lt_size (N p hp).1) ((List.mem_singleton.mp hI) ▸ Nat.lt_irrefl _)
  · intro p hp hI
    exact absurd (Heap.lt_size (N p hp).1) ((List.mem_singleton.mp hI) ▸ Nat.lt_irrefl _)
  · rintro i v c u h tk own hi ⟨t, rfl⟩ hoff hp' F' N'
    exact turn i t c u h tk own hi hoff hp' F' N'
  · exact done

/-- for x in a list that the call was handed (it stands in the base) -/
theorem m_list {σ : Type} {l : Addr} {vs : List Value} {m₀ : Str → Option Value}
    (led : Nat → σ → List (Addr × Obj)) (ps : Nat → σ → List (Str × Value)) (stored : List Str) (P : Nat → σ → Prop) (c₀ : σ)
    (hh : A.handled = none) (hl : h₀.IsList l vs.toArray)
    (F : Fr h₀ env.locals s.heap m₀) (N : News h₀ env.locals s.heap (led 0 c₀)) (hk : ∀ p ∈ ps 0 c₀, m₀ p.1 = some p.2) (hp : P 0 c₀)
    (turn : ∀ i v c (u : Str → Option Value) h tk own, vs[i]? = some v → OwnOff own ((led 0 c₀).map (·.1)) → P i c →
      Fr h₀ env.locals h (fun y => if y = x then some v else kstB (fun z => if stored.contains z then u z else m₀ z) (ps i c) y) → News h₀ env.locals h (led i c ++ own) →
      wpAny (model prog w) A (execs body env) (InvPostN h₀ env.locals (MJ led ps stored P x m₀ (i + 1)) own ((led 0 c₀).map (·.1)) { s with heap := h, toks := tk } Q) E { s with heap := h, toks := tk })
    (done : ∀ c (u : Str → Option Value) h tk, P vs.length c → Fr h₀ env.locals h (fun y => if y = x then u y else kstB (fun z => if stored.contains z then u z else m₀ z) (ps vs.length c) y) → News h₀ env.locals h (led vs.length c) → Q .next { s with heap := h, toks := tk }) :
    wpAny (model prog w) A (pyIter (.ref l)) (fun it s₂ => LoopAtV prog w A h₀ env x body Q E it s₂) E s := by
  have hls : s.heap.IsList l vs.toArray := hl.at fun o e => F.keep l o e
  obtain ⟨ol, hol, _⟩ := id hl
  have hlt : l < h₀.objs.size := Heap.lt_size hol
  have hne : l ≠ s.heap.objs.size := Nat.ne_of_lt (Nat.lt_trans (Nat.lt_of_lt_of_le hlt F.above) F.ns.lt)
  refine wpAny_pyIter_list hls ?_
  have W := Walks.list (prog := prog) (w := w) hh s.heap.objs.size l hne vs.toArray
  have hlen : vs.toArray.size = vs.length := by simp
  rw [hlen] at W
  refine m_loop led ps stored P c₀ W ?_ ?_ ?_ ?_ ⟨⟨_, Heap.get?_push_size _ rfl, rfl, rfl⟩, hls.at fun o e => Heap.get?_push_of_some _ e⟩ (F.push _) (fun p hp => ⟨Heap.get?_push_of_some _ (N p hp).1, (N p hp).2⟩) hk hp ?_ ?_
  · intro hm
    rcases List.mem_cons.mp hm with e | hm
    · exact absurd F.ns.lt (e ▸ Nat.lt_irrefl _)
    · exact absurd (Nat.lt_of_lt_of_le hlt F.above) ((List.mem_singleton.mp hm) ▸ Nat.lt_irrefl _)
  · intro b hb
    rw [List.mem_singleton.mp hb]
    exact next_is_new F
  · intro p hp hI
    exact absurd (Heap.lt_size (N p hp).1) ((List.mem_singleton.mp hI) ▸ Nat.lt_irrefl _)
  · intro p hp hI
    rcases List.mem_cons.mp hI with e | hI
    · exact absurd (Heap.lt_size (N p hp).1) (e ▸ Nat.lt_irrefl _)
    · have := (N p hp).2.2
      rw [List.mem_singleton.mp hI, hol] at this
      cases this
  · rintro i v c u h tk own hi hv hoff hp' F' N'
    exact turn i v c u h tk own (by simpa using hv) hoff hp' F' N'
  · exact done

theorem m_end {σ : Type} {led : Nat → σ → List (Addr × Obj)} {ps : Nat → σ → List (Str × Value)} {stored : List Str} {P : Nat → σ → Prop} {m₀ : Str → Option Value} {i : Nat} {L : Addr} {m' : Str → Option Value} {own news' : List (Addr × Obj)} {adr : List Addr} {s₁ : Shared} {h' : Heap} {tk : Nat} (c : σ)
    (F : Fr h₀ L h' m') (N : News h₀ L h' news') (hn : ∀ p ∈ led i c, p ∈ news') (ho : ∀ p ∈ own, p ∈ news') (ha : (led i c).map (·.1) = adr)
    (h1 : ∀ p ∈ ps i c, m' p.1 = some p.2) (h2 : ∀ z, z ≠ x → (∀ p ∈ ps i c, z ≠ p.1) → stored.contains z = false → m' z = m₀ z) (hp : P i c) :
    InvEndN h₀ L (MJ led ps stored P x m₀ i) own adr s₁ { s₁ with heap := h', toks := tk } := InvEndN.intro F N ⟨c, rfl, h1, h2, hp⟩ ha hn ho
end

section
variable {prog : Program} {w : World} {A : Around} {E : Value → Shared → Prop} {s : Shared} {Q : Value → Shared → Prop} {value slice : PySem.Expr} {l : Addr} {vs : List Value} {xs : List (List UInt8)}
theorem len_V {n : Nat} (hl : s.heap.IsList l vs.toArray) (hn : vs.length = n) (hfit : n ≤ 1000000) (h : ∀ t' k, Q (.int (n : Int) t') { s with toks := k }) : wpAny (model prog w) A (call (.builtin "len") [.ref l]) Q E s :=
  len_list hl (by simp; omega) (by simpa [hn] using h _ _)
def Small (xs : List (List UInt8)) : Prop := ∀ x ∈ xs, x.length ≤ 200
theorem item_B {k : Int} {u : Tok} (hl : s.heap.IsList l vs.toArray) (hb : BsAre vs xs) (hs0 : Small xs) (hfit : xs.length ≤ 1000000) (h0 : 0 ≤ k) (h1 : k < (xs.length : Int))
    (h : ∀ t, (xs.getD k.toNat []).length ≤ 200 → Q (.bytes (xs.getD k.toNat []).toArray t) s)
    (hs : subscripted slice false (.ref l) (.int k u) = operate [.ref l, .int k u] (getItem (.ref l) (.int k u)) := by with_unfolding_all rfl) :
    wpAny (model prog w) A (subscriptTail value slice (.ref l) (.int k u)) Q E s := by
  have hk : k.toNat < xs.length := by omega
  obtain ⟨t, ht⟩ := hb.get k.toNat hk
  refine tail_any hl.typeIs slot_list_getitem.lookup (wpAny_getItem_list hl h0 (by omega) (by simpa using ht) (h t (hs0 _ ?_))) hs
  rw [List.getD_eq_getElem?_getD, List.getElem?_eq_getElem hk]
  exact List.getElem_mem hk
end
end Mine

end PartLoop
section PartBMeth
set_option maxRecDepth 100000
open PySem PySem.W PySem.Calls PyProof.Rows PyProof.V PySem.Spec PySem.Builtin
set_option linter.unusedVariables false
namespace Mine
theorem slot_find : Slot "bytes" "find" "bytes.find" :=
  .of (owner := "bytes") (n := "find") (by rw [typeLookup_type, builtinLookup_eq_fast]; kernel_rfl) (by decide +kernel) (by decide +kernel) (by decide +kernel)
    (by first | exact .inl (by decide +kernel) | exact .inr (by decide +kernel)) (by rw [isSubtype_type]; kernel_rfl)
theorem type_find : typeOf (.builtin "bytes.find") = pure (.type "method_descriptor") := by show builtinType _ = _; rw [builtinType_eq_fast]; kernel_rfl
theorem entry_find : entryFor table "bytes.find" = some Builtin.«bytes.find» := entryFor_of_tree (by kernel_rfl)
theorem args_find (a b c : Value) : argsOk "bytes.find" ⟨[a, b, c], []⟩ := by
  unfold argsOk; rw [signature?_of (id := "bytes.find") (n := ['d', 'n', 'i', 'f']) (o := ['s', 'e', 't', 'y', 'b']) (by kernel_rfl) FB.owner_bytes]; kernel_rfl
theorem slot_rstrip : Slot "bytes" "rstrip" "bytes.rstrip" :=
  .of (owner := "bytes") (n := "rstrip") (by rw [typeLookup_type, builtinLookup_eq_fast]; kernel_rfl) (by decide +kernel) (by decide +kernel) (by decide +kernel)
    (by first | exact .inl (by decide +kernel) | exact .inr (by decide +kernel)) (by rw [isSubtype_type]; kernel_rfl)
theorem type_rstrip : typeOf (.builtin "bytes.rstrip") = pure (.type "method_descriptor") := by show builtinType _ = _; rw [builtinType_eq_fast]; kernel_rfl
theorem entry_rstrip : entryFor table "bytes.rstrip" = some Builtin.«bytes.rstrip» := entryFor_of_tree (by kernel_rfl)
theorem args_rstrip (a b : Value) : argsOk "bytes.rstrip" ⟨[a, b], []⟩ := by
  unfold argsOk; rw [signature?_of (id := "bytes.rstrip") (n := ['p', 'i', 'r', 't', 's', 'r']) (o := ['s', 'e', 't', 'y', 'b']) (by kernel_rfl) FB.owner_bytes]; kernel_rfl
theorem slot_join : Slot "bytes" "join" "bytes.join" :=
  .of (owner := "bytes") (n := "join") (by rw [typeLookup_type, builtinLookup_eq_fast]; kernel_rfl) (by decide +kernel) (by decide +kernel) (by decide +kernel)
    (by first | exact .inl (by decide +kernel) | exact .inr (by decide +kernel)) (by rw [isSubtype_type]; kernel_rfl)
theorem type_join : typeOf (.builtin "bytes.join") = pure (.type "method_descriptor") := by show builtinType _ = _; rw [builtinType_eq_fast]; kernel_rfl
theorem entry_join : entryFor table "bytes.join" = some Builtin.«bytes.join» := entryFor_of_tree (by kernel_rfl)
theorem args_join (a b : Value) : argsOk "bytes.join" ⟨[a, b], []⟩ := by
  unfold argsOk; rw [signature?_of (id := "bytes.join") (n := ['n', 'i', 'o', 'j']) (o := ['s', 'e', 't', 'y', 'b']) (by kernel_rfl) FB.owner_bytes]; kernel_rfl

section
variable {prog : Program} {w : World} {A : Around} {E : Value → Shared → Prop} {s : Shared}
theorem m_find {M : Model} {b : Array UInt8} {t : Tok} {pl : Sem Bool} {Q : Value × List Value → Shared → Prop} (h : Q (.builtin "bytes.find", [.bytes b t]) s) : wpAny M A (getMethod (.bytes b t) "find" pl) Q E s := by
  with_reducible exact KBd.method_of (.bytes b t) (typeIs_bytes _ _ _) slot_find type_find KBd.noRef h
theorem m_rstrip {M : Model} {b : Array UInt8} {t : Tok} {pl : Sem Bool} {Q : Value × List Value → Shared → Prop} (h : Q (.builtin "bytes.rstrip", [.bytes b t]) s) : wpAny M A (getMethod (.bytes b t) "rstrip" pl) Q E s := by
  with_reducible exact KBd.method_of (.bytes b t) (typeIs_bytes _ _ _) slot_rstrip type_rstrip KBd.noRef h
theorem m_join {M : Model} {b : Array UInt8} {t : Tok} {pl : Sem Bool} {Q : Value × List Value → Shared → Prop} (h : Q (.builtin "bytes.join", [.bytes b t]) s) : wpAny M A (getMethod (.bytes b t) "join" pl) Q E s := by
  with_reducible exact KBd.method_of (.bytes b t) (typeIs_bytes _ _ _) slot_join type_join KBd.noRef h
end

/-- where a byte first stands from i on; -1: nowhere -/
def findB (x : List UInt8) (c : UInt8) (i : Int) : Int := match (x.drop i.toNat).findIdx? (· == c) with | some k => i + k | none => -1

def findOpt (b sub : Array UInt8) (i : Int) : Option Nat :=
  (if ((Bytes.window b.size (some i) none).2 - (Bytes.window b.size (some i) none).1 : Int) < sub.size then none else some ((Bytes.window b.size (some i) none).1.toNat, (Bytes.window b.size (some i) none).2.toNat)).bind fun (lo, hi) => Bytes.find? b sub lo hi
def findMade (b sub : Array UInt8) (i : Int) : Int := match findOpt b sub i with | some k => k | none => -1

theorem gives_find (b sub : Array UInt8) (i : Int) (t u v : Tok) : Gives («bytes.find» ⟨[.bytes b t, .bytes sub u, .int i v], []⟩) (.int (findMade b sub i)) := by
  refine .of_wp fun M A E s Q hq => ?_
  show wpAny M A (Bytes.searchArgs .bytes "find" _ >>= fun r => _) _ E s
  refine wpAny_bind ?_
  show wpAny M A (Bytes.bound? (some (.int i v)) >>= fun start => _) _ E s
  refine wpAny_bind ?_
  show wpAny M A (specialOf (.int i v) "__index__" >>= fun r => _) _ E s
  refine wpAny_bind (wpAny_specialOf (T := "int") (typeIs_int s i v) F.slot_int_index.lookup ?_)
  refine wpAny_pure ?_
  show wpAny M A (Bytes.buffer? _ (.bytes sub u) >>= fun r => _) _ E s
  refine wpAny_bind (wpAny_of_eq KBy.buffer_eq ?_)
  refine wpAny_pure ?_
  show wpAny M A (match findOpt b sub i with | some k => retInt (k : Int) | none => (rule _ >>= fun _ => retInt (-1))) _ E s
  unfold findMade at hq
  cases h : findOpt b sub i with
  | some k => rw [h] at hq; exact wpAny_bind (wpAny_mkInt (wpAny_pure ⟨_, rfl, hq⟩))
  | none => rw [h] at hq; exact wpAny_bind (wpAny_rule (wpAny_bind (wpAny_mkInt (wpAny_pure ⟨_, rfl, hq⟩))))

theorem find?_range_idx {p : UInt8 → Bool} {x : List UInt8} (i : Nat) (q : Nat → Bool) (hq : ∀ j, (h : j < x.length) → q j = p x[j]) :
    ((List.range (x.length - i)).map (· + i)).find? q = ((x.drop i).findIdx? p).map (· + i) := by
  have key : ∀ (n : Nat) (i : Nat), x.length - i = n → ((List.range (x.length - i)).map (· + i)).find? q = ((x.drop i).findIdx? p).map (· + i) := by
    intro n
    induction n with
    | zero =>
      intro i hn
      rw [hn, List.drop_eq_nil_of_le (by omega)]
      rfl
    | succ n ih =>
      intro i hn
      have hi : i < x.length := by omega
      rw [hn, List.range_succ_eq_map, List.map_cons, List.find?_cons, List.drop_eq_getElem_cons hi, List.findIdx?_cons, Nat.zero_add, hq i hi]
      cases hp : p x[i] with
      | true => simp
      | false =>
        have h2 := ih (i + 1) (by omega)
        rw [show x.length - (i + 1) = n by omega] at h2
        simp only [Bool.false_eq_true, if_false, List.map_map]
        have e : ((fun x => x + i) ∘ Nat.succ) = fun x => x + (i + 1) := by funext z; simp; omega
        rw [e, h2]
        cases List.findIdx? p (List.drop (i + 1) x) with
        | none => rfl
        | some k => simp; omega
  exact key _ i rfl

theorem findMade_eq (x : List UInt8) (c : UInt8) (i : Int) (h0 : 0 ≤ i) (h1 : i ≤ x.length) : findMade x.toArray #[c] i = findB x c i := by
  unfold findMade findB findOpt Bytes.window
  have hi : ¬ i < 0 := by omega
  simp only [Option.getD_some, Option.getD_none, List.size_toArray, if_neg hi]
  have hn : ¬ (x.length : Int) < 0 := by omega
  simp only [if_neg hn, Int.min_self]
  have e : ∀ n : Nat, Bytes.find? x.toArray #[c] n x.length = ((x.drop n).findIdx? (· == c)).map (· + n) := by
    intro n
    unfold Bytes.find?
    have : x.length + 1 - (n + (#[c] : Array UInt8).size) = x.length - n := by (show x.length + 1 - (n + 1) = x.length - n); omega
    rw [this]
    refine find?_range_idx n _ fun j hj => ?_
    have : (x.toArray.extract j (j + (#[c] : Array UInt8).size)) = #[x[j]] := by
      apply Array.ext
      · simp; omega
      · intro k hk1 hk2
        simp at hk1 hk2 ⊢
        have : k = 0 := by omega
        subst this
        rfl
    rw [this]
    simp
  by_cases hlt : (x.length : Int) - i < 1
  · have e0 : i.toNat = x.length := by omega
    have : ((x.length : Int) - i < (([c] : List UInt8).length : Int)) := by simpa using hlt
    rw [if_pos this, e0, List.drop_length]
    rfl
  · have : ¬ ((x.length : Int) - i < (([c] : List UInt8).length : Int)) := by simpa using hlt
    rw [if_neg this]
    show (match Bytes.find? x.toArray #[c] i.toNat (x.length : Int).toNat with | some k => (k : Int) | none => -1) = _
    rw [Int.toNat_natCast, e]
    cases List.findIdx? (fun x => x == c) (List.drop i.toNat x) with
    | none => rfl
    | some k => (show ((k + i.toNat : Nat) : Int) = i + (k : Int)); omega

section
variable {prog : Program} {w : World} {A : Around} {E : Value → Shared → Prop} {s : Shared}
theorem find_L {x : List UInt8} {c : UInt8} {i : Int} {t u v : Tok} {Q : Value → Shared → Prop} (h0 : 0 ≤ i) (h1 : i ≤ x.length) (h : ∀ t' k, Q (.int (findB x c i) t') { s with toks := k }) :
    wpAny (model prog w) A (call (.builtin "bytes.find") [.bytes x.toArray t, .bytes [c].toArray u, .int i v]) Q E s :=
  call_gives slot_find (typeIs_bytes _ _ _) entry_find (args_find _ _ _) (gives_find x.toArray #[c] i t u v) (by rw [findMade_eq x c i h0 h1]; exact h _ _)
end

/-- what rstrip leaves -/
def rstripL (ws x : List UInt8) : List UInt8 := (x.reverse.dropWhile fun c => ws.contains c).reverse
theorem gives_rstrip (x ws : List UInt8) (t u : Tok) : Gives («bytes.rstrip» ⟨[.bytes x.toArray t, .bytes ws.toArray u], []⟩) (if (rstripL ws x).length == x.length then .val (.bytes x.toArray t) else .bytes (rstripL ws x).toArray) := by
  refine .of_wp fun M A E s Q hq => ?_
  show wpAny M A (Bytes.bytesLike _ (.bytes ws.toArray u) >>= fun r => _) _ E s
  refine wpAny_bind (wpAny_of_eq KBd.like_eq ?_)
  have e : ((x.toArray.toList.reverse.dropWhile fun c => ws.toArray.contains c).reverse) = rstripL ws x := by
    unfold rstripL
    simp
  show wpAny M A (if (((x.toArray.toList.reverse.dropWhile fun c => ws.toArray.contains c).reverse).length == x.toArray.size) = true then _ else _) _ E s
  rw [e]
  have e2 : x.toArray.size = x.length := by simp
  rw [e2]
  by_cases hc : ((rstripL ws x).length == x.length) = true
  · rw [if_pos hc] at hq ⊢
    refine wpAny_bind (wpAny_rule ?_)
    refine wpAny_bind ?_
    show wpAny M A (typeOf (.bytes x.toArray t) >>= fun _ => _) _ E s
    refine wpAny_bind (wpAny_typeOf (typeIs_bytes s x.toArray t) ?_)
    exact wpAny_pure (wpAny_pure ⟨_, rfl, hq⟩)
  · rw [if_neg hc] at hq ⊢
    show wpAny M A (mkBytes ((x.toArray.toList.reverse.dropWhile fun c => ws.toArray.contains c).reverse).toArray >>= fun v => ret v) _ E s
    rw [e]
    exact wpAny_bind (wpAny_mkBytes (wpAny_pure ⟨_, rfl, hq.2⟩) hq.1)
theorem dropWhile_len {α : Type} (p : α → Bool) : ∀ l : List α, (l.dropWhile p).length ≤ l.length
  | [] => Nat.le_refl _
  | a :: l => by
    rw [List.dropWhile_cons]
    split
    · have := dropWhile_len p l; simp only [List.length_cons]; omega
    · exact Nat.le_refl _
theorem dropWhile_same {α : Type} (p : α → Bool) (l : List α) (h : (l.dropWhile p).length = l.length) : l.dropWhile p = l := by
  cases l with
  | nil => rfl
  | cons a l =>
    rw [List.dropWhile_cons] at h ⊢
    split
    · rename_i hp
      rw [if_pos hp] at h
      have := dropWhile_len p l
      simp only [List.length_cons] at h
      omega
    · rfl
theorem rstripL_len (ws x : List UInt8) : (rstripL ws x).length ≤ x.length := by
  unfold rstripL
  have := dropWhile_len (fun c => ws.contains c) x.reverse
  simpa using this
section
variable {prog : Program} {w : World} {A : Around} {E : Value → Shared → Prop} {s : Shared}
theorem rstrip_L {x ws : List UInt8} {t u : Tok} {Q : Value → Shared → Prop} (hx : x.length ≤ 1000000) (h : ∀ t' k, (rstripL ws x).length ≤ x.length → Q (.bytes (rstripL ws x).toArray t') { s with toks := k }) :
    wpAny (model prog w) A (call (.builtin "bytes.rstrip") [.bytes x.toArray t, .bytes ws.toArray u]) Q E s := by
  refine call_gives slot_rstrip (typeIs_bytes _ _ _) entry_rstrip (args_rstrip _ _) (gives_rstrip x ws t u) ?_
  have hl := rstripL_len ws x
  by_cases hc : ((rstripL ws x).length == x.length) = true
  · rw [if_pos hc]
    have e : rstripL ws x = x := by
      unfold rstripL at hc ⊢
      have := dropWhile_same (fun c => ws.contains c) x.reverse (by simpa using hc)
      rw [this, List.reverse_reverse]
    have h' := h t s.toks hl
    rw [e] at h'
    exact h'
  · rw [if_neg hc]
    exact ⟨by simp only [List.size_toArray, sizeLine_eq]; omega, h _ _ hl⟩
end
end Mine

end PartBMeth
section PartBJoin
set_option maxRecDepth 100000
open PySem PySem.W PySem.Calls PyProof.Rows PyProof.V PySem.Spec PySem.Builtin
set_option linter.unusedVariables false
namespace Mine
theorem wpAny_joinLetGo {M : Model} {A : Around} {E : Value → Shared → Prop} {s : Shared} {Q : Unit → Shared → Prop} (h : Q () s) : ∀ (l : List (Value × Option Value)) (keep : List Value), (∀ p ∈ l, p.2 = none) → wpAny M A (Bytes.joinLetGo l keep) Q E s
  | [], keep, _ => wpAny_pure h
  | (x, w) :: rest, keep, hl => by
    have hw : w = none := hl (x, w) (.head _)
    subst hw
    have ih := wpAny_joinLetGo (M := M) (A := A) (E := E) h rest keep (fun p hp => hl p (.tail _ hp))
    unfold Bytes.joinLetGo
    exact wpAny_bind (wpAny_letGo ih)
theorem take_eq {id : String} {b : Array UInt8} {t : Tok} : Bytes.takeBufferQuiet? id (.bytes b t) 0 = pure (some (b, none)) := by
  have e0 : ∀ f : Bool, Bytes.buffer? id (.bytes b t) f = pure (some b) := by
    intro f
    unfold Bytes.buffer?
    rw [KBy.special_eq KBy.look_buffer, KBy.own_buffer, KBy.own_release]
    kernel_rfl
  have e : Bytes.takeBuffer? id (.bytes b t) 0 = pure (some (b, none)) := by
    unfold Bytes.takeBuffer?
    rw [KBy.special_eq KBy.look_buffer, KBy.own_buffer]
    show (Bytes.buffer? id (.bytes b t) (0 == Bytes.fullReadOnly) >>= fun r => pure (r.map (·, none))) = _
    rw [e0]
    rfl
  unfold Bytes.takeBufferQuiet?
  rw [e]
  rfl
theorem joined_nil (ps : List (Array UInt8)) : Bytes.joined #[] ps = (ps.map (·.toList)).flatten.toArray := by
  unfold Bytes.joined
  have key : ∀ (ps : List (Array UInt8)) (k : Nat) (acc : Array UInt8), ((ps.zipIdx k).foldl (fun out (x : Array UInt8 × Nat) => (if x.2 > 0 then out ++ #[] else out) ++ x.1) acc) = acc ++ (ps.map (·.toList)).flatten.toArray := by
    intro ps
    induction ps with
    | nil => intro k acc; simp
    | cons p r ih =>
      intro k acc
      simp only [List.zipIdx_cons, List.foldl_cons]
      rw [ih]
      have : (if k > 0 then acc ++ #[] else acc) = acc := by split <;> simp
      rw [this]
      simp only [List.map_cons, List.flatten_cons]
      apply Array.toList_inj.mp
      simp
  have := key ps 0 #[]
  simpa using this
section
variable {l : Addr} {vs : List Value} {xs : List (List UInt8)} {t : Tok}
theorem meets_join2 (hb : BsAre vs xs) (h2 : vs.length ≠ 1) :
    Meets («bytes.join» ⟨[.bytes #[] t, .ref l], []⟩) (fun _ R s => s.heap.IsList l vs.toArray ∧ xs.flatten.length ≤ 1000000 ∧ ∀ t' k, R (.ok (.ret (.bytes xs.flatten.toArray t'))) { s with toks := k }) := by
  refine .of_wp fun prog w A R s hS => ?_
  obtain ⟨hl, hsz, h⟩ := hS
  obtain ⟨o, ho, hc, n, hd⟩ := id hl
  show wpAny _ _ (Bytes.joinItems (.ref l) >>= fun seq => _) _ _ s
  refine wpAny_bind ?_
  unfold Bytes.joinItems
  refine wpAny_bind (wpAny_typeOf hl.typeIs ?_)
  refine wpAny_ite (KBc.ite_yes (by decide) ?_)
  refine wpAny_pure ?_
  refine wpAny_bind (wpAny_seqItems ho hd ?_)
  dsimp only
  refine wpAny_ite (KBc.ite_yes (by decide) ?_)
  have hlen : vs.length = xs.length := hb.length
  have hgo : ∀ (f : Sem Fin) (g : Value → Sem Fin) (Q' : Fin → Shared → Prop) (E' : Value → Shared → Prop), wpAny (model prog w) A.in1 f Q' E' s → wpAny (model prog w) A.in1 (match vs.toArray with | #[x] => g x | _ => f) Q' E' s := by
    intro f g Q' E' hf
    have e : (match vs.toArray with | #[x] => g x | _ => f) = f := by
      match vs, h2 with
      | [], _ => rfl
      | [a], h => exact absurd rfl h
      | a :: b :: r, _ => rfl
    rw [e]
    exact hf
  refine hgo _ _ _ _ ?_
  refine wpAny_bind ?_
  rw [Std.Legacy.Range.forIn_eq_forIn_range']
  refine wpAny_forIn_list _ (fun rest b s' => ∃ i, i ≤ vs.length ∧ rest = List.range' i (vs.length - i) ∧ s' = s ∧ b.1 = ((xs.take i).map List.toArray).toArray ∧ (∀ p ∈ b.2, p.2 = none ∧ p.1.onHeap = false)) _ ?_ ?_ _ _ ⟨0, Nat.zero_le _, by simp [Std.Legacy.Range.size], rfl, by simp, fun _ hp => nomatch hp⟩
  · rintro j rest ⟨ps, tk⟩ s' ⟨i, hi, hr, rfl, hps, htk⟩
    have hlt : i < vs.length := by
      rcases Nat.lt_or_ge i vs.length with h | h
      · exact h
      · rw [Nat.sub_eq_zero_of_le h] at hr; cases hr
    rw [show vs.length - i = (vs.length - (i + 1)) + 1 by omega, List.range'_succ] at hr
    cases hr
    obtain ⟨tb, htb⟩ := hb.get j (by omega)
    have hget : vs.toArray.getD j Value.none = .bytes (xs.getD j []).toArray tb := by
      simp [htb]
    refine wpAny_bind (wpAny_seqItems ho hd ?_)
    dsimp only
    have hany : (Bytes.Kind.bytes == Bytes.Kind.bytearray || tk.any fun x => x.1.onHeap) = false := by
      have : (tk.any fun x => x.1.onHeap) = false := by
        rw [List.any_eq_false]
        intro p hp
        rw [(htk p hp).2]
        decide
      rw [this]
      decide
    refine wpAny_ite (KBy.ite_no (ne_true_of_eq_false hany) ?_)
    rw [hget]
    refine wpAny_bind (wpAny_holding (wpAny_of_eq take_eq ?_))
    dsimp only
    refine wpAny_bind (wpAny_seqItems ho hd ?_)
    dsimp only
    refine wpAny_ite (KBy.ite_no (by simp) ?_)
    refine wpAny_pure ⟨j + 1, hlt, rfl, rfl, ?_, ?_⟩
    · dsimp only at hps ⊢
      rw [hps]
      have hj : j < xs.length := by omega
      rw [List.take_add_one, List.getElem?_eq_getElem hj, List.getD_eq_getElem?_getD, List.getElem?_eq_getElem hj]
      simp only [List.map_append, Option.toList, List.map_cons, List.map_nil, Option.getD_some, List.push_toArray]
    · intro p hp
      rcases List.mem_append.mp hp with hp | hp
      · exact htk p hp
      · rw [List.mem_singleton.mp hp]; exact ⟨rfl, rfl⟩
  · rintro ⟨ps, tk⟩ s' ⟨i, hi, hr, rfl, hps, htk⟩
    have hie : i = vs.length := by
      rcases Nat.lt_or_ge i vs.length with h | h
      · rw [show vs.length - i = (vs.length - (i + 1)) + 1 by omega, List.range'_succ] at hr; cases hr
      · omega
    subst hie
    dsimp only at hps ⊢
    rw [hlen, List.take_length] at hps
    subst hps
    refine wpAny_bind (wpAny_of_eq (a := #[]) rfl ?_)
    have hj : Bytes.joined #[] ((xs.map List.toArray).toArray).toList = xs.flatten.toArray := by
      rw [joined_nil]
      simp [Function.comp_def]
    have hsum : ∀ (ys : List (List UInt8)) (k : Nat), ((ys.map List.toArray).toArray).foldl (fun x1 x2 => x1 + x2.size) k = k + ys.flatten.length := by
      intro ys
      simp only [List.foldl_toArray]
      induction ys with
      | nil => intro k; simp
      | cons y r ih =>
        intro k
        simp only [List.map_cons, List.foldl_cons, List.flatten_cons, List.length_append, List.size_toArray]
        rw [ih]
        omega
    refine wpAny_ite (KBy.ite_no ?_ ?_)
    · rw [hsum]
      refine ne_true_of_eq_false (KBy.tooLong_not ?_)
      simp only [List.size_toArray, List.length_nil, Nat.zero_mul, Nat.zero_add]
      omega
    rw [hj]
    refine wpAny_bind (wpAny_mkBytes ?_ ?_)
    · refine wpAny_bind (wpAny_holding (wpAny_point ?_))
      refine wpAny_bind (wpAny_joinLetGo ?_ _ _ fun p hp => (htk p hp).1)
      exact wpAny_pure ⟨_, rfl, h _ _⟩
    · simp only [List.size_toArray, sizeLine_eq]; omega
theorem meets_join1 {x : List UInt8} {tb : Tok} :
    Meets («bytes.join» ⟨[.bytes #[] t, .ref l], []⟩) (fun _ R s => s.heap.IsList l #[.bytes x.toArray tb] ∧ ∀ t' k, R (.ok (.ret (.bytes x.toArray t'))) { s with toks := k }) := by
  refine .of_wp fun prog w A R s hS => ?_
  obtain ⟨hl, h⟩ := hS
  obtain ⟨o, ho, hc, n, hd⟩ := id hl
  show wpAny _ _ (Bytes.joinItems (.ref l) >>= fun seq => _) _ _ s
  refine wpAny_bind ?_
  unfold Bytes.joinItems
  refine wpAny_bind (wpAny_typeOf hl.typeIs ?_)
  refine wpAny_ite (KBc.ite_yes (by decide) ?_)
  refine wpAny_pure ?_
  refine wpAny_bind (wpAny_seqItems ho hd ?_)
  dsimp only
  refine wpAny_ite (KBc.ite_yes (by decide) ?_)
  refine wpAny_bind (wpAny_typeOf (typeIs_bytes s x.toArray tb) ?_)
  refine wpAny_ite (KBc.ite_yes (by decide) ?_)
  refine wpAny_bind (wpAny_rule (wpAny_pure ⟨_, rfl, ?_⟩))
  exact h tb s.toks
end
section
variable {prog : Program} {w : World} {A : Around} {E : Value → Shared → Prop} {s : Shared} {l : Addr} {vs : List Value} {xs : List (List UInt8)} {t : Tok} {Q : Value → Shared → Prop}
theorem join_L (hl : s.heap.IsList l vs.toArray) (hb : BsAre vs xs) (hz : xs.flatten.length ≤ 1000000) (h : ∀ t' k, Q (.bytes xs.flatten.toArray t') { s with toks := k }) :
    wpAny (model prog w) A (call (.builtin "bytes.join") [.bytes #[] t, .ref l]) Q E s := by
  by_cases h1 : vs.length = 1
  · cases hb with
    | nil => cases h1
    | cons x tb r =>
      cases r with
      | nil => exact call_meets slot_join (typeIs_bytes _ _ _) entry_join (args_join _ _) (meets_join1 (x := x) (tb := tb)) ⟨hl, by simpa using h⟩
      | cons _ _ _ => simp at h1
  · exact call_meets slot_join (typeIs_bytes _ _ _) entry_join (args_join _ _) (meets_join2 hb h1) ⟨hl, hz, h⟩
end
end Mine

end PartBJoin
section PartSlices
set_option maxRecDepth 100000
open PySem PySem.W PySem.Calls PyProof.Rows PyProof.V PySem.Spec
set_option linter.unusedVariables false
namespace Mine
def pickL (x : List UInt8) (lo hi : Option Int) : List UInt8 := (x.drop (lo.elim 0 (clipAt x.length))).take (hi.elim x.length (clipAt x.length) - lo.elim 0 (clipAt x.length))
theorem pickL_last (x : List UInt8) : pickL x (some (-1)) none = x.drop (x.length - 1) := by
  unfold pickL
  have e : clipAt x.length (-1) = x.length - 1 := clipAt_neg x.length 1 (Nat.le_refl _)
  simp only [Option.elim, e]
  exact List.take_of_length_le (by simp)
theorem pickL_to (x : List UInt8) {k : Int} (h : 0 ≤ k) : pickL x none (some k) = x.take k.toNat := by
  unfold pickL
  obtain ⟨n, rfl⟩ := Int.eq_ofNat_of_zero_le h
  simp only [Option.elim, List.drop_zero, Nat.sub_zero, Int.toNat_natCast]
  rw [clipAt_nat]
  rcases Nat.le_total n x.length with h | h
  · rw [Nat.min_eq_left h]
  · rw [Nat.min_eq_right h, List.take_of_length_le (Nat.le_refl _), List.take_of_length_le h]
theorem pickL_init (x : List UInt8) : pickL x none (some ((x.length : Int) - 1)) = x.take (x.length - 1) := by
  rcases Nat.eq_zero_or_pos x.length with h | h
  · have : x = [] := List.length_eq_zero_iff.mp h
    subst this
    simp [pickL]
  · rw [pickL_to x (by omega)]
    congr 1
    omega
theorem pickL_from (x : List UInt8) {k : Int} (h : 0 ≤ k) : pickL x (some k) none = x.drop k.toNat := by
  unfold pickL
  obtain ⟨n, rfl⟩ := Int.eq_ofNat_of_zero_le h
  simp only [Option.elim, Int.toNat_natCast]
  rw [clipAt_nat]
  rcases Nat.le_total n x.length with h | h
  · rw [Nat.min_eq_left h]; exact List.take_of_length_le (by simp)
  · rw [Nat.min_eq_right h, List.drop_of_length_le (Nat.le_refl _), List.drop_of_length_le h]; simp
theorem pickL_of (x : List UInt8) {a b : Int} (ha : 0 ≤ a) (hb : 0 ≤ b) : pickL x (some a) (some b) = (x.drop a.toNat).take (b.toNat - a.toNat) := by
  unfold pickL
  obtain ⟨n, rfl⟩ := Int.eq_ofNat_of_zero_le ha
  obtain ⟨k, rfl⟩ := Int.eq_ofNat_of_zero_le hb
  simp only [Option.elim, Int.toNat_natCast]
  rw [clipAt_nat, clipAt_nat]
  rcases Nat.le_total n x.length with h | h
  · rw [Nat.min_eq_left h]
    rcases Nat.le_total k x.length with h2 | h2
    · rw [Nat.min_eq_left h2]
    · rw [Nat.min_eq_right h2, List.take_of_length_le (by simp), List.take_of_length_le (by simp; omega)]
  · rw [Nat.min_eq_right h, List.drop_of_length_le (Nat.le_refl _), List.drop_of_length_le h]; simp
section
variable {prog : Program} {w : World} {A : Around} {E : Value → Shared → Prop} {s : Shared} {value slice : PySem.Expr} {x : List UInt8} {t : Tok} {h₀ : Heap} {L : Addr} {m : PySem.Str → Option Value} {news : List (Addr × Obj)} {l u : Value} {lo hi : Option Int} {Q : Value → Shared → Prop}
theorem slice_L {y : List UInt8} (hF : Fr h₀ L s.heap m) (hN : News h₀ L s.heap news) (hl : IsPart l lo) (hu : IsPart u hi) (hz : x.length ≤ 1000000) (e : pickL x lo hi = y)
    (h : ∀ h' t' k, Fr h₀ L h' m → News h₀ L h' news → Q (.bytes y.toArray t') { s with heap := h', toks := k })
    (hs : subscripted slice false (.bytes x.toArray t) (.ref s.heap.objs.size) = operate [.ref s.heap.objs.size, .bytes x.toArray t] (getItem (.bytes x.toArray t) (.ref s.heap.objs.size)) := by with_unfolding_all rfl)
    (ht : ∀ r, letTemporaryGo value (.bytes x.toArray t) r = pure () := by intro _; with_unfolding_all rfl) :
    wpAny (model prog w) A (subscriptTail value slice (.bytes x.toArray t) (.ref s.heap.objs.size)) Q E { s with heap := s.heap.push { cls := .type "slice", data := .fields #[l, u, .none] } } := by
  refine KBc.slice_K hF hN (ks := KBw.bInts x.toArray) rfl hl hu (by rw [KBw.ints_length, List.size_toArray]; omega) (fun h' t' k F' N' _ => ?_) hs ht
  rw [KBc.picked_eq]
  have := h h' t' k F' N'
  rw [← e] at this
  unfold pickL at this
  simpa using this
end
end Mine

end PartSlices
section PartTupLoop
set_option maxRecDepth 100000
open PySem PySem.W PySem.Calls PyProof.Rows PyProof.V PySem.Spec
set_option linter.unusedVariables false
namespace Mine
inductive TupsIn (news : List (Addr × Obj)) : List Value → List (List UInt8 × List UInt8) → Prop
  | nil : TupsIn news [] []
  | cons {vs : List Value} {ps : List (List UInt8 × List UInt8)} (a : Addr) (x y : List UInt8) (t u : Tok) (k : Nat) (hm : (a, ({ cls := .type "tuple", data := .seq [.bytes x.toArray t, .bytes y.toArray u].toArray k } : Obj)) ∈ news) :
      TupsIn news vs ps → TupsIn news (.ref a :: vs) ((x, y) :: ps)
theorem TupsIn.mono {news news' : List (Addr × Obj)} (hs : ∀ p ∈ news, p ∈ news') : ∀ {vs : List Value} {ps : List (List UInt8 × List UInt8)}, TupsIn news vs ps → TupsIn news' vs ps
  | _, _, .nil => .nil
  | _, _, .cons a x y t u k hm r => .cons a x y t u k (hs _ hm) (TupsIn.mono hs r)
theorem TupsIn.append {news : List (Addr × Obj)} : ∀ {vs ws : List Value} {ps qs : List (List UInt8 × List UInt8)}, TupsIn news vs ps → TupsIn news ws qs → TupsIn news (vs ++ ws) (ps ++ qs)
  | _, _, _, _, .nil, k => k
  | _, _, _, _, .cons a x y t u k hm r, k' => .cons a x y t u k hm (r.append k')
theorem TupsIn.length {news : List (Addr × Obj)} : ∀ {vs : List Value} {ps : List (List UInt8 × List UInt8)}, TupsIn news vs ps → vs.length = ps.length
  | _, _, .nil => rfl
  | _, _, .cons _ _ _ _ _ _ _ r => congrArg (· + 1) r.length
theorem TupsIn.get {news : List (Addr × Obj)} : ∀ {vs : List Value} {ps : List (List UInt8 × List UInt8)}, TupsIn news vs ps → ∀ {k : Nat} {v : Value}, vs[k]? = some v → ∃ a x y t u j, v = .ref a ∧ ps[k]? = some (x, y) ∧ (a, ({ cls := .type "tuple", data := .seq [.bytes x.toArray t, .bytes y.toArray u].toArray j } : Obj)) ∈ news
  | _, _, .nil, k, v, h => by simp at h
  | _, _, .cons a x y t u j hm r, 0, v, h => ⟨a, x, y, t, u, j, (Option.some.inj h).symm, rfl, hm⟩
  | _, _, .cons _ _ _ _ _ _ _ r, k + 1, v, h => r.get (by simpa using h)
theorem TupsIn.snoc {tl : List (Addr × Obj)} {ws : List Value} {ps : List (List UInt8 × List UInt8)} {a : Addr} {x y : List UInt8} {t u : Tok} {k : Nat} (h : TupsIn tl ws ps) :
    TupsIn ((a, ({ cls := .type "tuple", data := .seq [.bytes x.toArray t, .bytes y.toArray u].toArray k } : Obj)) :: tl) (ws ++ [.ref a]) (ps ++ [(x, y)]) :=
  TupsIn.append (h.mono fun p hp => .tail _ hp) (.cons _ _ _ _ _ _ (.head _) .nil)

section
variable {prog : Program} {w : World} {A : Around} {E : Value → Shared → Prop} {s : Shared} {env : Env} {h₀ : Heap} {body : List Stmt} {Q : Flow → Shared → Prop}
/-- for x1, x2 in a list of pairs of bytes that stands on the ledger -/
theorem m_tup {σ : Type} {l : Addr} {vs : List Value} {qs : List (List UInt8 × List UInt8)} {nn : Nat} {x1 x2 : Str} {p1 p2 pt : Pos} {k1 : Nat} {m₀ : Str → Option Value}
    (led : Nat → σ → List (Addr × Obj)) (ps : Nat → σ → List (Str × Value)) (stored : List Str) (P : Nat → σ → Prop) (c₀ : σ)
    (hh : A.handled = none) (hx1 : env.kindOf x1 = some .local) (hx2 : env.kindOf x2 = some .local)
    (hpk : (env.scope.kind == .class || (env.scope.kind == .module && env.locals != env.globals)) = false)
    (F : Fr h₀ env.locals s.heap m₀) (N : News h₀ env.locals s.heap ((l, listOf vs.toArray nn) :: led 0 c₀)) (hoff : ∀ i c, P i c → ∀ q ∈ led i c, q.1 ≠ l) (hadr : ∀ i c, P i c → (led i c).map (·.1) = (led 0 c₀).map (·.1))
    (hT : ∀ i c, P i c → TupsIn (led i c) vs qs) (hk : ∀ p ∈ ps 0 c₀, m₀ p.1 = some p.2) (hp : P 0 c₀)
    (turn : ∀ i x y t u c (u9 : Str → Option Value) (s₁ : Shared) own, qs[i]? = some (x, y) → OwnOff own ((led 0 c₀).map (·.1)) → P i c →
      Fr h₀ env.locals s₁.heap (fun z => if z = x2 then some (.bytes y.toArray u) else if z = x1 then some (.bytes x.toArray t) else kstB (fun z => if (x2 :: stored).contains z then u9 z else m₀ z) (ps i c) z) → News h₀ env.locals s₁.heap (led i c ++ own) →
      wpAny (model prog w) A (execs body env) (fun f s' => match f with | .next => InvEndN h₀ env.locals (MJ led ps (x2 :: stored) P x1 m₀ (i + 1)) own ((led 0 c₀).map (·.1)) s₁ s' | _ => False) E s₁)
    (done : ∀ c (u9 : Str → Option Value) h tk, P qs.length c → Fr h₀ env.locals h (fun y => if y = x1 then u9 y else kstB (fun z => if (x2 :: stored).contains z then u9 z else m₀ z) (ps qs.length c) y) → News h₀ env.locals h (led qs.length c) → Q .next { s with heap := h, toks := tk }) :
    wpAny (model prog w) A (pyIter (.ref l)) (fun it s₂ => LoopAtT prog w A h₀ env (.Tuple [.Name x1 p1, .Name x2 p2] k1 pt) body Q E it s₂) E s := by
  have hol : s.heap.get? l = some (listOf vs.toArray nn) := (N _ (.head _)).1
  have hl0 : h₀.get? l = none := (N _ (.head _)).2.2
  have hlL : l ≠ env.locals := (N _ (.head _)).2.1
  have N' : News h₀ env.locals s.heap (led 0 c₀) := fun p hp => N p (.tail _ hp)
  have hls : s.heap.IsList l vs.toArray := ⟨_, hol, rfl, nn, rfl⟩
  have hne : l ≠ s.heap.objs.size := Nat.ne_of_lt (Heap.lt_size hol)
  refine wpAny_pyIter_list hls ?_
  have W := Walks.list (prog := prog) (w := w) hh s.heap.objs.size l hne vs.toArray
  have hlen : vs.toArray.size = qs.length := by simpa using (hT 0 c₀ hp).length
  rw [hlen] at W
  have hLfp : env.locals ∉ [s.heap.objs.size, l] := by
    intro hm
    rcases List.mem_cons.mp hm with e | hm
    · exact absurd F.ns.lt (e ▸ Nat.lt_irrefl _)
    · exact hlL (List.mem_singleton.mp hm).symm
  refine ⟨_, _, _, qs.length, _, _, m₀, led 0 c₀, MJ led ps (x2 :: stored) P x1 m₀, rfl, W, hLfp, ?_, ?_, ⟨⟨_, Heap.get?_push_size _ rfl, rfl, rfl⟩, hls.at fun o e => Heap.get?_push_of_some _ e⟩, F.push _, (fun p hp => ⟨Heap.get?_push_of_some _ (N' p hp).1, (N' p hp).2⟩),
    (fun i s' v Q' st hQ' => letGo_listiter st.1 hQ'), ⟨c₀, rfl, hk, fun _ _ _ _ => rfl, hp⟩, ?_, ?_⟩
  · intro b hb
    rw [List.mem_singleton.mp hb]
    exact next_is_new F
  · intro p hp hI
    exact absurd (Heap.lt_size (N' p hp).1) ((List.mem_singleton.mp hI) ▸ Nat.lt_irrefl _)
  · rintro i v m₁ nx s₁ own hi hv ⟨c, rfl, h1, h2, hpc⟩ hnw hsub hget hall hst F₁ N₁
    obtain ⟨a, x, y, t, u, j, rfl, hq, hm⟩ := (hT i c hpc).get (k := i) (v := v) (by simpa using hv)
    have ht : s₁.heap.IsTuple a #[.bytes x.toArray t, .bytes y.toArray u] := ⟨_, (N₁ _ (List.mem_append_right _ hm)).1, rfl, _, rfl⟩
    refine wpAny_assign_Tuple hh ht rfl rfl fun h₃ hx₃ => ?_
    replace hx₃ : Heap.ExtBut s₁.heap.objs.size s₁.heap h₃ := hx₃
    have up₃ : ∀ b o, s₁.heap.get? b = some o → h₃.get? b = some o := fun b o x => hx₃ b o (Nat.ne_of_lt (Heap.lt_size x)) x
    have F₃ := F₁.keeps up₃
    have N₃ := N₁.grown up₃
    show wpAny _ A (do holding [.bytes y.toArray u] (assign (.Name x1 p1) env (.bytes x.toArray t)); do holding [] (assign (.Name x2 p2) env (.bytes y.toArray u)); pure ()) _ _ _
    refine wpAny_bind (wpAny_holding (wpAny_assign_Name (wpAny_storeName_local hx1 F₃.ns (fun h₄ hn₄ hs₄ => ?_) hpk)))
    replace hs₄ : Heap.SameBut env.locals h₃ h₄ := hs₄
    have F₄ := F₃.set hn₄ hs₄
    refine wpAny_bind (wpAny_holding (wpAny_assign_Name (wpAny_storeName_local hx2 F₄.ns (fun h₅ hn₅ hs₅ => wpAny_pure ?_) hpk)))
    replace hs₅ : Heap.SameBut env.locals h₄ h₅ := hs₅
    have F₅ := F₄.set hn₅ hs₅
    have N₅ : News h₀ env.locals h₅ (own ++ led i c) := (N₃.set hs₄).set hs₅
    have N₆ : News h₀ env.locals h₅ (led i c ++ own) := fun p hp => N₅ p ((List.mem_append.mp hp).elim (fun h => List.mem_append.mpr (.inr h)) fun h => List.mem_append.mpr (.inl h))
    have hsep : OwnOff own ((led 0 c₀).map (·.1)) := by
      intro p hp b hb e
      rw [← hadr i c hpc] at hb
      obtain ⟨q, hq, rfl⟩ := List.mem_map.mp hb
      rcases List.mem_cons.mp (hsub p hp) with h3 | h3
      · exact hnw q hq (List.mem_singleton.mpr (e ▸ h3))
      · exact hoff i c hpc q hq (by rw [← e]; exact List.mem_singleton.mp h3)
    have em : (fun z => if z = x2 then some (Value.bytes y.toArray u) else if z = x1 then some (Value.bytes x.toArray t) else m₁ z) = fun z => if z = x2 then some (.bytes y.toArray u) else if z = x1 then some (.bytes x.toArray t) else kstB (fun z => if (x2 :: stored).contains z then m₁ z else m₀ z) (ps i c) z := by
      funext z
      by_cases hz2 : z = x2
      · simp [hz2]
      · by_cases hz1 : z = x1
        · simp [hz1]
        · simp only [if_neg hz2, if_neg hz1]
          exact (kst_off h1 h2 hz1).symm
    have F₆ : Fr h₀ env.locals h₅ (fun z => if z = x2 then some (.bytes y.toArray u) else if z = x1 then some (.bytes x.toArray t) else kstB (fun z => if (x2 :: stored).contains z then m₁ z else m₀ z) (ps i c) z) := by
      rw [← em]; exact F₅
    refine wpAny_mono (turn i x y t u c m₁ { s₁ with heap := h₅, toks := s₁.toks + 1 + 1 } own hq hsep hpc F₆ N₆) (fun f s₂ p => ?_) fun _ _ e => e
    cases f with
    | ret v => exact p.elim
    | brk => exact p.elim
    | cont => exact p.elim
    | next =>
      obtain ⟨h', tk, m', news', nx, e, F', N', hn, ho, ha, hm'⟩ := p
      refine ⟨rfl, h', tk, m', nx, e, F', fun p hp => N' p ((List.mem_append.mp hp).elim (ho p) (hn p)), fun p hp hq => ?_, hm'⟩
      have h1 : p.1 ∈ nx.map (·.1) := List.mem_map.mpr ⟨p, hp, rfl⟩
      rw [ha, ← hadr i c hpc] at h1
      obtain ⟨q, hq1, hq2⟩ := List.mem_map.mp h1
      exact hnw q hq1 (by rw [hq2]; exact hq)
  · rintro h' tk m' nx F' N'' _ ⟨c, rfl, h1, h2, hpc⟩
    exact done c m' h' tk hpc (kst_frOut h1 h2 F') N''
end
end Mine

end PartTupLoop
section PartHex
open PySem PySem.W PySem.Calls PyProof.Rows
namespace Mine

def hexWorth (c : Int) : Int := if 48 ≤ c ∧ c ≤ 57 then c - 48 else if 65 ≤ c ∧ c ≤ 70 then c - 55 else if 97 ≤ c ∧ c ≤ 102 then c - 87 else -1

set_option maxRecDepth 100000 in
set_option maxHeartbeats 4000000 in
theorem hex_spec : ∀ {w : World} {dp un : Nat} {fr : Option (List Env)} {gd : Option (List Code)} {s : Shared} {lo : List Str} {mean : ExcName → Option Value} {mg mb : Str → Option Value} {R : Result → Shared → Prop} {c : Int} {t : Tok}
    (X : (Mine.hd.heap_39 w.params).In s.heap) (T : Top Mine.hd.view_39 lo mean mg mb s.heap) (hroom : dp < 500)
    (ret : ∀ h' tk t', Kept s.heap h' → R (.ok (.ret (.int (hexWorth c) t'))) { s with heap := h', toks := tk }),
    codeAny (model PySem.Challenge.rw_or0024_01.row.prog w) (Ar dp un fr gd) (.call (.ref 21) ⟨[.int c t], []⟩) R s := by
  w_top off
  k_fill
  intro w dp un fr gd s lo mean mg mb R c t X T hroom ret
  k_dflt (refine' enter (binds := [(Str.ofString "code", .int c t)]) X T ?k8 ?k6 ?k7 ?k9 ?kB ?_ ?c2 ?c3 ?c4 ?c5; (case k6 => k_is); (case k7 => k_is); (case k8 => show dp < 1000; omega); (case k9 => exact BindsTo.of_eq rfl); (case c5 => decide); (case kB => exact locs rfl); (case c2 => exact rfl); (case c3 => exact rfl); (case c4 => exact rfl); k_whole; intro L h₁ F N; (try dsimp only); (try k_fold))
  k_steps
  all_goals (refine retI (R := R) (s := s) ret (Fr.keep (by assumption)) ?_; unfold hexWorth)
  all_goals ((repeat' split) <;> omega)

end Mine

end PartHex
section PartQAt
open PySem PySem.W PySem.Calls PyProof.Rows
set_option linter.unusedVariables false
local macro_rules | `(tactic| walk_at "m_size") => `(tactic| first | omega | (simp only [List.length_append, List.length_cons, List.length_nil, List.length_take, List.length_drop]; omega))
local macro_rules | `(tactic| walk_at "call builtin:len") => `(tactic| (k_here; (with_reducible show wpAny _ _ (call (Value.builtin "len") [Value.bytes (List.toArray _) _]) _ _ _); (refine Mine.len_L (by walk_at "m_size") ?_); intro _ _))
local macro_rules | `(tactic| walk_at "subscriptTail") => `(tactic| (k_here; (with_reducible show wpAny _ _ (subscriptTail _ _ (Value.bytes (List.toArray _) _) (Value.int _ _)) _ _ _); (refine Mine.item_L (by walk_at "m_size") (by walk_at "m_size") (by walk_at "m_size") ?_); intro _ _))
local macro_rules | `(tactic| walk_at "binaryOp Add bytes bytes") => `(tactic| (k_here; (with_reducible show wpAny _ _ (binaryOp Operator.Add (Value.bytes (List.toArray _) _) (Value.bytes (List.toArray _) _)) _ _ _); (refine Mine.add_L (by walk_at "m_size") ?_); intro _ _))
local macro_rules | `(tactic| walk_at "compareOp Eq bytes bytes") => `(tactic| (k_here; (with_reducible show wpAny _ _ (compareOp CmpOp.Eq (Value.bytes (List.toArray _) _) (Value.bytes (List.toArray _) _)) _ _ _); (refine Mine.eq_L ?_)))
local macro_rules | `(tactic| walk_at "compareOp NotEq bytes bytes") => `(tactic| (k_here; (with_reducible show wpAny _ _ (compareOp CmpOp.NotEq (Value.bytes (List.toArray _) _) (Value.bytes (List.toArray _) _)) _ _ _); (refine Mine.ne_L ?_)))
-- what a contract asks at a call: the written part, the top, the room
local macro_rules | `(tactic| walk_at "m_cx") => `(tactic| first | assumption | exact Frag.In.keeps (by assumption) (Fr.keep (by assumption)) | exact Top.keeps (by assumption) (Fr.keep (by assumption)))
local macro_rules | `(tactic| walk_at "m_back") => `(tactic| (intro h9 tk9 t9 hk9; (with_reducible rename Fr _ _ _ _ => F8); (with_reducible rename News _ _ _ _ => N8); (have F9 := Fr.keeps F8 hk9); (have N9 := News.grown N8 hk9); clear F8 N8 hk9; (try dsimp only); (try k_fold)))
local macro_rules | `(tactic| walk_at "m_lenq") => `(tactic| first | exact Mine.BsAre.length (by assumption) | exact IntsAre.length (by assumption))
local macro_rules | `(tactic| walk_at "call builtin:len") => `(tactic| (k_here; (with_reducible show wpAny _ _ (call (Value.builtin "len") [Value.ref _]) _ _ _); (with_unfolding_all refine' Mine.len_V ?k1 ?k2 ?k3 ?_; (case k1 => is_list); (case k2 => walk_at "m_lenq"); (case k3 => walk_at "m_size"); k_whole); intro _ _))
local macro_rules | `(tactic| walk_at "subscriptTail") => `(tactic| (k_here; (with_reducible show wpAny _ _ (subscriptTail _ _ (Value.ref _) (Value.int _ _)) _ _ _); (with_unfolding_all refine' Mine.item_B ?k1 ?k2 ?k3 ?k4 ?k5 ?k6 ?_ ?k7; (case k1 => is_list); (case k2 => assumption); (case k3 => assumption); (case k4 => walk_at "m_size"); (case k5 => walk_at "m_size"); (case k6 => walk_at "m_size"); (case k7 => with_unfolding_all rfl); k_whole); intro _ hSmall9))
local macro_rules | `(tactic| walk_at "pyIter ref") => `(tactic| k_extra "MYLOOP")
local macro_rules | `(tactic| walk_at "InvEndN") => `(tactic| ((with_reducible show InvEndN _ _ (Mine.MJ _ _ _ _ _ _ _) _ _ _ _); refine Mine.hold_of ?_))
local macro_rules | `(tactic| walk_at "getMethod bytes") => `(tactic| (k_here; first | (with_reducible refine Mine.m_find ?_) | (with_reducible refine Mine.m_rstrip ?_) | (with_reducible refine Mine.m_join ?_)))
local macro_rules | `(tactic| walk_at "call builtin:bytes.join") => `(tactic| (k_here; (with_unfolding_all refine' Mine.join_L ?k1 ?k2 ?k3 ?_; (case k1 => is_list); (case k2 => assumption); (case k3 => first | assumption | walk_at "m_size"); k_whole); intro _ _))
local macro_rules | `(tactic| walk_at "call builtin:bytes.find") => `(tactic| (k_here; (with_reducible show wpAny _ _ (call (Value.builtin "bytes.find") [Value.bytes (List.toArray _) _, Value.bytes (List.toArray [_]) _, Value.int _ _]) _ _ _); (refine Mine.find_L (by walk_at "m_size") (by walk_at "m_size") ?_); intro _ _))
local macro_rules | `(tactic| walk_at "call builtin:bytes.rstrip") => `(tactic| (k_here; (with_reducible show wpAny _ _ (call (Value.builtin "bytes.rstrip") [Value.bytes (List.toArray _) _, Value.bytes (List.toArray _) _]) _ _ _); (refine Mine.rstrip_L (by walk_at "m_size") ?_); intro _ _ hStrip9))
local macro_rules | `(tactic| walk_at "m_pick") => `(tactic| first | exact Mine.pickL_last _ | exact Mine.pickL_init _ | exact Mine.pickL_to _ (by walk_at "m_size") | exact Mine.pickL_from _ (by walk_at "m_size") | exact Mine.pickL_of _ (by walk_at "m_size") (by walk_at "m_size"))
local macro_rules | `(tactic| walk_at "subscriptTail") => `(tactic| (k_here; (with_reducible show wpAny _ _ (subscriptTail _ (Expr.Slice _ _ none _) (Value.bytes (List.toArray _) _) (Value.ref _)) _ _ _); (with_reducible rename Fr _ _ _ _ => F'); (with_reducible rename News _ _ _ _ => N'); (refine Mine.slice_L (s := ⟨_, _, _, _, _⟩) F' N' (by constructor) (by constructor) (by walk_at "m_size") (by walk_at "m_pick") ?_); intro _ _ _ _ _))
local macro_rules | `(tactic| walk_at "exec For Name") => `(tactic| (k_here; (rename Fr _ _ _ _ => lF'); (with_unfolding_all refine' For_invVF lF' ?k1 ?k2 ?_; (case k1 => exact rfl); (case k2 => exact rfl); k_whole)))
local macro_rules | `(tactic| walk_at "exec While") => `(tactic| k_extra "MYWHILE")
local macro_rules | `(tactic| walk_at "exec While Compare cons nil") => `(tactic| k_extra "MYWHILE")
local macro_rules | `(tactic| walk_at "exec While Constant cons nil") => `(tactic| k_extra "MYWHILE")
local macro_rules | `(tactic| walk_at "KswEnd") => `(tactic| ((with_reducible show KswEnd _ _ _ _ _ _ _ _ _ _ _ _); refine Mine.hold_of ?_))
local macro_rules | `(tactic| walk_at "m_backL") => `(tactic| (intro h9 tk9 t9 hk9 hl9; (with_reducible rename Fr _ _ _ _ => F8); (with_reducible rename News _ _ _ _ => N8); (have F9 := Fr.keeps F8 hk9); (have N9 := News.grown N8 hk9); clear F8 N8 hk9; (try dsimp only); (try k_fold)))
local macro_rules | `(tactic| walk_at "call ref") => `(tactic| k_extra "MYCALL")
local macro_rules | `(tactic| walk_at "exec For Tuple Call cons nil") => `(tactic| (k_here; (rename Fr _ _ _ _ => lF'); (with_unfolding_all refine' For_invTF lF' ?_ ?k; (case k => (intro _; rfl)))))
local macro_rules | `(tactic| walk_at "execs cons Assign cons") => `(tactic| (with_reducible refine wpAny_execs_cons ?_))
local macro_rules | `(tactic| walk_at "execs cons Assign nil") => `(tactic| (with_reducible refine wpAny_execs_cons ?_))
local macro_rules | `(tactic| walk_at "execs cons Expr cons") => `(tactic| (with_reducible refine wpAny_execs_cons ?_))
local macro_rules | `(tactic| walk_at "execs cons Expr nil") => `(tactic| (with_reducible refine wpAny_execs_cons ?_))
local macro_rules | `(tactic| walk_at "execs cons If cons") => `(tactic| (with_reducible refine wpAny_execs_cons ?_))
local macro_rules | `(tactic| walk_at "execs cons If nil") => `(tactic| (with_reducible refine wpAny_execs_cons ?_))
local macro_rules | `(tactic| walk_at "execs cons For cons") => `(tactic| (with_reducible refine wpAny_execs_cons ?_))
local macro_rules | `(tactic| walk_at "execs cons For nil") => `(tactic| (with_reducible refine wpAny_execs_cons ?_))
local macro_rules | `(tactic| walk_at "execs cons While cons") => `(tactic| (with_reducible refine wpAny_execs_cons ?_))
local macro_rules | `(tactic| walk_at "execs cons While nil") => `(tactic| (with_reducible refine wpAny_execs_cons ?_))
local macro_rules | `(tactic| walk_at "execs cons Return cons") => `(tactic| (with_reducible refine wpAny_execs_cons ?_))
local macro_rules | `(tactic| walk_at "execs cons Return nil") => `(tactic| (with_reducible refine wpAny_execs_cons ?_))
local macro_rules | `(tactic| walk_at "InvEndN") => `(tactic| ((with_reducible show InvEndN _ _ (Mine.MK _ _ _ _ _ _) _ _ _ _); refine Mine.hold_of ?_))
local macro_rules | `(tactic| walk_at "call ref") => `(tactic| (k_here; (with_unfolding_all refine' wpAny_call (Mine.hex_spec ?k1 ?k2 ?k3 ?_); (case k1 => walk_at "m_cx"); (case k2 => walk_at "m_cx"); (case k3 => omega); k_whole); walk_at "m_back"))
local macro_rules | `(tactic| walk_at "m_none") => `(tactic| fail "none")
local macro_rules | `(tactic| walk_at "m_none") => `(tactic| fail "none")
local macro_rules | `(tactic| walk_at "m_none") => `(tactic| fail "none")
local macro_rules | `(tactic| walk_at "m_none") => `(tactic| fail "none")
local macro_rules | `(tactic| walk_at "m_none") => `(tactic| fail "none")
local macro_rules | `(tactic| walk_at "m_none") => `(tactic| fail "none")
local macro_rules | `(tactic| walk_at "m_none") => `(tactic| fail "none")
local macro_rules | `(tactic| walk_at "m_none") => `(tactic| fail "none")
local macro_rules | `(tactic| walk_at "m_none") => `(tactic| fail "none")
local macro_rules | `(tactic| walk_at "m_none") => `(tactic| fail "none")
local macro_rules | `(tactic| walk_at "m_none") => `(tactic| fail "none")
local macro_rules | `(tactic| walk_at "m_none") => `(tactic| fail "none")
local macro_rules | `(tactic| walk_at "m_none") => `(tactic| fail "none")
local macro_rules | `(tactic| walk_at "m_none") => `(tactic| fail "none")
local macro_rules | `(tactic| walk_at "m_none") => `(tactic| fail "none")
local macro_rules | `(tactic| walk_at "m_none") => `(tactic| fail "none")
local macro_rules | `(tactic| walk_at "m_none") => `(tactic| fail "none")
local macro_rules | `(tactic| walk_at "m_none") => `(tactic| fail "none")
local macro_rules | `(tactic| walk_at "m_none") => `(tactic| fail "none")
local macro_rules | `(tactic| walk_at "m_none") => `(tactic| fail "none")
local macro_rules | `(tactic| walk_at "m_none") => `(tactic| fail "none")
local macro_rules | `(tactic| walk_at "m_none") => `(tactic| fail "none")
local macro_rules | `(tactic| walk_at "m_none") => `(tactic| fail "none")
local macro_rules | `(tactic| walk_at "m_none") => `(tactic| fail "none")
local macro_rules | `(tactic| walk_at "m_none") => `(tactic| fail "none")
local macro_rules | `(tactic| walk_at "m_none") => `(tactic| fail "none")
local macro_rules | `(tactic| walk_at "m_none") => `(tactic| fail "none")
local macro_rules | `(tactic| walk_at "m_none") => `(tactic| fail "none")
local macro_rules | `(tactic| walk_at "m_none") => `(tactic| fail "none")
local macro_rules | `(tactic| walk_at "m_none") => `(tactic| fail "none")
local macro_rules | `(tactic| walk_at "m_none") => `(tactic| fail "none")
local macro_rules | `(tactic| walk_at "m_none") => `(tactic| fail "none")
local macro_rules | `(tactic| walk_at "m_none") => `(tactic| fail "none")
local macro_rules | `(tactic| walk_at "m_none") => `(tactic| fail "none")
local macro_rules | `(tactic| walk_at "m_none") => `(tactic| fail "none")
local macro_rules | `(tactic| walk_at "m_none") => `(tactic| fail "none")
local macro_rules | `(tactic| walk_at "m_none") => `(tactic| fail "none")
local macro_rules | `(tactic| walk_at "m_none") => `(tactic| fail "none")
namespace Mine

def quotedAt (x : List UInt8) (i : Int) : Int :=
  if i + 2 ≥ x.length then -1 else
  if 0 ≤ hexWorth (x.getD (i + 1).toNat 0).toNat ∧ 0 ≤ hexWorth (x.getD (i + 2).toNat 0).toNat then 16 * hexWorth (x.getD (i + 1).toNat 0).toNat + hexWorth (x.getD (i + 2).toNat 0).toNat else -1

set_option maxRecDepth 100000 in
set_option maxHeartbeats 4000000 in
theorem qat_spec : ∀ {w : World} {dp un : Nat} {fr : Option (List Env)} {gd : Option (List Code)} {s : Shared} {lo : List Str} {mean : ExcName → Option Value} {mg mb : Str → Option Value} {R : Result → Shared → Prop} {x : List UInt8} {i : Int} {t u : Tok}
    (X : (Mine.hd.heap_39 w.params).In s.heap) (T : Top Mine.hd.view_39 lo mean mg mb s.heap) (hroom : dp < 490) (hx : x.length ≤ 5000) (hi : 0 ≤ i)
    (ret : ∀ h' tk t', Kept s.heap h' → R (.ok (.ret (.int (quotedAt x i) t'))) { s with heap := h', toks := tk }),
    codeAny (model PySem.Challenge.rw_or0024_01.row.prog w) (Ar dp un fr gd) (.call (.ref 28) ⟨[.bytes x.toArray t, .int i u], []⟩) R s := by
  w_top off
  k_fill
  intro w dp un fr gd s lo mean mg mb R x i t u X T hroom hx hi ret
  (k_dflt (refine' Mine.enter (binds := [(Str.ofString "data", .bytes x.toArray t), (Str.ofString "at", .int i u)]) ?kX ?kT ?k8 ?k6 ?k7 ?k9 ?kB ?_ ?c2 ?c3 ?c4 ?c5; (case kX => assumption); (case kT => assumption); (case k6 => k_is); (case k7 => k_is); (case k8 => (show _ < 1000; omega)); (case k9 => exact BindsTo.of_eq rfl); (case c5 => decide); (case kB => exact locs rfl); (case c2 => exact rfl); (case c3 => exact rfl); (case c4 => exact rfl); k_whole; intro L h₁ F N; (try dsimp only); (try k_fold)))
  k_steps
  all_goals (refine retI (R := R) (s := s) ret (Fr.keep (by assumption)) ?_; unfold quotedAt)
  all_goals ((repeat' split) <;> omega)

end Mine

end PartQAt
section PartSoft
open PySem PySem.W PySem.Calls PyProof.Rows
set_option linter.unusedVariables false
local macro_rules | `(tactic| walk_at "m_size") => `(tactic| first | omega | (simp only [List.length_append, List.length_cons, List.length_nil, List.length_take, List.length_drop]; omega))
local macro_rules | `(tactic| walk_at "call builtin:len") => `(tactic| (k_here; (with_reducible show wpAny _ _ (call (Value.builtin "len") [Value.bytes (List.toArray _) _]) _ _ _); (refine Mine.len_L (by walk_at "m_size") ?_); intro _ _))
local macro_rules | `(tactic| walk_at "subscriptTail") => `(tactic| (k_here; (with_reducible show wpAny _ _ (subscriptTail _ _ (Value.bytes (List.toArray _) _) (Value.int _ _)) _ _ _); (refine Mine.item_L (by walk_at "m_size") (by walk_at "m_size") (by walk_at "m_size") ?_); intro _ _))
local macro_rules | `(tactic| walk_at "binaryOp Add bytes bytes") => `(tactic| (k_here; (with_reducible show wpAny _ _ (binaryOp Operator.Add (Value.bytes (List.toArray _) _) (Value.bytes (List.toArray _) _)) _ _ _); (refine Mine.add_L (by walk_at "m_size") ?_); intro _ _))
local macro_rules | `(tactic| walk_at "compareOp Eq bytes bytes") => `(tactic| (k_here; (with_reducible show wpAny _ _ (compareOp CmpOp.Eq (Value.bytes (List.toArray _) _) (Value.bytes (List.toArray _) _)) _ _ _); (refine Mine.eq_L ?_)))
local macro_rules | `(tactic| walk_at "compareOp NotEq bytes bytes") => `(tactic| (k_here; (with_reducible show wpAny _ _ (compareOp CmpOp.NotEq (Value.bytes (List.toArray _) _) (Value.bytes (List.toArray _) _)) _ _ _); (refine Mine.ne_L ?_)))
-- what a contract asks at a call: the written part, the top, the room
local macro_rules | `(tactic| walk_at "m_cx") => `(tactic| first | assumption | exact Frag.In.keeps (by assumption) (Fr.keep (by assumption)) | exact Top.keeps (by assumption) (Fr.keep (by assumption)))
local macro_rules | `(tactic| walk_at "m_back") => `(tactic| (intro h9 tk9 t9 hk9; (with_reducible rename Fr _ _ _ _ => F8); (with_reducible rename News _ _ _ _ => N8); (have F9 := Fr.keeps F8 hk9); (have N9 := News.grown N8 hk9); clear F8 N8 hk9; (try dsimp only); (try k_fold)))
local macro_rules | `(tactic| walk_at "m_lenq") => `(tactic| first | exact Mine.BsAre.length (by assumption) | exact IntsAre.length (by assumption))
local macro_rules | `(tactic| walk_at "call builtin:len") => `(tactic| (k_here; (with_reducible show wpAny _ _ (call (Value.builtin "len") [Value.ref _]) _ _ _); (with_unfolding_all refine' Mine.len_V ?k1 ?k2 ?k3 ?_; (case k1 => is_list); (case k2 => walk_at "m_lenq"); (case k3 => walk_at "m_size"); k_whole); intro _ _))
local macro_rules | `(tactic| walk_at "subscriptTail") => `(tactic| (k_here; (with_reducible show wpAny _ _ (subscriptTail _ _ (Value.ref _) (Value.int _ _)) _ _ _); (with_unfolding_all refine' Mine.item_B ?k1 ?k2 ?k3 ?k4 ?k5 ?k6 ?_ ?k7; (case k1 => is_list); (case k2 => assumption); (case k3 => assumption); (case k4 => walk_at "m_size"); (case k5 => walk_at "m_size"); (case k6 => walk_at "m_size"); (case k7 => with_unfolding_all rfl); k_whole); intro _ hSmall9))
local macro_rules | `(tactic| walk_at "pyIter ref") => `(tactic| k_extra "MYLOOP")
local macro_rules | `(tactic| walk_at "InvEndN") => `(tactic| ((with_reducible show InvEndN _ _ (Mine.MJ _ _ _ _ _ _ _) _ _ _ _); refine Mine.hold_of ?_))
local macro_rules | `(tactic| walk_at "getMethod bytes") => `(tactic| (k_here; first | (with_reducible refine Mine.m_find ?_) | (with_reducible refine Mine.m_rstrip ?_) | (with_reducible refine Mine.m_join ?_)))
local macro_rules | `(tactic| walk_at "call builtin:bytes.join") => `(tactic| (k_here; (with_unfolding_all refine' Mine.join_L ?k1 ?k2 ?k3 ?_; (case k1 => is_list); (case k2 => assumption); (case k3 => first | assumption | walk_at "m_size"); k_whole); intro _ _))
local macro_rules | `(tactic| walk_at "call builtin:bytes.find") => `(tactic| (k_here; (with_reducible show wpAny _ _ (call (Value.builtin "bytes.find") [Value.bytes (List.toArray _) _, Value.bytes (List.toArray [_]) _, Value.int _ _]) _ _ _); (refine Mine.find_L (by walk_at "m_size") (by walk_at "m_size") ?_); intro _ _))
local macro_rules | `(tactic| walk_at "call builtin:bytes.rstrip") => `(tactic| (k_here; (with_reducible show wpAny _ _ (call (Value.builtin "bytes.rstrip") [Value.bytes (List.toArray _) _, Value.bytes (List.toArray _) _]) _ _ _); (refine Mine.rstrip_L (by walk_at "m_size") ?_); intro _ _ hStrip9))
local macro_rules | `(tactic| walk_at "m_pick") => `(tactic| first | exact Mine.pickL_last _ | exact Mine.pickL_init _ | exact Mine.pickL_to _ (by walk_at "m_size") | exact Mine.pickL_from _ (by walk_at "m_size") | exact Mine.pickL_of _ (by walk_at "m_size") (by walk_at "m_size"))
local macro_rules | `(tactic| walk_at "subscriptTail") => `(tactic| (k_here; (with_reducible show wpAny _ _ (subscriptTail _ (Expr.Slice _ _ none _) (Value.bytes (List.toArray _) _) (Value.ref _)) _ _ _); (with_reducible rename Fr _ _ _ _ => F'); (with_reducible rename News _ _ _ _ => N'); (refine Mine.slice_L (s := ⟨_, _, _, _, _⟩) F' N' (by constructor) (by constructor) (by walk_at "m_size") (by walk_at "m_pick") ?_); intro _ _ _ _ _))
local macro_rules | `(tactic| walk_at "exec For Name") => `(tactic| (k_here; (rename Fr _ _ _ _ => lF'); (with_unfolding_all refine' For_invVF lF' ?k1 ?k2 ?_; (case k1 => exact rfl); (case k2 => exact rfl); k_whole)))
local macro_rules | `(tactic| walk_at "exec While") => `(tactic| k_extra "MYWHILE")
local macro_rules | `(tactic| walk_at "exec While Compare cons nil") => `(tactic| k_extra "MYWHILE")
local macro_rules | `(tactic| walk_at "exec While Constant cons nil") => `(tactic| k_extra "MYWHILE")
local macro_rules | `(tactic| walk_at "KswEnd") => `(tactic| ((with_reducible show KswEnd _ _ _ _ _ _ _ _ _ _ _ _); refine Mine.hold_of ?_))
local macro_rules | `(tactic| walk_at "m_backL") => `(tactic| (intro h9 tk9 t9 hk9 hl9; (with_reducible rename Fr _ _ _ _ => F8); (with_reducible rename News _ _ _ _ => N8); (have F9 := Fr.keeps F8 hk9); (have N9 := News.grown N8 hk9); clear F8 N8 hk9; (try dsimp only); (try k_fold)))
local macro_rules | `(tactic| walk_at "call ref") => `(tactic| k_extra "MYCALL")
local macro_rules | `(tactic| walk_at "exec For Tuple Call cons nil") => `(tactic| (k_here; (rename Fr _ _ _ _ => lF'); (with_unfolding_all refine' For_invTF lF' ?_ ?k; (case k => (intro _; rfl)))))
local macro_rules | `(tactic| walk_at "execs cons Assign cons") => `(tactic| (with_reducible refine wpAny_execs_cons ?_))
local macro_rules | `(tactic| walk_at "execs cons Assign nil") => `(tactic| (with_reducible refine wpAny_execs_cons ?_))
local macro_rules | `(tactic| walk_at "execs cons Expr cons") => `(tactic| (with_reducible refine wpAny_execs_cons ?_))
local macro_rules | `(tactic| walk_at "execs cons Expr nil") => `(tactic| (with_reducible refine wpAny_execs_cons ?_))
local macro_rules | `(tactic| walk_at "execs cons If cons") => `(tactic| (with_reducible refine wpAny_execs_cons ?_))
local macro_rules | `(tactic| walk_at "execs cons If nil") => `(tactic| (with_reducible refine wpAny_execs_cons ?_))
local macro_rules | `(tactic| walk_at "execs cons For cons") => `(tactic| (with_reducible refine wpAny_execs_cons ?_))
local macro_rules | `(tactic| walk_at "execs cons For nil") => `(tactic| (with_reducible refine wpAny_execs_cons ?_))
local macro_rules | `(tactic| walk_at "execs cons While cons") => `(tactic| (with_reducible refine wpAny_execs_cons ?_))
local macro_rules | `(tactic| walk_at "execs cons While nil") => `(tactic| (with_reducible refine wpAny_execs_cons ?_))
local macro_rules | `(tactic| walk_at "execs cons Return cons") => `(tactic| (with_reducible refine wpAny_execs_cons ?_))
local macro_rules | `(tactic| walk_at "execs cons Return nil") => `(tactic| (with_reducible refine wpAny_execs_cons ?_))
local macro_rules | `(tactic| walk_at "InvEndN") => `(tactic| ((with_reducible show InvEndN _ _ (Mine.MK _ _ _ _ _ _) _ _ _ _); refine Mine.hold_of ?_))
local macro_rules | `(tactic| walk_at "m_none") => `(tactic| fail "none")
local macro_rules | `(tactic| walk_at "m_none") => `(tactic| fail "none")
local macro_rules | `(tactic| walk_at "m_none") => `(tactic| fail "none")
local macro_rules | `(tactic| walk_at "m_none") => `(tactic| fail "none")
local macro_rules | `(tactic| walk_at "m_none") => `(tactic| fail "none")
local macro_rules | `(tactic| walk_at "m_none") => `(tactic| fail "none")
local macro_rules | `(tactic| walk_at "m_none") => `(tactic| fail "none")
local macro_rules | `(tactic| walk_at "m_none") => `(tactic| fail "none")
local macro_rules | `(tactic| walk_at "m_none") => `(tactic| fail "none")
local macro_rules | `(tactic| walk_at "m_none") => `(tactic| fail "none")
local macro_rules | `(tactic| walk_at "m_none") => `(tactic| fail "none")
local macro_rules | `(tactic| walk_at "m_none") => `(tactic| fail "none")
local macro_rules | `(tactic| walk_at "m_none") => `(tactic| fail "none")
local macro_rules | `(tactic| walk_at "m_none") => `(tactic| fail "none")
local macro_rules | `(tactic| walk_at "m_none") => `(tactic| fail "none")
local macro_rules | `(tactic| walk_at "m_none") => `(tactic| fail "none")
local macro_rules | `(tactic| walk_at "m_none") => `(tactic| fail "none")
local macro_rules | `(tactic| walk_at "m_none") => `(tactic| fail "none")
local macro_rules | `(tactic| walk_at "m_none") => `(tactic| fail "none")
local macro_rules | `(tactic| walk_at "m_none") => `(tactic| fail "none")
local macro_rules | `(tactic| walk_at "m_none") => `(tactic| fail "none")
local macro_rules | `(tactic| walk_at "m_none") => `(tactic| fail "none")
local macro_rules | `(tactic| walk_at "m_none") => `(tactic| fail "none")
local macro_rules | `(tactic| walk_at "m_none") => `(tactic| fail "none")
local macro_rules | `(tactic| walk_at "m_none") => `(tactic| fail "none")
local macro_rules | `(tactic| walk_at "m_none") => `(tactic| fail "none")
local macro_rules | `(tactic| walk_at "m_none") => `(tactic| fail "none")
local macro_rules | `(tactic| walk_at "m_none") => `(tactic| fail "none")
local macro_rules | `(tactic| walk_at "m_none") => `(tactic| fail "none")
local macro_rules | `(tactic| walk_at "m_none") => `(tactic| fail "none")
local macro_rules | `(tactic| walk_at "m_none") => `(tactic| fail "none")
local macro_rules | `(tactic| walk_at "m_none") => `(tactic| fail "none")
local macro_rules | `(tactic| walk_at "m_none") => `(tactic| fail "none")
local macro_rules | `(tactic| walk_at "m_none") => `(tactic| fail "none")
local macro_rules | `(tactic| walk_at "m_none") => `(tactic| fail "none")
local macro_rules | `(tactic| walk_at "m_none") => `(tactic| fail "none")
local macro_rules | `(tactic| walk_at "m_none") => `(tactic| fail "none")
local macro_rules | `(tactic| walk_at "m_none") => `(tactic| fail "none")
local macro_rules | `(tactic| walk_at "m_none") => `(tactic| fail "none")
local macro_rules | `(tactic| walk_at "m_none") => `(tactic| fail "none")
namespace Mine

def roomOf (wd : Int) (xs : List (List UInt8)) (i : Nat) : Int := if (i : Int) = (xs.length : Int) - 1 then wd else wd - 1
/-- soft_lines, i turns: the lines, the line -/
def softSt (wd : Int) (xs : List (List UInt8)) : Nat → List (List UInt8) × List UInt8
  | 0 => ([], [])
  | i + 1 =>
    if roomOf wd xs i < ((softSt wd xs i).2.length : Int) + ((xs.getD i []).length : Int)
    then ((softSt wd xs i).1 ++ [(softSt wd xs i).2 ++ [61]], xs.getD i [])
    else ((softSt wd xs i).1, (softSt wd xs i).2 ++ xs.getD i [])
def softL (wd : Int) (xs : List (List UInt8)) : List (List UInt8) := (softSt wd xs xs.length).1 ++ [(softSt wd xs xs.length).2]
theorem softSt_len {wd : Int} {xs : List (List UInt8)} (hs : Small xs) (hw : wd ≤ 50) : ∀ i, (softSt wd xs i).2.length ≤ 200
  | 0 => by simp [softSt]
  | i + 1 => by
    have h := softSt_len hs hw i
    have hx : (xs.getD i []).length ≤ 200 := by
      rw [List.getD_eq_getElem?_getD]
      cases e : xs[i]? with
      | none => simp
      | some x => exact hs x (List.mem_of_getElem? e)
    unfold softSt
    split
    · exact hx
    · rename_i h2
      simp only [List.length_append]
      have : roomOf wd xs i ≤ wd := by unfold roomOf; split <;> omega
      omega
theorem softSt_ll (wd : Int) (xs : List (List UInt8)) : ∀ i, (softSt wd xs i).1.length ≤ i
  | 0 => by simp [softSt]
  | i + 1 => by
    have h := softSt_ll wd xs i
    unfold softSt
    split
    · simp only [List.length_append, List.length_cons, List.length_nil]; omega
    · show (softSt wd xs i).1.length ≤ i + 1
      omega

theorem softSt_flush {wd : Int} {xs : List (List UInt8)} {i : Nat} (h : roomOf wd xs i < ((softSt wd xs i).2.length : Int) + ((xs.getD i []).length : Int)) :
    softSt wd xs (i + 1) = ((softSt wd xs i).1 ++ [(softSt wd xs i).2 ++ [61]], xs.getD i []) := if_pos h
theorem softSt_stay {wd : Int} {xs : List (List UInt8)} {i : Nat} (h : ¬ roomOf wd xs i < ((softSt wd xs i).2.length : Int) + ((xs.getD i []).length : Int)) :
    softSt wd xs (i + 1) = ((softSt wd xs i).1, (softSt wd xs i).2 ++ xs.getD i []) := if_neg h

set_option maxRecDepth 100000 in
set_option maxHeartbeats 4000000 in
theorem soft_spec : ∀ {w : World} {dp un : Nat} {fr : Option (List Env)} {gd : Option (List Code)} {s : Shared} {lo : List Str} {mean : ExcName → Option Value} {mg mb : Str → Option Value} {R : Result → Shared → Prop} {p : Addr} {vs : List Value} {xs : List (List UInt8)} {wd : Int} {u : Tok}
    (X : (Mine.hd.heap_39 w.params).In s.heap) (T : Top Mine.hd.view_39 lo mean mg mb s.heap) (hroom : dp < 490) (hp : s.heap.IsList p vs.toArray) (hvs : BsAre vs xs) (hlen : xs.length ≤ 50) (hsz : Small xs) (hw : 4 ≤ wd) (hw' : wd ≤ 50)
    (ret : ∀ h' tk r ws n, Kept s.heap h' → h'.get? r = some (listOf ws.toArray n) → s.heap.get? r = none → BsAre ws (softL wd xs) → R (.ok (.ret (.ref r))) { s with heap := h', toks := tk }),
    codeAny (model PySem.Challenge.rw_or0024_01.row.prog w) (Ar dp un fr gd) (.call (.ref 35) ⟨[.ref p, .int wd u], []⟩) R s := by
  w_top off
  k_fill
  intro w dp un fr gd s lo mean mg mb R p vs xs wd u X T hroom hp hvs hlen hsz hw hw' ret
  (k_dflt (refine' Mine.enter (binds := [(Str.ofString "pieces", .ref p), (Str.ofString "width", .int wd u)]) ?kX ?kT ?k8 ?k6 ?k7 ?k9 ?kB ?_ ?c2 ?c3 ?c4 ?c5; (case kX => assumption); (case kT => assumption); (case k6 => k_is); (case k7 => k_is); (case k8 => (show _ < 1000; omega)); (case k9 => exact BindsTo.of_eq rfl); (case c5 => decide); (case kB => exact locs rfl); (case c2 => exact rfl); (case c3 => exact rfl); (case c4 => exact rfl); k_whole; intro L h₁ F N; (try dsimp only); (try k_fold)))
  k_with_none
  k_with "MYLOOP" =>
    rename Fr _ _ _ _ => lF'
    rename News _ _ _ _ => lN'
    rename IsRange _ _ _ _ _ _ _ _ => rgX
    with_unfolding_all refine' m_range (σ := List Value × Nat × Tok) (n := xs.length) (fun i c => [(_, listOf c.1.toArray c.2.1)]) (fun i c => [(Str.ofString "line", .bytes (softSt wd xs i).2.toArray c.2.2)]) [Str.ofString "room"] (fun i c => BsAre c.1 (softSt wd xs i).1) ([], 0, _) rfl rgX ?k1 ?k2 lF' lN' ?k3 ?k4 ?kt ?kd
    case k1 => exact small_one (by omega) (by omega) (by omega) (by omega)
    case k2 => exact (rangeSize_nat _ _).trans (by omega)
    case k3 => kst_all
    case k4 => exact BsAre.nil
    all_goals clear lF' lN'
    case' kt =>
      intro i t c u9 h tk own hi hoff hP F' N'
      obtain ⟨ws, n, t2⟩ := c
      dsimp only [List.map, kstB] at F' N' hP hoff
      simp only [List.cons_append, List.nil_append] at N'
      simp only [Int.zero_add, Int.mul_one] at F'
      have hln := softSt_len hsz hw' i
      have hll := softSt_ll wd xs i
      have hbl := hP.length
    case' kd =>
      intro c u9 h tk hP F' N'
      obtain ⟨ws, n, t2⟩ := c
      dsimp only [kstB] at F' N' hP
      have hln := softSt_len hsz hw' xs.length
      have hll := softSt_ll wd xs xs.length
      have hbl := hP.length
    all_goals (try k_fold)
  k_steps
  case kd.refine'_4.refine'_4.refine'_5 =>
    rename News _ _ _ _ => N9
    rename Fr _ _ _ _ => F9
    exact ret _ _ _ _ _ F9.keep (N9 _ (.head _)).1 (N9 _ (.head _)).2.2 (hP.append (.one _ _))
  all_goals (
    rename News _ _ _ _ => N9
    rename Fr _ _ _ _ => F9
    simp only [Int.toNat_natCast] at *
    try simp only [List.push_toArray] at N9
    first
      | (have e := softSt_flush (wd := wd) (xs := xs) (i := i) ?hc
         case hc => (unfold roomOf; split <;> omega))
      | (have e := softSt_stay (wd := wd) (xs := xs) (i := i) ?hc
         case hc => (unfold roomOf; split <;> omega))
    have e1 := congrArg Prod.fst e
    have e2 := congrArg Prod.snd e
    dsimp only at e1 e2
    refine' m_end ⟨_, _, _⟩ F9 N9 ?hn ?ho ?ha ?h1 ?h2 ?hp
    case hn => kst_in
    case ho => (intro p hp; kst_mem)
    case ha => rfl
    case h1 => (intro q hq; rw [List.mem_singleton.mp hq]; rw [e2]; first | rfl | exact rfl)
    case h2 => kst_same
    case hp => (dsimp only; rw [e1]; first | exact hP | exact hP.append (.one _ _)))
end Mine

end PartSoft
section PartJoined
open PySem PySem.W PySem.Calls PyProof.Rows
set_option linter.unusedVariables false
local macro_rules | `(tactic| walk_at "m_size") => `(tactic| first | omega | (simp only [List.length_append, List.length_cons, List.length_nil, List.length_take, List.length_drop]; omega))
local macro_rules | `(tactic| walk_at "call builtin:len") => `(tactic| (k_here; (with_reducible show wpAny _ _ (call (Value.builtin "len") [Value.bytes (List.toArray _) _]) _ _ _); (refine Mine.len_L (by walk_at "m_size") ?_); intro _ _))
local macro_rules | `(tactic| walk_at "subscriptTail") => `(tactic| (k_here; (with_reducible show wpAny _ _ (subscriptTail _ _ (Value.bytes (List.toArray _) _) (Value.int _ _)) _ _ _); (refine Mine.item_L (by walk_at "m_size") (by walk_at "m_size") (by walk_at "m_size") ?_); intro _ _))
local macro_rules | `(tactic| walk_at "binaryOp Add bytes bytes") => `(tactic| (k_here; (with_reducible show wpAny _ _ (binaryOp Operator.Add (Value.bytes (List.toArray _) _) (Value.bytes (List.toArray _) _)) _ _ _); (refine Mine.add_L (by walk_at "m_size") ?_); intro _ _))
local macro_rules | `(tactic| walk_at "compareOp Eq bytes bytes") => `(tactic| (k_here; (with_reducible show wpAny _ _ (compareOp CmpOp.Eq (Value.bytes (List.toArray _) _) (Value.bytes (List.toArray _) _)) _ _ _); (refine Mine.eq_L ?_)))
local macro_rules | `(tactic| walk_at "compareOp NotEq bytes bytes") => `(tactic| (k_here; (with_reducible show wpAny _ _ (compareOp CmpOp.NotEq (Value.bytes (List.toArray _) _) (Value.bytes (List.toArray _) _)) _ _ _); (refine Mine.ne_L ?_)))
-- what a contract asks at a call: the written part, the top, the room
local macro_rules | `(tactic| walk_at "m_cx") => `(tactic| first | assumption | exact Frag.In.keeps (by assumption) (Fr.keep (by assumption)) | exact Top.keeps (by assumption) (Fr.keep (by assumption)))
local macro_rules | `(tactic| walk_at "m_back") => `(tactic| (intro h9 tk9 t9 hk9; (with_reducible rename Fr _ _ _ _ => F8); (with_reducible rename News _ _ _ _ => N8); (have F9 := Fr.keeps F8 hk9); (have N9 := News.grown N8 hk9); clear F8 N8 hk9; (try dsimp only); (try k_fold)))
local macro_rules | `(tactic| walk_at "m_lenq") => `(tactic| first | exact Mine.BsAre.length (by assumption) | exact IntsAre.length (by assumption))
local macro_rules | `(tactic| walk_at "call builtin:len") => `(tactic| (k_here; (with_reducible show wpAny _ _ (call (Value.builtin "len") [Value.ref _]) _ _ _); (with_unfolding_all refine' Mine.len_V ?k1 ?k2 ?k3 ?_; (case k1 => is_list); (case k2 => walk_at "m_lenq"); (case k3 => walk_at "m_size"); k_whole); intro _ _))
local macro_rules | `(tactic| walk_at "subscriptTail") => `(tactic| (k_here; (with_reducible show wpAny _ _ (subscriptTail _ _ (Value.ref _) (Value.int _ _)) _ _ _); (with_unfolding_all refine' Mine.item_B ?k1 ?k2 ?k3 ?k4 ?k5 ?k6 ?_ ?k7; (case k1 => is_list); (case k2 => assumption); (case k3 => assumption); (case k4 => walk_at "m_size"); (case k5 => walk_at "m_size"); (case k6 => walk_at "m_size"); (case k7 => with_unfolding_all rfl); k_whole); intro _ hSmall9))
local macro_rules | `(tactic| walk_at "pyIter ref") => `(tactic| k_extra "MYLOOP")
local macro_rules | `(tactic| walk_at "InvEndN") => `(tactic| ((with_reducible show InvEndN _ _ (Mine.MJ _ _ _ _ _ _ _) _ _ _ _); refine Mine.hold_of ?_))
local macro_rules | `(tactic| walk_at "getMethod bytes") => `(tactic| (k_here; first | (with_reducible refine Mine.m_find ?_) | (with_reducible refine Mine.m_rstrip ?_) | (with_reducible refine Mine.m_join ?_)))
local macro_rules | `(tactic| walk_at "call builtin:bytes.join") => `(tactic| (k_here; (with_unfolding_all refine' Mine.join_L ?k1 ?k2 ?k3 ?_; (case k1 => is_list); (case k2 => assumption); (case k3 => first | assumption | walk_at "m_size"); k_whole); intro _ _))
local macro_rules | `(tactic| walk_at "call builtin:bytes.find") => `(tactic| (k_here; (with_reducible show wpAny _ _ (call (Value.builtin "bytes.find") [Value.bytes (List.toArray _) _, Value.bytes (List.toArray [_]) _, Value.int _ _]) _ _ _); (refine Mine.find_L (by walk_at "m_size") (by walk_at "m_size") ?_); intro _ _))
local macro_rules | `(tactic| walk_at "call builtin:bytes.rstrip") => `(tactic| (k_here; (with_reducible show wpAny _ _ (call (Value.builtin "bytes.rstrip") [Value.bytes (List.toArray _) _, Value.bytes (List.toArray _) _]) _ _ _); (refine Mine.rstrip_L (by walk_at "m_size") ?_); intro _ _ hStrip9))
local macro_rules | `(tactic| walk_at "m_pick") => `(tactic| first | exact Mine.pickL_last _ | exact Mine.pickL_init _ | exact Mine.pickL_to _ (by walk_at "m_size") | exact Mine.pickL_from _ (by walk_at "m_size") | exact Mine.pickL_of _ (by walk_at "m_size") (by walk_at "m_size"))
local macro_rules | `(tactic| walk_at "subscriptTail") => `(tactic| (k_here; (with_reducible show wpAny _ _ (subscriptTail _ (Expr.Slice _ _ none _) (Value.bytes (List.toArray _) _) (Value.ref _)) _ _ _); (with_reducible rename Fr _ _ _ _ => F'); (with_reducible rename News _ _ _ _ => N'); (refine Mine.slice_L (s := ⟨_, _, _, _, _⟩) F' N' (by constructor) (by constructor) (by walk_at "m_size") (by walk_at "m_pick") ?_); intro _ _ _ _ _))
local macro_rules | `(tactic| walk_at "exec For Name") => `(tactic| (k_here; (rename Fr _ _ _ _ => lF'); (with_unfolding_all refine' For_invVF lF' ?k1 ?k2 ?_; (case k1 => exact rfl); (case k2 => exact rfl); k_whole)))
local macro_rules | `(tactic| walk_at "exec While") => `(tactic| k_extra "MYWHILE")
local macro_rules | `(tactic| walk_at "exec While Compare cons nil") => `(tactic| k_extra "MYWHILE")
local macro_rules | `(tactic| walk_at "exec While Constant cons nil") => `(tactic| k_extra "MYWHILE")
local macro_rules | `(tactic| walk_at "KswEnd") => `(tactic| ((with_reducible show KswEnd _ _ _ _ _ _ _ _ _ _ _ _); refine Mine.hold_of ?_))
local macro_rules | `(tactic| walk_at "m_backL") => `(tactic| (intro h9 tk9 t9 hk9 hl9; (with_reducible rename Fr _ _ _ _ => F8); (with_reducible rename News _ _ _ _ => N8); (have F9 := Fr.keeps F8 hk9); (have N9 := News.grown N8 hk9); clear F8 N8 hk9; (try dsimp only); (try k_fold)))
local macro_rules | `(tactic| walk_at "call ref") => `(tactic| k_extra "MYCALL")
local macro_rules | `(tactic| walk_at "exec For Tuple Call cons nil") => `(tactic| (k_here; (rename Fr _ _ _ _ => lF'); (with_unfolding_all refine' For_invTF lF' ?_ ?k; (case k => (intro _; rfl)))))
local macro_rules | `(tactic| walk_at "execs cons Assign cons") => `(tactic| (with_reducible refine wpAny_execs_cons ?_))
local macro_rules | `(tactic| walk_at "execs cons Assign nil") => `(tactic| (with_reducible refine wpAny_execs_cons ?_))
local macro_rules | `(tactic| walk_at "execs cons Expr cons") => `(tactic| (with_reducible refine wpAny_execs_cons ?_))
local macro_rules | `(tactic| walk_at "execs cons Expr nil") => `(tactic| (with_reducible refine wpAny_execs_cons ?_))
local macro_rules | `(tactic| walk_at "execs cons If cons") => `(tactic| (with_reducible refine wpAny_execs_cons ?_))
local macro_rules | `(tactic| walk_at "execs cons If nil") => `(tactic| (with_reducible refine wpAny_execs_cons ?_))
local macro_rules | `(tactic| walk_at "execs cons For cons") => `(tactic| (with_reducible refine wpAny_execs_cons ?_))
local macro_rules | `(tactic| walk_at "execs cons For nil") => `(tactic| (with_reducible refine wpAny_execs_cons ?_))
local macro_rules | `(tactic| walk_at "execs cons While cons") => `(tactic| (with_reducible refine wpAny_execs_cons ?_))
local macro_rules | `(tactic| walk_at "execs cons While nil") => `(tactic| (with_reducible refine wpAny_execs_cons ?_))
local macro_rules | `(tactic| walk_at "execs cons Return cons") => `(tactic| (with_reducible refine wpAny_execs_cons ?_))
local macro_rules | `(tactic| walk_at "execs cons Return nil") => `(tactic| (with_reducible refine wpAny_execs_cons ?_))
local macro_rules | `(tactic| walk_at "InvEndN") => `(tactic| ((with_reducible show InvEndN _ _ (Mine.MK _ _ _ _ _ _) _ _ _ _); refine Mine.hold_of ?_))
local macro_rules | `(tactic| walk_at "m_none") => `(tactic| fail "none")
local macro_rules | `(tactic| walk_at "m_none") => `(tactic| fail "none")
local macro_rules | `(tactic| walk_at "m_none") => `(tactic| fail "none")
local macro_rules | `(tactic| walk_at "m_none") => `(tactic| fail "none")
local macro_rules | `(tactic| walk_at "m_none") => `(tactic| fail "none")
local macro_rules | `(tactic| walk_at "m_none") => `(tactic| fail "none")
local macro_rules | `(tactic| walk_at "m_none") => `(tactic| fail "none")
local macro_rules | `(tactic| walk_at "m_none") => `(tactic| fail "none")
local macro_rules | `(tactic| walk_at "m_none") => `(tactic| fail "none")
local macro_rules | `(tactic| walk_at "m_none") => `(tactic| fail "none")
local macro_rules | `(tactic| walk_at "m_none") => `(tactic| fail "none")
local macro_rules | `(tactic| walk_at "m_none") => `(tactic| fail "none")
local macro_rules | `(tactic| walk_at "m_none") => `(tactic| fail "none")
local macro_rules | `(tactic| walk_at "m_none") => `(tactic| fail "none")
local macro_rules | `(tactic| walk_at "m_none") => `(tactic| fail "none")
local macro_rules | `(tactic| walk_at "m_none") => `(tactic| fail "none")
local macro_rules | `(tactic| walk_at "m_none") => `(tactic| fail "none")
local macro_rules | `(tactic| walk_at "m_none") => `(tactic| fail "none")
local macro_rules | `(tactic| walk_at "m_none") => `(tactic| fail "none")
local macro_rules | `(tactic| walk_at "m_none") => `(tactic| fail "none")
local macro_rules | `(tactic| walk_at "m_none") => `(tactic| fail "none")
local macro_rules | `(tactic| walk_at "m_none") => `(tactic| fail "none")
local macro_rules | `(tactic| walk_at "m_none") => `(tactic| fail "none")
local macro_rules | `(tactic| walk_at "m_none") => `(tactic| fail "none")
local macro_rules | `(tactic| walk_at "m_none") => `(tactic| fail "none")
local macro_rules | `(tactic| walk_at "m_none") => `(tactic| fail "none")
local macro_rules | `(tactic| walk_at "m_none") => `(tactic| fail "none")
local macro_rules | `(tactic| walk_at "m_none") => `(tactic| fail "none")
local macro_rules | `(tactic| walk_at "m_none") => `(tactic| fail "none")
local macro_rules | `(tactic| walk_at "m_none") => `(tactic| fail "none")
local macro_rules | `(tactic| walk_at "m_none") => `(tactic| fail "none")
local macro_rules | `(tactic| walk_at "m_none") => `(tactic| fail "none")
local macro_rules | `(tactic| walk_at "m_none") => `(tactic| fail "none")
local macro_rules | `(tactic| walk_at "m_none") => `(tactic| fail "none")
local macro_rules | `(tactic| walk_at "m_none") => `(tactic| fail "none")
local macro_rules | `(tactic| walk_at "m_none") => `(tactic| fail "none")
local macro_rules | `(tactic| walk_at "m_none") => `(tactic| fail "none")
local macro_rules | `(tactic| walk_at "m_none") => `(tactic| fail "none")
local macro_rules | `(tactic| walk_at "m_none") => `(tactic| fail "none")
local macro_rules | `(tactic| walk_at "m_none") => `(tactic| fail "none")
local macro_rules | `(tactic| walk_at "m_none") => `(tactic| fail "none")
namespace Mine

def joinedOne (x : List UInt8) : List (List UInt8) := if x.drop (x.length - 1) == [61] then [x, [13, 10]] else [x]
/-- joined_lines: the parts -/
def joinedSt (xs : List (List UInt8)) : List (List UInt8) := xs.flatMap joinedOne
theorem joinedSt_step {xs : List (List UInt8)} {i : Nat} (h : i < xs.length) : joinedSt (xs.take (i + 1)) = joinedSt (xs.take i) ++ joinedOne (xs.getD i []) := by
  unfold joinedSt
  rw [List.take_add_one, List.getElem?_eq_getElem h, List.getD_eq_getElem?_getD, List.getElem?_eq_getElem h, List.flatMap_append]
  simp only [Option.toList, List.flatMap_cons, List.flatMap_nil, List.append_nil, Option.getD_some]
theorem joinedSt_len : ∀ (xs : List (List UInt8)), (joinedSt xs).length ≤ 2 * xs.length
  | [] => by simp [joinedSt]
  | x :: xs => by
    have := joinedSt_len xs
    unfold joinedSt at this ⊢
    simp only [List.flatMap_cons, List.length_append, List.length_cons]
    have : (joinedOne x).length ≤ 2 := by unfold joinedOne; split <;> simp
    omega
theorem joinedSt_flat : ∀ (xs : List (List UInt8)), Small xs → (joinedSt xs).flatten.length ≤ 202 * xs.length
  | [], _ => by simp [joinedSt]
  | x :: xs, h => by
    have h1 := joinedSt_flat xs fun y hy => h y (.tail _ hy)
    have h2 := h x (.head _)
    unfold joinedSt at h1 ⊢
    simp only [List.flatMap_cons, List.flatten_append, List.length_append, List.length_cons]
    have : (joinedOne x).flatten.length ≤ x.length + 2 := by unfold joinedOne; split <;> simp
    omega
theorem getD_small {xs : List (List UInt8)} (h : Small xs) (i : Nat) : (xs.getD i []).length ≤ 200 := by
  rw [List.getD_eq_getElem?_getD]
  cases e : xs[i]? with
  | none => simp
  | some x => exact h x (List.mem_of_getElem? e)

set_option maxRecDepth 100000 in
set_option maxHeartbeats 4000000 in
theorem joined_spec : ∀ {w : World} {dp un : Nat} {fr : Option (List Env)} {gd : Option (List Code)} {s : Shared} {lo : List Str} {mean : ExcName → Option Value} {mg mb : Str → Option Value} {R : Result → Shared → Prop} {p : Addr} {vs : List Value} {xs : List (List UInt8)}
    (X : (Mine.hd.heap_39 w.params).In s.heap) (T : Top Mine.hd.view_39 lo mean mg mb s.heap) (hroom : dp < 490) (hp : s.heap.IsList p vs.toArray) (hvs : BsAre vs xs) (hlen : xs.length ≤ 60) (hsz : Small xs)
    (ret : ∀ h' tk t, Kept s.heap h' → R (.ok (.ret (.bytes (joinedSt xs).flatten.toArray t))) { s with heap := h', toks := tk }),
    codeAny (model PySem.Challenge.rw_or0024_01.row.prog w) (Ar dp un fr gd) (.call (.ref 42) ⟨[.ref p], []⟩) R s := by
  w_top off
  k_fill
  intro w dp un fr gd s lo mean mg mb R p vs xs X T hroom hp hvs hlen hsz ret
  (k_dflt (refine' Mine.enter (binds := [(Str.ofString "lines", .ref p)]) ?kX ?kT ?k8 ?k6 ?k7 ?k9 ?kB ?_ ?c2 ?c3 ?c4 ?c5; (case kX => assumption); (case kT => assumption); (case k6 => k_is); (case k7 => k_is); (case k8 => (show _ < 1000; omega)); (case k9 => exact BindsTo.of_eq rfl); (case c5 => decide); (case kB => exact locs rfl); (case c2 => exact rfl); (case c3 => exact rfl); (case c4 => exact rfl); k_whole; intro L h₁ F N; (try dsimp only); (try k_fold)))
  k_with_none
  k_with "MYLOOP" =>
    rename Fr _ _ _ _ => lF'
    rename News _ _ _ _ => lN'
    with_unfolding_all refine' m_list (σ := List Value × Nat) (fun i c => [(_, listOf c.1.toArray c.2)]) (fun i c => []) [] (fun i c => BsAre c.1 (joinedSt (xs.take i))) ([], 0) rfl hp lF' lN' ?k3 ?k4 ?kt ?kd
    case k3 => kst_all
    case k4 => exact BsAre.nil
    all_goals clear lF' lN'
    case' kt =>
      intro i v c u9 h tk own hi hoff hP F' N'
      have hix : i < xs.length := by rw [← hvs.length]; exact (List.getElem?_eq_some_iff.mp hi).1
      obtain ⟨tv, htv⟩ := hvs.get i hix
      rw [htv] at hi
      cases hi
      obtain ⟨ws, n⟩ := c
      dsimp only [List.map, kstB] at F' N' hP hoff
      simp only [List.cons_append, List.nil_append] at N'
      have hln := getD_small hsz i
      have hbl := hP.length
      have hjl := joinedSt_len (xs.take i)
      have htl : (xs.take i).length ≤ xs.length := by simp; omega
    case' kd =>
      intro c u9 h tk hP F' N'
      obtain ⟨ws, n⟩ := c
      dsimp only [kstB] at F' N' hP
      rw [hvs.length, List.take_length] at hP
      have hfl := joinedSt_flat xs hsz
      have hfl2 : (joinedSt xs).flatten.length ≤ 1000000 := by omega
    all_goals (try k_fold)
  k_steps
  case kd.refine'_4.refine'_3 =>
    rename Fr _ _ _ _ => F9
    exact ret _ _ _ F9.keep
  all_goals (
    rename News _ _ _ _ => N9
    rename Fr _ _ _ _ => F9
    rename (List.drop _ _ == _) = _ => hc
    rw [show (Int.toNat 61).toUInt8 = (61 : UInt8) from rfl] at hc
    try simp only [List.push_toArray] at N9
    refine' m_end ⟨_, _⟩ F9 N9 ?hn ?ho ?ha ?h1 ?h2 ?hp
    case hn => kst_in
    case ho => (intro p hp; kst_mem)
    case ha => rfl
    case h1 => kst_all
    case h2 => kst_same
    case hp =>
      dsimp only
      rw [joinedSt_step hix]
      unfold joinedOne
      rw [hc]
      first
        | exact hP.append (.one _ _)
        | exact (List.append_assoc ws _ _).symm ▸ hP.append (.cons _ _ (.one _ _)))
end Mine

end PartJoined
section PartParts
open PySem PySem.W PySem.Calls PyProof.Rows
set_option linter.unusedVariables false
local macro_rules | `(tactic| walk_at "m_size") => `(tactic| first | omega | (simp only [List.length_append, List.length_cons, List.length_nil, List.length_take, List.length_drop]; omega))
local macro_rules | `(tactic| walk_at "call builtin:len") => `(tactic| (k_here; (with_reducible show wpAny _ _ (call (Value.builtin "len") [Value.bytes (List.toArray _) _]) _ _ _); (refine Mine.len_L (by walk_at "m_size") ?_); intro _ _))
local macro_rules | `(tactic| walk_at "subscriptTail") => `(tactic| (k_here; (with_reducible show wpAny _ _ (subscriptTail _ _ (Value.bytes (List.toArray _) _) (Value.int _ _)) _ _ _); (refine Mine.item_L (by walk_at "m_size") (by walk_at "m_size") (by walk_at "m_size") ?_); intro _ _))
local macro_rules | `(tactic| walk_at "binaryOp Add bytes bytes") => `(tactic| (k_here; (with_reducible show wpAny _ _ (binaryOp Operator.Add (Value.bytes (List.toArray _) _) (Value.bytes (List.toArray _) _)) _ _ _); (refine Mine.add_L (by walk_at "m_size") ?_); intro _ _))
local macro_rules | `(tactic| walk_at "compareOp Eq bytes bytes") => `(tactic| (k_here; (with_reducible show wpAny _ _ (compareOp CmpOp.Eq (Value.bytes (List.toArray _) _) (Value.bytes (List.toArray _) _)) _ _ _); (refine Mine.eq_L ?_)))
local macro_rules | `(tactic| walk_at "compareOp NotEq bytes bytes") => `(tactic| (k_here; (with_reducible show wpAny _ _ (compareOp CmpOp.NotEq (Value.bytes (List.toArray _) _) (Value.bytes (List.toArray _) _)) _ _ _); (refine Mine.ne_L ?_)))
-- what a contract asks at a call: the written part, the top, the room
local macro_rules | `(tactic| walk_at "m_cx") => `(tactic| first | assumption | exact Frag.In.keeps (by assumption) (Fr.keep (by assumption)) | exact Top.keeps (by assumption) (Fr.keep (by assumption)))
local macro_rules | `(tactic| walk_at "m_back") => `(tactic| (intro h9 tk9 t9 hk9; (with_reducible rename Fr _ _ _ _ => F8); (with_reducible rename News _ _ _ _ => N8); (have F9 := Fr.keeps F8 hk9); (have N9 := News.grown N8 hk9); clear F8 N8 hk9; (try dsimp only); (try k_fold)))
local macro_rules | `(tactic| walk_at "m_lenq") => `(tactic| first | exact Mine.BsAre.length (by assumption) | exact IntsAre.length (by assumption))
local macro_rules | `(tactic| walk_at "call builtin:len") => `(tactic| (k_here; (with_reducible show wpAny _ _ (call (Value.builtin "len") [Value.ref _]) _ _ _); (with_unfolding_all refine' Mine.len_V ?k1 ?k2 ?k3 ?_; (case k1 => is_list); (case k2 => walk_at "m_lenq"); (case k3 => walk_at "m_size"); k_whole); intro _ _))
local macro_rules | `(tactic| walk_at "subscriptTail") => `(tactic| (k_here; (with_reducible show wpAny _ _ (subscriptTail _ _ (Value.ref _) (Value.int _ _)) _ _ _); (with_unfolding_all refine' Mine.item_B ?k1 ?k2 ?k3 ?k4 ?k5 ?k6 ?_ ?k7; (case k1 => is_list); (case k2 => assumption); (case k3 => assumption); (case k4 => walk_at "m_size"); (case k5 => walk_at "m_size"); (case k6 => walk_at "m_size"); (case k7 => with_unfolding_all rfl); k_whole); intro _ hSmall9))
local macro_rules | `(tactic| walk_at "pyIter ref") => `(tactic| k_extra "MYLOOP")
local macro_rules | `(tactic| walk_at "InvEndN") => `(tactic| ((with_reducible show InvEndN _ _ (Mine.MJ _ _ _ _ _ _ _) _ _ _ _); refine Mine.hold_of ?_))
local macro_rules | `(tactic| walk_at "getMethod bytes") => `(tactic| (k_here; first | (with_reducible refine Mine.m_find ?_) | (with_reducible refine Mine.m_rstrip ?_) | (with_reducible refine Mine.m_join ?_)))
local macro_rules | `(tactic| walk_at "call builtin:bytes.join") => `(tactic| (k_here; (with_unfolding_all refine' Mine.join_L ?k1 ?k2 ?k3 ?_; (case k1 => is_list); (case k2 => assumption); (case k3 => first | assumption | walk_at "m_size"); k_whole); intro _ _))
local macro_rules | `(tactic| walk_at "call builtin:bytes.find") => `(tactic| (k_here; (with_reducible show wpAny _ _ (call (Value.builtin "bytes.find") [Value.bytes (List.toArray _) _, Value.bytes (List.toArray [_]) _, Value.int _ _]) _ _ _); (refine Mine.find_L (by walk_at "m_size") (by walk_at "m_size") ?_); intro _ _))
local macro_rules | `(tactic| walk_at "call builtin:bytes.rstrip") => `(tactic| (k_here; (with_reducible show wpAny _ _ (call (Value.builtin "bytes.rstrip") [Value.bytes (List.toArray _) _, Value.bytes (List.toArray _) _]) _ _ _); (refine Mine.rstrip_L (by walk_at "m_size") ?_); intro _ _ hStrip9))
local macro_rules | `(tactic| walk_at "m_pick") => `(tactic| first | exact Mine.pickL_last _ | exact Mine.pickL_init _ | exact Mine.pickL_to _ (by walk_at "m_size") | exact Mine.pickL_from _ (by walk_at "m_size") | exact Mine.pickL_of _ (by walk_at "m_size") (by walk_at "m_size"))
local macro_rules | `(tactic| walk_at "subscriptTail") => `(tactic| (k_here; (with_reducible show wpAny _ _ (subscriptTail _ (Expr.Slice _ _ none _) (Value.bytes (List.toArray _) _) (Value.ref _)) _ _ _); (with_reducible rename Fr _ _ _ _ => F'); (with_reducible rename News _ _ _ _ => N'); (refine Mine.slice_L (s := ⟨_, _, _, _, _⟩) F' N' (by constructor) (by constructor) (by walk_at "m_size") (by walk_at "m_pick") ?_); intro _ _ _ _ _))
local macro_rules | `(tactic| walk_at "exec For Name") => `(tactic| (k_here; (rename Fr _ _ _ _ => lF'); (with_unfolding_all refine' For_invVF lF' ?k1 ?k2 ?_; (case k1 => exact rfl); (case k2 => exact rfl); k_whole)))
local macro_rules | `(tactic| walk_at "exec While") => `(tactic| k_extra "MYWHILE")
local macro_rules | `(tactic| walk_at "exec While Compare cons nil") => `(tactic| k_extra "MYWHILE")
local macro_rules | `(tactic| walk_at "exec While Constant cons nil") => `(tactic| k_extra "MYWHILE")
local macro_rules | `(tactic| walk_at "KswEnd") => `(tactic| ((with_reducible show KswEnd _ _ _ _ _ _ _ _ _ _ _ _); refine Mine.hold_of ?_))
local macro_rules | `(tactic| walk_at "m_backL") => `(tactic| (intro h9 tk9 t9 hk9 hl9; (with_reducible rename Fr _ _ _ _ => F8); (with_reducible rename News _ _ _ _ => N8); (have F9 := Fr.keeps F8 hk9); (have N9 := News.grown N8 hk9); clear F8 N8 hk9; (try dsimp only); (try k_fold)))
local macro_rules | `(tactic| walk_at "call ref") => `(tactic| k_extra "MYCALL")
local macro_rules | `(tactic| walk_at "exec For Tuple Call cons nil") => `(tactic| (k_here; (rename Fr _ _ _ _ => lF'); (with_unfolding_all refine' For_invTF lF' ?_ ?k; (case k => (intro _; rfl)))))
local macro_rules | `(tactic| walk_at "execs cons Assign cons") => `(tactic| (with_reducible refine wpAny_execs_cons ?_))
local macro_rules | `(tactic| walk_at "execs cons Assign nil") => `(tactic| (with_reducible refine wpAny_execs_cons ?_))
local macro_rules | `(tactic| walk_at "execs cons Expr cons") => `(tactic| (with_reducible refine wpAny_execs_cons ?_))
local macro_rules | `(tactic| walk_at "execs cons Expr nil") => `(tactic| (with_reducible refine wpAny_execs_cons ?_))
local macro_rules | `(tactic| walk_at "execs cons If cons") => `(tactic| (with_reducible refine wpAny_execs_cons ?_))
local macro_rules | `(tactic| walk_at "execs cons If nil") => `(tactic| (with_reducible refine wpAny_execs_cons ?_))
local macro_rules | `(tactic| walk_at "execs cons For cons") => `(tactic| (with_reducible refine wpAny_execs_cons ?_))
local macro_rules | `(tactic| walk_at "execs cons For nil") => `(tactic| (with_reducible refine wpAny_execs_cons ?_))
local macro_rules | `(tactic| walk_at "execs cons While cons") => `(tactic| (with_reducible refine wpAny_execs_cons ?_))
local macro_rules | `(tactic| walk_at "execs cons While nil") => `(tactic| (with_reducible refine wpAny_execs_cons ?_))
local macro_rules | `(tactic| walk_at "execs cons Return cons") => `(tactic| (with_reducible refine wpAny_execs_cons ?_))
local macro_rules | `(tactic| walk_at "execs cons Return nil") => `(tactic| (with_reducible refine wpAny_execs_cons ?_))
local macro_rules | `(tactic| walk_at "InvEndN") => `(tactic| ((with_reducible show InvEndN _ _ (Mine.MK _ _ _ _ _ _) _ _ _ _); refine Mine.hold_of ?_))
local macro_rules | `(tactic| walk_at "m_none") => `(tactic| fail "none")
local macro_rules | `(tactic| walk_at "m_none") => `(tactic| fail "none")
local macro_rules | `(tactic| walk_at "m_none") => `(tactic| fail "none")
local macro_rules | `(tactic| walk_at "m_none") => `(tactic| fail "none")
local macro_rules | `(tactic| walk_at "m_none") => `(tactic| fail "none")
local macro_rules | `(tactic| walk_at "m_none") => `(tactic| fail "none")
local macro_rules | `(tactic| walk_at "m_none") => `(tactic| fail "none")
local macro_rules | `(tactic| walk_at "m_none") => `(tactic| fail "none")
local macro_rules | `(tactic| walk_at "m_none") => `(tactic| fail "none")
local macro_rules | `(tactic| walk_at "m_none") => `(tactic| fail "none")
local macro_rules | `(tactic| walk_at "m_none") => `(tactic| fail "none")
local macro_rules | `(tactic| walk_at "m_none") => `(tactic| fail "none")
local macro_rules | `(tactic| walk_at "m_none") => `(tactic| fail "none")
local macro_rules | `(tactic| walk_at "m_none") => `(tactic| fail "none")
local macro_rules | `(tactic| walk_at "m_none") => `(tactic| fail "none")
local macro_rules | `(tactic| walk_at "m_none") => `(tactic| fail "none")
local macro_rules | `(tactic| walk_at "m_none") => `(tactic| fail "none")
local macro_rules | `(tactic| walk_at "m_none") => `(tactic| fail "none")
local macro_rules | `(tactic| walk_at "m_none") => `(tactic| fail "none")
local macro_rules | `(tactic| walk_at "m_none") => `(tactic| fail "none")
local macro_rules | `(tactic| walk_at "m_none") => `(tactic| fail "none")
local macro_rules | `(tactic| walk_at "m_none") => `(tactic| fail "none")
local macro_rules | `(tactic| walk_at "m_none") => `(tactic| fail "none")
local macro_rules | `(tactic| walk_at "m_none") => `(tactic| fail "none")
local macro_rules | `(tactic| walk_at "m_none") => `(tactic| fail "none")
local macro_rules | `(tactic| walk_at "m_none") => `(tactic| fail "none")
local macro_rules | `(tactic| walk_at "m_none") => `(tactic| fail "none")
local macro_rules | `(tactic| walk_at "m_none") => `(tactic| fail "none")
local macro_rules | `(tactic| walk_at "m_none") => `(tactic| fail "none")
local macro_rules | `(tactic| walk_at "m_none") => `(tactic| fail "none")
local macro_rules | `(tactic| walk_at "m_none") => `(tactic| fail "none")
local macro_rules | `(tactic| walk_at "m_none") => `(tactic| fail "none")
local macro_rules | `(tactic| walk_at "m_none") => `(tactic| fail "none")
local macro_rules | `(tactic| walk_at "m_none") => `(tactic| fail "none")
local macro_rules | `(tactic| walk_at "m_none") => `(tactic| fail "none")
local macro_rules | `(tactic| walk_at "m_none") => `(tactic| fail "none")
local macro_rules | `(tactic| walk_at "m_none") => `(tactic| fail "none")
local macro_rules | `(tactic| walk_at "m_none") => `(tactic| fail "none")
local macro_rules | `(tactic| walk_at "m_none") => `(tactic| fail "none")
local macro_rules | `(tactic| walk_at "m_none") => `(tactic| fail "none")
local macro_rules | `(tactic| walk_at "m_none") => `(tactic| fail "none")
local macro_rules | `(tactic| walk_at "m_none") => `(tactic| fail "none")
namespace Mine

theorem parts_ret {h₀ h' : Heap} {L r a : Addr} {tl : List (Addr × Obj)} {ws : List Value} {ps : List (List UInt8 × List UInt8)} {x y : List UInt8} {t u : Tok} {e2 e4 : Addr × Obj}
    (N : News h₀ L h' ((r, { cls := .type "list", data := .seq (ws ++ [Value.ref a]).toArray }) :: e2 :: (a, ({ cls := .type "tuple", data := .seq #[.bytes x.toArray t, .bytes y.toArray u] } : Obj)) :: e4 :: tl)) (h : TupsIn tl ws ps) (hc : ∀ p ∈ tl, p.2.cls = .type "tuple") :
    h'.get? r = some (listOf (ws ++ [Value.ref a]).toArray 0) ∧ h₀.get? r = none ∧ (∀ p ∈ (a, ({ cls := .type "tuple", data := .seq #[.bytes x.toArray t, .bytes y.toArray u] } : Obj)) :: tl, h'.get? p.1 = some p.2 ∧ h₀.get? p.1 = none ∧ p.1 ≠ r) ∧
      TupsIn ((a, ({ cls := .type "tuple", data := .seq #[.bytes x.toArray t, .bytes y.toArray u] } : Obj)) :: tl) (ws ++ [.ref a]) (ps ++ [(x, y)]) := by
  refine ⟨(N _ (.head _)).1, (N _ (.head _)).2.2, fun p hp => ?_, h.snoc⟩
  have h9 := N p (.tail _ (.tail _ ((List.mem_cons.mp hp).elim (fun e => e ▸ .head _) fun e => .tail _ (.tail _ e))))
  refine ⟨h9.1, h9.2.2, fun e => ?_⟩
  have hp2 : p.2.cls = .type "tuple" := (List.mem_cons.mp hp).elim (fun e => e ▸ rfl) (hc p)
  have h8 := (N _ (.head _)).1
  rw [← e, h9.1] at h8
  rw [Option.some.inj h8] at hp2
  exact absurd (show (Value.type "list") = .type "tuple" from hp2) (by decide)

/-- the lines of data, and how each ends -/
def lpL (x : List UInt8) : List (List UInt8 × List UInt8) :=
  match h : x.findIdx? (· == 10) with
  | none => [(x, [])]
  | some k => (if 0 < k ∧ x.getD (k - 1) 0 = 13 then (x.take (k - 1), [13, 10]) else (x.take k, [10])) :: lpL (x.drop (k + 1))
termination_by x.length
decreasing_by
  have := List.findIdx?_eq_some_iff_getElem.mp h
  obtain ⟨hk, _⟩ := this
  simp only [List.length_drop]; omega

theorem findB_cases (x : List UInt8) (i : Nat) : (findB x 10 i = -1 ∧ (x.drop i).findIdx? (· == 10) = none) ∨ ∃ k : Nat, findB x 10 i = i + k ∧ (x.drop i).findIdx? (· == 10) = some k ∧ i + k < x.length := by
  unfold findB
  rw [Int.toNat_natCast]
  cases h : (x.drop i).findIdx? (· == 10) with
  | none => exact .inl ⟨rfl, rfl⟩
  | some k =>
    obtain ⟨hk, _⟩ := List.findIdx?_eq_some_iff_getElem.mp h
    rw [List.length_drop] at hk
    exact .inr ⟨k, rfl, rfl, by omega⟩
theorem findB_bnd (x : List UInt8) (i : Nat) : findB x 10 i = -1 ∨ ((i : Int) ≤ findB x 10 i ∧ findB x 10 i < x.length) := by
  rcases findB_cases x i with ⟨h, _⟩ | ⟨k, h, _, h2⟩
  · exact .inl h
  · exact .inr (by omega)
theorem lpL_none {x : List UInt8} (h : x.findIdx? (· == 10) = none) : lpL x = [(x, [])] := by
  unfold lpL
  split
  · rfl
  · rename_i k h2; rw [h] at h2; cases h2
theorem lpL_some {x : List UInt8} {k : Nat} (h : x.findIdx? (· == 10) = some k) :
    lpL x = (if 0 < k ∧ x.getD (k - 1) 0 = 13 then (x.take (k - 1), [13, 10]) else (x.take k, [10])) :: lpL (x.drop (k + 1)) := by
  conv => lhs; unfold lpL
  split
  · rename_i h2; rw [h] at h2; cases h2
  · rename_i k' h2; rw [h] at h2; cases h2; rfl
theorem lpL_end (x : List UInt8) (i : Nat) (h : findB x 10 i < 0) : lpL (x.drop i) = [(x.drop i, [])] := by
  rcases findB_cases x i with ⟨_, h1⟩ | ⟨k, h1, _, _⟩
  · exact lpL_none h1
  · omega
theorem lpL_step (x : List UInt8) (i : Nat) (h : ¬ findB x 10 i < 0) :
    lpL (x.drop i) = (if (i : Int) < findB x 10 i ∧ x.getD (findB x 10 i - 1).toNat 0 = 13 then ((x.drop i).take ((findB x 10 i - 1).toNat - i), [13, 10]) else ((x.drop i).take ((findB x 10 i).toNat - i), [10])) :: lpL (x.drop (findB x 10 i + 1).toNat) := by
  rcases findB_cases x i with ⟨h1, _⟩ | ⟨k, h1, h2, h3⟩
  · omega
  · rw [lpL_some h2, h1, List.drop_drop]
    have e1 : ((i : Int) + k + 1).toNat = i + (k + 1) := by omega
    have e2 : ((i : Int) + k).toNat - i = k := by omega
    have e3 : ((i : Int) + k - 1).toNat - i = k - 1 := by omega
    rw [e1, e2, e3]
    have e4 : ((i : Int) < (i : Int) + k) = (0 < k) := propext (by omega)
    simp only [e4]
    by_cases hk : 0 < k
    · have e5 : (x.drop i).getD (k - 1) 0 = x.getD ((i : Int) + k - 1).toNat 0 := by
        rw [List.getD_eq_getElem?_getD, List.getD_eq_getElem?_getD, List.getElem?_drop]
        congr 2
        omega
      rw [e5]
    · have : ∀ (p : Prop), (0 < k ∧ p) = False := fun p => propext ⟨fun h => hk h.1, False.elim⟩
      simp only [this]
theorem lpL_len (x : List UInt8) : ∀ (n i : Nat), x.length - i = n → (lpL (x.drop i)).length ≤ n + 1 := by
  intro n
  induction n using Nat.strongRecOn with
  | _ n ih =>
    intro i hn
    rcases findB_cases x i with ⟨h1, h2⟩ | ⟨k, h1, h2, h3⟩
    · rw [lpL_none h2]; simp
    · rw [lpL_some h2, List.drop_drop, List.length_cons]
      have := ih (x.length - (i + (k + 1))) (by omega) (i + (k + 1)) rfl
      omega

set_option maxRecDepth 100000 in
set_option maxHeartbeats 4000000 in
theorem parts_spec : ∀ {w : World} {dp un : Nat} {fr : Option (List Env)} {gd : Option (List Code)} {s : Shared} {lo : List Str} {mean : ExcName → Option Value} {mg mb : Str → Option Value} {R : Result → Shared → Prop} {x : List UInt8} {t : Tok}
    (X : (Mine.hd.heap_39 w.params).In s.heap) (T : Top Mine.hd.view_39 lo mean mg mb s.heap) (hroom : dp < 480) (hx : x.length ≤ 5000)
    (ret : ∀ h' tk r ws n tl, Kept s.heap h' → h'.get? r = some (listOf ws.toArray n) → s.heap.get? r = none → (∀ p ∈ tl, h'.get? p.1 = some p.2 ∧ s.heap.get? p.1 = none ∧ p.1 ≠ r) → TupsIn tl ws (lpL x) → R (.ok (.ret (.ref r))) { s with heap := h', toks := tk }),
    codeAny (model PySem.Challenge.rw_or0024_01.row.prog w) (Ar dp un fr gd) (.call (.ref 49) ⟨[.bytes x.toArray t], []⟩) R s := by
  w_top off
  k_fill
  intro w dp un fr gd s lo mean mg mb R x t X T hroom hx ret
  (k_dflt (refine' Mine.enter (binds := [(Str.ofString "data", .bytes x.toArray t)]) ?kX ?kT ?k8 ?k6 ?k7 ?k9 ?kB ?_ ?c2 ?c3 ?c4 ?c5; (case kX => assumption); (case kT => assumption); (case k6 => k_is); (case k7 => k_is); (case k8 => (show _ < 1000; omega)); (case k9 => exact BindsTo.of_eq rfl); (case c5 => decide); (case kB => exact locs rfl); (case c2 => exact rfl); (case c3 => exact rfl); (case c4 => exact rfl); k_whole; intro L h₁ F N; (try dsimp only); (try k_fold)))
  k_with_none
  k_with "MYWHILE" =>
    rename Fr _ _ _ _ => lF'
    rename News _ _ _ _ => lN'
    rename_i lA hA1 hA2 hA3 hA4
    with_unfolding_all refine' ksw_while (σ := List Value × List (Addr × Obj) × List (List UInt8 × List UInt8) × Nat × Nat × Tok) (fun c => (lA, listOf c.1.toArray c.2.2.2.1) :: c.2.1) (fun c => [(Str.ofString "begin", .int c.2.2.2.2.1 c.2.2.2.2.2)]) (fun _ => True) [Str.ofString "at"] (fun c => TupsIn c.2.1 c.1 c.2.2.1 ∧ c.2.2.1 ++ lpL (x.drop c.2.2.2.2.1) = lpL x ∧ c.2.2.2.2.1 ≤ x.length ∧ OwnOff c.2.1 [lA] ∧ (∀ p ∈ c.2.1, p.2.cls = .type "tuple")) (fun c => x.length - c.2.2.2.2.1) ([], [], [], 0, 0, _) lF' lN' trivial ?k3 ?k4 ?kt
    case k3 => kst_all
    case k4 => exact ⟨.nil, rfl, Nat.zero_le _, (fun _ hp => nomatch hp), (fun _ hp => nomatch hp)⟩
    all_goals clear lF' lN'
    case' kt =>
      intro c u9 h tk hfact hP F' N'
      obtain ⟨ws, tl, ps, n, i, t2⟩ := c
      dsimp only [List.map, kstB] at F' N' hP
      obtain ⟨hI, hE, hi, hoff, hcls⟩ := hP
      have hbl := hI.length
      have hfb := findB_bnd x i
      have hpl : ps.length ≤ 5001 := by
        have h1 := lpL_len x _ 0 rfl
        rw [List.drop_zero, ← hE, List.length_append] at h1
        omega
    all_goals (try k_fold)
  k_steps
  all_goals by_cases hneg : findB x 10 i < 0
  all_goals try (exfalso; omega)
  all_goals (
    rename News _ _ _ _ => N9
    rename Fr _ _ _ _ => F9
    simp only [Int.toNat_natCast] at *
    try simp only [List.push_toArray] at N9)
  · rw [lpL_end x i hneg] at hE
    rw [← hE] at ret
    have h9 := parts_ret N9 hI hcls
    exact ret _ _ _ _ _ _ F9.keep h9.1 h9.2.1 h9.2.2.1 h9.2.2.2
  all_goals (
    rw [lpL_step x i hneg] at hE
    have h13 : x.getD (findB x 10 i - 1).toNat 0 = 13 ↔ ((x.getD (findB x 10 i - 1).toNat 0).toNat : Int) = 13 := by
      rw [← UInt8.toNat_inj]
      show (x.getD (findB x 10 i - 1).toNat 0).toNat = 13 ↔ _
      omega
    by_cases hc : (i : Int) < findB x 10 i ∧ x.getD (findB x 10 i - 1).toNat 0 = 13
    · rw [if_pos hc] at hE
      rw [h13] at hc
      first
        | (exfalso; omega)
        | (refine' ksw_end ⟨_, _ :: tl, ps ++ [(_, _)], _, (findB x 10 i + 1).toNat, _⟩ F9 N9 ?hn trivial ?hk ?hr ?hp ?hm
           case hn => kst_in
           case hk => (intro q hq; rw [List.mem_singleton.mp hq]; dsimp only; rw [Int.toNat_of_nonneg (by omega)]; rfl)
           case hr => ksw_same
           case hp =>
             refine ⟨hI.snoc, by rw [List.append_assoc]; exact hE, by dsimp only; omega, ?_, ?_⟩
             · intro p hp b hb
               rcases List.mem_cons.mp hp with rfl | hp
               · rw [List.mem_singleton.mp hb]; refine neN ?_; (try dsimp only); omega
               · exact hoff p hp b hb
             · intro p hp
               rcases List.mem_cons.mp hp with rfl | hp
               · rfl
               · exact hcls p hp
           case hm => (dsimp only; omega))
    · rw [if_neg hc] at hE
      rw [h13] at hc
      first
        | (exfalso; omega)
        | (refine' ksw_end ⟨_, _ :: tl, ps ++ [(_, _)], _, (findB x 10 i + 1).toNat, _⟩ F9 N9 ?hn trivial ?hk ?hr ?hp ?hm
           case hn => kst_in
           case hk => (intro q hq; rw [List.mem_singleton.mp hq]; dsimp only; rw [Int.toNat_of_nonneg (by omega)]; rfl)
           case hr => ksw_same
           case hp =>
             refine ⟨hI.snoc, by rw [List.append_assoc]; exact hE, by dsimp only; omega, ?_, ?_⟩
             · intro p hp b hb
               rcases List.mem_cons.mp hp with rfl | hp
               · rw [List.mem_singleton.mp hb]; refine neN ?_; (try dsimp only); omega
               · exact hoff p hp b hb
             · intro p hp
               rcases List.mem_cons.mp hp with rfl | hp
               · rfl
               · exact hcls p hp
           case hm => (dsimp only; omega)))
end Mine

end PartParts
section PartUnq
open PySem PySem.W PySem.Calls PyProof.Rows
set_option linter.unusedVariables false
local macro_rules | `(tactic| walk_at "m_size") => `(tactic| first | omega | (simp only [List.length_append, List.length_cons, List.length_nil, List.length_take, List.length_drop]; omega))
local macro_rules | `(tactic| walk_at "call builtin:len") => `(tactic| (k_here; (with_reducible show wpAny _ _ (call (Value.builtin "len") [Value.bytes (List.toArray _) _]) _ _ _); (refine Mine.len_L (by walk_at "m_size") ?_); intro _ _))
local macro_rules | `(tactic| walk_at "subscriptTail") => `(tactic| (k_here; (with_reducible show wpAny _ _ (subscriptTail _ _ (Value.bytes (List.toArray _) _) (Value.int _ _)) _ _ _); (refine Mine.item_L (by walk_at "m_size") (by walk_at "m_size") (by walk_at "m_size") ?_); intro _ _))
local macro_rules | `(tactic| walk_at "binaryOp Add bytes bytes") => `(tactic| (k_here; (with_reducible show wpAny _ _ (binaryOp Operator.Add (Value.bytes (List.toArray _) _) (Value.bytes (List.toArray _) _)) _ _ _); (refine Mine.add_L (by walk_at "m_size") ?_); intro _ _))
local macro_rules | `(tactic| walk_at "compareOp Eq bytes bytes") => `(tactic| (k_here; (with_reducible show wpAny _ _ (compareOp CmpOp.Eq (Value.bytes (List.toArray _) _) (Value.bytes (List.toArray _) _)) _ _ _); (refine Mine.eq_L ?_)))
local macro_rules | `(tactic| walk_at "compareOp NotEq bytes bytes") => `(tactic| (k_here; (with_reducible show wpAny _ _ (compareOp CmpOp.NotEq (Value.bytes (List.toArray _) _) (Value.bytes (List.toArray _) _)) _ _ _); (refine Mine.ne_L ?_)))
-- what a contract asks at a call: the written part, the top, the room
local macro_rules | `(tactic| walk_at "m_cx") => `(tactic| first | assumption | exact Frag.In.keeps (by assumption) (Fr.keep (by assumption)) | exact Top.keeps (by assumption) (Fr.keep (by assumption)))
local macro_rules | `(tactic| walk_at "m_back") => `(tactic| (intro h9 tk9 t9 hk9; (with_reducible rename Fr _ _ _ _ => F8); (with_reducible rename News _ _ _ _ => N8); (have F9 := Fr.keeps F8 hk9); (have N9 := News.grown N8 hk9); clear F8 N8 hk9; (try dsimp only); (try k_fold)))
local macro_rules | `(tactic| walk_at "m_lenq") => `(tactic| first | exact Mine.BsAre.length (by assumption) | exact IntsAre.length (by assumption))
local macro_rules | `(tactic| walk_at "call builtin:len") => `(tactic| (k_here; (with_reducible show wpAny _ _ (call (Value.builtin "len") [Value.ref _]) _ _ _); (with_unfolding_all refine' Mine.len_V ?k1 ?k2 ?k3 ?_; (case k1 => is_list); (case k2 => walk_at "m_lenq"); (case k3 => walk_at "m_size"); k_whole); intro _ _))
local macro_rules | `(tactic| walk_at "subscriptTail") => `(tactic| (k_here; (with_reducible show wpAny _ _ (subscriptTail _ _ (Value.ref _) (Value.int _ _)) _ _ _); (with_unfolding_all refine' Mine.item_B ?k1 ?k2 ?k3 ?k4 ?k5 ?k6 ?_ ?k7; (case k1 => is_list); (case k2 => assumption); (case k3 => assumption); (case k4 => walk_at "m_size"); (case k5 => walk_at "m_size"); (case k6 => walk_at "m_size"); (case k7 => with_unfolding_all rfl); k_whole); intro _ hSmall9))
local macro_rules | `(tactic| walk_at "pyIter ref") => `(tactic| k_extra "MYLOOP")
local macro_rules | `(tactic| walk_at "InvEndN") => `(tactic| ((with_reducible show InvEndN _ _ (Mine.MJ _ _ _ _ _ _ _) _ _ _ _); refine Mine.hold_of ?_))
local macro_rules | `(tactic| walk_at "getMethod bytes") => `(tactic| (k_here; first | (with_reducible refine Mine.m_find ?_) | (with_reducible refine Mine.m_rstrip ?_) | (with_reducible refine Mine.m_join ?_)))
local macro_rules | `(tactic| walk_at "call builtin:bytes.join") => `(tactic| (k_here; (with_unfolding_all refine' Mine.join_L ?k1 ?k2 ?k3 ?_; (case k1 => is_list); (case k2 => assumption); (case k3 => first | assumption | walk_at "m_size"); k_whole); intro _ _))
local macro_rules | `(tactic| walk_at "call builtin:bytes.find") => `(tactic| (k_here; (with_reducible show wpAny _ _ (call (Value.builtin "bytes.find") [Value.bytes (List.toArray _) _, Value.bytes (List.toArray [_]) _, Value.int _ _]) _ _ _); (refine Mine.find_L (by walk_at "m_size") (by walk_at "m_size") ?_); intro _ _))
local macro_rules | `(tactic| walk_at "call builtin:bytes.rstrip") => `(tactic| (k_here; (with_reducible show wpAny _ _ (call (Value.builtin "bytes.rstrip") [Value.bytes (List.toArray _) _, Value.bytes (List.toArray _) _]) _ _ _); (refine Mine.rstrip_L (by walk_at "m_size") ?_); intro _ _ hStrip9))
local macro_rules | `(tactic| walk_at "m_pick") => `(tactic| first | exact Mine.pickL_last _ | exact Mine.pickL_init _ | exact Mine.pickL_to _ (by walk_at "m_size") | exact Mine.pickL_from _ (by walk_at "m_size") | exact Mine.pickL_of _ (by walk_at "m_size") (by walk_at "m_size"))
local macro_rules | `(tactic| walk_at "subscriptTail") => `(tactic| (k_here; (with_reducible show wpAny _ _ (subscriptTail _ (Expr.Slice _ _ none _) (Value.bytes (List.toArray _) _) (Value.ref _)) _ _ _); (with_reducible rename Fr _ _ _ _ => F'); (with_reducible rename News _ _ _ _ => N'); (refine Mine.slice_L (s := ⟨_, _, _, _, _⟩) F' N' (by constructor) (by constructor) (by walk_at "m_size") (by walk_at "m_pick") ?_); intro _ _ _ _ _))
local macro_rules | `(tactic| walk_at "exec For Name") => `(tactic| (k_here; (rename Fr _ _ _ _ => lF'); (with_unfolding_all refine' For_invVF lF' ?k1 ?k2 ?_; (case k1 => exact rfl); (case k2 => exact rfl); k_whole)))
local macro_rules | `(tactic| walk_at "exec While") => `(tactic| k_extra "MYWHILE")
local macro_rules | `(tactic| walk_at "exec While Compare cons nil") => `(tactic| k_extra "MYWHILE")
local macro_rules | `(tactic| walk_at "exec While Constant cons nil") => `(tactic| k_extra "MYWHILE")
local macro_rules | `(tactic| walk_at "KswEnd") => `(tactic| ((with_reducible show KswEnd _ _ _ _ _ _ _ _ _ _ _ _); refine Mine.hold_of ?_))
local macro_rules | `(tactic| walk_at "m_backL") => `(tactic| (intro h9 tk9 t9 hk9 hl9; (with_reducible rename Fr _ _ _ _ => F8); (with_reducible rename News _ _ _ _ => N8); (have F9 := Fr.keeps F8 hk9); (have N9 := News.grown N8 hk9); clear F8 N8 hk9; (try dsimp only); (try k_fold)))
local macro_rules | `(tactic| walk_at "call ref") => `(tactic| k_extra "MYCALL")
local macro_rules | `(tactic| walk_at "exec For Tuple Call cons nil") => `(tactic| (k_here; (rename Fr _ _ _ _ => lF'); (with_unfolding_all refine' For_invTF lF' ?_ ?k; (case k => (intro _; rfl)))))
local macro_rules | `(tactic| walk_at "execs cons Assign cons") => `(tactic| (with_reducible refine wpAny_execs_cons ?_))
local macro_rules | `(tactic| walk_at "execs cons Assign nil") => `(tactic| (with_reducible refine wpAny_execs_cons ?_))
local macro_rules | `(tactic| walk_at "execs cons Expr cons") => `(tactic| (with_reducible refine wpAny_execs_cons ?_))
local macro_rules | `(tactic| walk_at "execs cons Expr nil") => `(tactic| (with_reducible refine wpAny_execs_cons ?_))
local macro_rules | `(tactic| walk_at "execs cons If cons") => `(tactic| (with_reducible refine wpAny_execs_cons ?_))
local macro_rules | `(tactic| walk_at "execs cons If nil") => `(tactic| (with_reducible refine wpAny_execs_cons ?_))
local macro_rules | `(tactic| walk_at "execs cons For cons") => `(tactic| (with_reducible refine wpAny_execs_cons ?_))
local macro_rules | `(tactic| walk_at "execs cons For nil") => `(tactic| (with_reducible refine wpAny_execs_cons ?_))
local macro_rules | `(tactic| walk_at "execs cons While cons") => `(tactic| (with_reducible refine wpAny_execs_cons ?_))
local macro_rules | `(tactic| walk_at "execs cons While nil") => `(tactic| (with_reducible refine wpAny_execs_cons ?_))
local macro_rules | `(tactic| walk_at "execs cons Return cons") => `(tactic| (with_reducible refine wpAny_execs_cons ?_))
local macro_rules | `(tactic| walk_at "execs cons Return nil") => `(tactic| (with_reducible refine wpAny_execs_cons ?_))
local macro_rules | `(tactic| walk_at "InvEndN") => `(tactic| ((with_reducible show InvEndN _ _ (Mine.MK _ _ _ _ _ _) _ _ _ _); refine Mine.hold_of ?_))
local macro_rules | `(tactic| walk_at "call ref") => `(tactic| (k_here; (with_unfolding_all refine' wpAny_call (Mine.qat_spec ?k1 ?k2 ?k3 ?k4 ?k5 ?_); (case k1 => walk_at "m_cx"); (case k2 => walk_at "m_cx"); (case k3 => omega); (case k4 => walk_at "m_size"); (case k5 => walk_at "m_size"); k_whole); walk_at "m_back"))
local macro_rules | `(tactic| walk_at "m_none") => `(tactic| fail "none")
local macro_rules | `(tactic| walk_at "m_none") => `(tactic| fail "none")
local macro_rules | `(tactic| walk_at "m_none") => `(tactic| fail "none")
local macro_rules | `(tactic| walk_at "m_none") => `(tactic| fail "none")
local macro_rules | `(tactic| walk_at "m_none") => `(tactic| fail "none")
local macro_rules | `(tactic| walk_at "m_none") => `(tactic| fail "none")
local macro_rules | `(tactic| walk_at "m_none") => `(tactic| fail "none")
local macro_rules | `(tactic| walk_at "m_none") => `(tactic| fail "none")
local macro_rules | `(tactic| walk_at "m_none") => `(tactic| fail "none")
local macro_rules | `(tactic| walk_at "m_none") => `(tactic| fail "none")
local macro_rules | `(tactic| walk_at "m_none") => `(tactic| fail "none")
local macro_rules | `(tactic| walk_at "m_none") => `(tactic| fail "none")
local macro_rules | `(tactic| walk_at "m_none") => `(tactic| fail "none")
local macro_rules | `(tactic| walk_at "m_none") => `(tactic| fail "none")
local macro_rules | `(tactic| walk_at "m_none") => `(tactic| fail "none")
local macro_rules | `(tactic| walk_at "m_none") => `(tactic| fail "none")
local macro_rules | `(tactic| walk_at "m_none") => `(tactic| fail "none")
local macro_rules | `(tactic| walk_at "m_none") => `(tactic| fail "none")
local macro_rules | `(tactic| walk_at "m_none") => `(tactic| fail "none")
local macro_rules | `(tactic| walk_at "m_none") => `(tactic| fail "none")
local macro_rules | `(tactic| walk_at "m_none") => `(tactic| fail "none")
local macro_rules | `(tactic| walk_at "m_none") => `(tactic| fail "none")
local macro_rules | `(tactic| walk_at "m_none") => `(tactic| fail "none")
local macro_rules | `(tactic| walk_at "m_none") => `(tactic| fail "none")
local macro_rules | `(tactic| walk_at "m_none") => `(tactic| fail "none")
local macro_rules | `(tactic| walk_at "m_none") => `(tactic| fail "none")
local macro_rules | `(tactic| walk_at "m_none") => `(tactic| fail "none")
local macro_rules | `(tactic| walk_at "m_none") => `(tactic| fail "none")
local macro_rules | `(tactic| walk_at "m_none") => `(tactic| fail "none")
local macro_rules | `(tactic| walk_at "m_none") => `(tactic| fail "none")
local macro_rules | `(tactic| walk_at "m_none") => `(tactic| fail "none")
local macro_rules | `(tactic| walk_at "m_none") => `(tactic| fail "none")
local macro_rules | `(tactic| walk_at "m_none") => `(tactic| fail "none")
local macro_rules | `(tactic| walk_at "m_none") => `(tactic| fail "none")
local macro_rules | `(tactic| walk_at "m_none") => `(tactic| fail "none")
local macro_rules | `(tactic| walk_at "m_none") => `(tactic| fail "none")
local macro_rules | `(tactic| walk_at "m_none") => `(tactic| fail "none")
local macro_rules | `(tactic| walk_at "m_none") => `(tactic| fail "none")
local macro_rules | `(tactic| walk_at "m_none") => `(tactic| fail "none")
local macro_rules | `(tactic| walk_at "m_none") => `(tactic| fail "none")
local macro_rules | `(tactic| walk_at "m_none") => `(tactic| fail "none")
local macro_rules | `(tactic| walk_at "m_none") => `(tactic| fail "none")
namespace Mine

def unqL : List UInt8 → List Int
  | [] => []
  | c :: r => if c = 61 ∧ 0 ≤ quotedAt (c :: r) 0 then quotedAt (c :: r) 0 :: unqL (r.drop 2) else (c.toNat : Int) :: unqL r
termination_by x => x.length
decreasing_by all_goals (simp only [List.length_drop, List.length_cons]; omega)

theorem quotedAt_drop (x : List UInt8) (i : Nat) (h : i ≤ x.length) : quotedAt x i = quotedAt (x.drop i) 0 := by
  unfold quotedAt
  have e1 : ((i : Int) + 1).toNat = i + 1 := by omega
  have e2 : ((i : Int) + 2).toNat = i + 2 := by omega
  have e3 : ∀ k, (x.drop i).getD k 0 = x.getD (i + k) 0 := by
    intro k
    rw [List.getD_eq_getElem?_getD, List.getD_eq_getElem?_getD, List.getElem?_drop]
  have e4 : ((x.drop i).length : Int) = x.length - i := by rw [List.length_drop]; omega
  rw [e1, e2, e4]
  have e5 : ((0 : Int) + 1).toNat = 1 := rfl
  have e6 : ((0 : Int) + 2).toNat = 2 := rfl
  rw [e5, e6, e3, e3]
  have e7 : ((i : Int) + 2 ≥ x.length) = ((0 : Int) + 2 ≥ (x.length : Int) - i) := propext (by constructor <;> intro _ <;> omega)
  simp only [e7]
theorem unqL_step (x : List UInt8) (i : Nat) (h : i < x.length) :
    unqL (x.drop i) = if x.getD i 0 = 61 ∧ 0 ≤ quotedAt x i then quotedAt x i :: unqL (x.drop (i + 3)) else ((x.getD i 0).toNat : Int) :: unqL (x.drop (i + 1)) := by
  have hq := quotedAt_drop x i (Nat.le_of_lt h)
  have e : x.getD i 0 = x[i] := by rw [List.getD_eq_getElem?_getD, List.getElem?_eq_getElem h]; rfl
  rw [hq, e]
  rw [List.drop_eq_getElem_cons h]
  conv => lhs; unfold unqL
  rw [List.drop_drop]
theorem quotedAt_le (x : List UInt8) (i : Int) (h : 0 ≤ quotedAt x i) : i + 2 < x.length ∧ quotedAt x i < 256 := by
  unfold quotedAt at h ⊢
  have hw : ∀ c : Int, hexWorth c ≤ 15 := by intro c; unfold hexWorth; (repeat' split) <;> omega
  split at h
  · omega
  · rename_i h1
    rw [if_neg h1]
    have a1 := hw (x.getD (i + 1).toNat 0).toNat
    have a2 := hw (x.getD (i + 2).toNat 0).toNat
    split at h
    · rename_i h2
      rw [if_pos h2]
      omega
    · omega
theorem unqL_in (x : List UInt8) : ∀ (n i : Nat), x.length - i = n → ∀ c ∈ unqL (x.drop i), 0 ≤ c ∧ c < 256 := by
  intro n
  induction n using Nat.strongRecOn with
  | _ n ih =>
    intro i hn c hc
    by_cases h : i < x.length
    · rw [unqL_step x i h] at hc
      split at hc
      · rename_i h1
        rcases List.mem_cons.mp hc with rfl | hc
        · exact ⟨h1.2, (quotedAt_le x i h1.2).2⟩
        · exact ih _ (by omega) (i + 3) rfl c hc
      · rcases List.mem_cons.mp hc with rfl | hc
        · have := (x.getD i 0).toNat_lt
          omega
        · exact ih _ (by omega) (i + 1) rfl c hc
    · rw [List.drop_of_length_le (by omega)] at hc
      unfold unqL at hc
      cases hc
theorem unqL_len (x : List UInt8) : ∀ (n i : Nat), x.length - i = n → (unqL (x.drop i)).length ≤ n := by
  intro n
  induction n using Nat.strongRecOn with
  | _ n ih =>
    intro i hn
    by_cases h : i < x.length
    · rw [unqL_step x i h]
      split
      · have := ih (x.length - (i + 3)) (by omega) (i + 3) rfl
        simp only [List.length_cons]; omega
      · have := ih (x.length - (i + 1)) (by omega) (i + 1) rfl
        simp only [List.length_cons]; omega
    · rw [List.drop_of_length_le (by omega)]
      simp [unqL]
def unqB (x : List UInt8) : List UInt8 := (unqL x).map fun n => n.toNat.toUInt8
theorem unqB_len (x : List UInt8) : (unqB x).length ≤ x.length := by
  have := unqL_len x _ 0 rfl
  unfold unqB
  simpa using this

set_option maxRecDepth 100000 in
set_option maxHeartbeats 4000000 in
theorem unq_spec : ∀ {w : World} {dp un : Nat} {fr : Option (List Env)} {gd : Option (List Code)} {s : Shared} {lo : List Str} {mean : ExcName → Option Value} {mg mb : Str → Option Value} {R : Result → Shared → Prop} {x : List UInt8} {t : Tok}
    (X : (Mine.hd.heap_39 w.params).In s.heap) (T : Top Mine.hd.view_39 lo mean mg mb s.heap) (hroom : dp < 480) (hx : x.length ≤ 5000)
    (ret : ∀ h' tk t, Kept s.heap h' → (unqB x).length ≤ x.length → R (.ok (.ret (.bytes (unqB x).toArray t))) { s with heap := h', toks := tk }),
    codeAny (model PySem.Challenge.rw_or0024_01.row.prog w) (Ar dp un fr gd) (.call (.ref 56) ⟨[.bytes x.toArray t], []⟩) R s := by
  w_top off
  k_fill
  intro w dp un fr gd s lo mean mg mb R x t X T hroom hx ret
  (k_dflt (refine' Mine.enter (binds := [(Str.ofString "line", .bytes x.toArray t)]) ?kX ?kT ?k8 ?k6 ?k7 ?k9 ?kB ?_ ?c2 ?c3 ?c4 ?c5; (case kX => assumption); (case kT => assumption); (case k6 => k_is); (case k7 => k_is); (case k8 => (show _ < 1000; omega)); (case k9 => exact BindsTo.of_eq rfl); (case c5 => decide); (case kB => exact locs rfl); (case c2 => exact rfl); (case c3 => exact rfl); (case c4 => exact rfl); k_whole; intro L h₁ F N; (try dsimp only); (try k_fold)))
  k_with_none
  k_with "MYWHILE" =>
    rename Fr _ _ _ _ => lF'
    rename News _ _ _ _ => lN'
    with_unfolding_all refine' ksw_while (σ := List Value × List Int × Nat × Nat × Tok) (fun c => [(_, listOf c.1.toArray c.2.2.1)]) (fun c => [(Str.ofString "at", .int c.2.2.2.1 c.2.2.2.2)]) (fun _ => True) [Str.ofString "code"] (fun c => IntsAre c.1 c.2.1 ∧ c.2.1 ++ unqL (x.drop c.2.2.2.1) = unqL x ∧ c.2.2.2.1 ≤ x.length ∧ c.2.1.length ≤ c.2.2.2.1) (fun c => x.length - c.2.2.2.1) ([], [], 0, 0, _) lF' lN' trivial ?k3 ?k4 ?kt
    case k3 => kst_all
    case k4 => exact ⟨.nil, rfl, Nat.zero_le _, Nat.le_refl _⟩
    all_goals clear lF' lN'
    case' kt =>
      intro c u9 h tk hfact hP F' N'
      obtain ⟨ws, cs, n, i, t2⟩ := c
      dsimp only [List.map, kstB] at F' N' hP
      obtain ⟨hI, hE, hi, hcl⟩ := hP
      have hbl := hI.length
      have hin := unqL_in x _ 0 rfl
      have hcs : KBa.In cs := fun c hc => hin c (by rw [List.drop_zero, ← hE]; exact List.mem_append_left _ hc)
    all_goals (try k_fold)
  k_steps
  all_goals first
    | (rename Fr _ _ _ _ => F9
       have he : i = x.length := by omega
       subst he
       have hu : cs = unqL x := by
         rw [List.drop_length] at hE
         simpa [unqL] using hE
       have e : byteArr cs = (unqB x).toArray := by rw [hu]; rfl
       rw [e]
       exact ret _ _ _ F9.keep (unqB_len _))
    | (rename News _ _ _ _ => N9
       rename Fr _ _ _ _ => F9
       simp only [Int.toNat_natCast] at *
       try simp only [List.push_toArray] at N9
       have hlt : i < x.length := by omega
       rw [unqL_step x i hlt] at hE
       have h61 : x.getD i 0 = 61 ↔ ((x.getD i 0).toNat : Int) = 61 := by
         rw [← UInt8.toNat_inj]
         show (x.getD i 0).toNat = 61 ↔ _
         omega
       have hq3 := quotedAt_le x i
       by_cases hc : x.getD i 0 = 61 ∧ 0 ≤ quotedAt x i
       · rw [if_pos hc] at hE
         have hq4 := hq3 hc.2
         have hq5 := hc.2
         have hq6 := h61.mp hc.1
         first
           | (exfalso; omega)
           | (refine' ksw_end ⟨_, cs ++ [quotedAt x i], _, i + 3, _⟩ F9 N9 ?hn trivial ?hk ?hr ?hp ?hm
              case hn => kst_in
              case hk => kst_all
              case hr => ksw_same
              case hp => exact ⟨hI.append (.cons _ _ .nil), by rw [List.append_assoc]; exact hE, by dsimp only; omega, by simp only [List.length_append, List.length_cons, List.length_nil]; omega⟩
              case hm => (dsimp only; omega))
       · rw [if_neg hc] at hE
         rw [h61] at hc
         first
           | (exfalso; omega)
           | (refine' ksw_end ⟨_, cs ++ [((x.getD i 0).toNat : Int)], _, i + 1, _⟩ F9 N9 ?hn trivial ?hk ?hr ?hp ?hm
              case hn => kst_in
              case hk => kst_all
              case hr => ksw_same
              case hp => exact ⟨hI.append (.cons _ _ .nil), by rw [List.append_assoc]; exact hE, by dsimp only; omega, by simp only [List.length_append, List.length_cons, List.length_nil]; omega⟩
              case hm => (dsimp only; omega)))
end Mine

end PartUnq
section PartQDec
open PySem PySem.W PySem.Calls PyProof.Rows
set_option linter.unusedVariables false
local macro_rules | `(tactic| walk_at "m_size") => `(tactic| first | omega | (simp only [List.length_append, List.length_cons, List.length_nil, List.length_take, List.length_drop]; omega))
local macro_rules | `(tactic| walk_at "call builtin:len") => `(tactic| (k_here; (with_reducible show wpAny _ _ (call (Value.builtin "len") [Value.bytes (List.toArray _) _]) _ _ _); (refine Mine.len_L (by walk_at "m_size") ?_); intro _ _))
local macro_rules | `(tactic| walk_at "subscriptTail") => `(tactic| (k_here; (with_reducible show wpAny _ _ (subscriptTail _ _ (Value.bytes (List.toArray _) _) (Value.int _ _)) _ _ _); (refine Mine.item_L (by walk_at "m_size") (by walk_at "m_size") (by walk_at "m_size") ?_); intro _ _))
local macro_rules | `(tactic| walk_at "binaryOp Add bytes bytes") => `(tactic| (k_here; (with_reducible show wpAny _ _ (binaryOp Operator.Add (Value.bytes (List.toArray _) _) (Value.bytes (List.toArray _) _)) _ _ _); (refine Mine.add_L (by walk_at "m_size") ?_); intro _ _))
local macro_rules | `(tactic| walk_at "compareOp Eq bytes bytes") => `(tactic| (k_here; (with_reducible show wpAny _ _ (compareOp CmpOp.Eq (Value.bytes (List.toArray _) _) (Value.bytes (List.toArray _) _)) _ _ _); (refine Mine.eq_L ?_)))
local macro_rules | `(tactic| walk_at "compareOp NotEq bytes bytes") => `(tactic| (k_here; (with_reducible show wpAny _ _ (compareOp CmpOp.NotEq (Value.bytes (List.toArray _) _) (Value.bytes (List.toArray _) _)) _ _ _); (refine Mine.ne_L ?_)))
-- what a contract asks at a call: the written part, the top, the room
local macro_rules | `(tactic| walk_at "m_cx") => `(tactic| first | assumption | exact Frag.In.keeps (by assumption) (Fr.keep (by assumption)) | exact Top.keeps (by assumption) (Fr.keep (by assumption)))
local macro_rules | `(tactic| walk_at "m_back") => `(tactic| (intro h9 tk9 t9 hk9; (with_reducible rename Fr _ _ _ _ => F8); (with_reducible rename News _ _ _ _ => N8); (have F9 := Fr.keeps F8 hk9); (have N9 := News.grown N8 hk9); clear F8 N8 hk9; (try dsimp only); (try k_fold)))
local macro_rules | `(tactic| walk_at "m_lenq") => `(tactic| first | exact Mine.BsAre.length (by assumption) | exact IntsAre.length (by assumption))
local macro_rules | `(tactic| walk_at "call builtin:len") => `(tactic| (k_here; (with_reducible show wpAny _ _ (call (Value.builtin "len") [Value.ref _]) _ _ _); (with_unfolding_all refine' Mine.len_V ?k1 ?k2 ?k3 ?_; (case k1 => is_list); (case k2 => walk_at "m_lenq"); (case k3 => walk_at "m_size"); k_whole); intro _ _))
local macro_rules | `(tactic| walk_at "subscriptTail") => `(tactic| (k_here; (with_reducible show wpAny _ _ (subscriptTail _ _ (Value.ref _) (Value.int _ _)) _ _ _); (with_unfolding_all refine' Mine.item_B ?k1 ?k2 ?k3 ?k4 ?k5 ?k6 ?_ ?k7; (case k1 => is_list); (case k2 => assumption); (case k3 => assumption); (case k4 => walk_at "m_size"); (case k5 => walk_at "m_size"); (case k6 => walk_at "m_size"); (case k7 => with_unfolding_all rfl); k_whole); intro _ hSmall9))
local macro_rules | `(tactic| walk_at "pyIter ref") => `(tactic| k_extra "MYLOOP")
local macro_rules | `(tactic| walk_at "InvEndN") => `(tactic| ((with_reducible show InvEndN _ _ (Mine.MJ _ _ _ _ _ _ _) _ _ _ _); refine Mine.hold_of ?_))
local macro_rules | `(tactic| walk_at "getMethod bytes") => `(tactic| (k_here; first | (with_reducible refine Mine.m_find ?_) | (with_reducible refine Mine.m_rstrip ?_) | (with_reducible refine Mine.m_join ?_)))
local macro_rules | `(tactic| walk_at "call builtin:bytes.join") => `(tactic| (k_here; (with_unfolding_all refine' Mine.join_L ?k1 ?k2 ?k3 ?_; (case k1 => is_list); (case k2 => assumption); (case k3 => first | assumption | walk_at "m_size"); k_whole); intro _ _))
local macro_rules | `(tactic| walk_at "call builtin:bytes.find") => `(tactic| (k_here; (with_reducible show wpAny _ _ (call (Value.builtin "bytes.find") [Value.bytes (List.toArray _) _, Value.bytes (List.toArray [_]) _, Value.int _ _]) _ _ _); (refine Mine.find_L (by walk_at "m_size") (by walk_at "m_size") ?_); intro _ _))
local macro_rules | `(tactic| walk_at "call builtin:bytes.rstrip") => `(tactic| (k_here; (with_reducible show wpAny _ _ (call (Value.builtin "bytes.rstrip") [Value.bytes (List.toArray _) _, Value.bytes (List.toArray _) _]) _ _ _); (refine Mine.rstrip_L (by walk_at "m_size") ?_); intro _ _ hStrip9))
local macro_rules | `(tactic| walk_at "m_pick") => `(tactic| first | exact Mine.pickL_last _ | exact Mine.pickL_init _ | exact Mine.pickL_to _ (by walk_at "m_size") | exact Mine.pickL_from _ (by walk_at "m_size") | exact Mine.pickL_of _ (by walk_at "m_size") (by walk_at "m_size"))
local macro_rules | `(tactic| walk_at "subscriptTail") => `(tactic| (k_here; (with_reducible show wpAny _ _ (subscriptTail _ (Expr.Slice _ _ none _) (Value.bytes (List.toArray _) _) (Value.ref _)) _ _ _); (with_reducible rename Fr _ _ _ _ => F'); (with_reducible rename News _ _ _ _ => N'); (refine Mine.slice_L (s := ⟨_, _, _, _, _⟩) F' N' (by constructor) (by constructor) (by walk_at "m_size") (by walk_at "m_pick") ?_); intro _ _ _ _ _))
local macro_rules | `(tactic| walk_at "exec For Name") => `(tactic| (k_here; (rename Fr _ _ _ _ => lF'); (with_unfolding_all refine' For_invVF lF' ?k1 ?k2 ?_; (case k1 => exact rfl); (case k2 => exact rfl); k_whole)))
local macro_rules | `(tactic| walk_at "exec While") => `(tactic| k_extra "MYWHILE")
local macro_rules | `(tactic| walk_at "exec While Compare cons nil") => `(tactic| k_extra "MYWHILE")
local macro_rules | `(tactic| walk_at "exec While Constant cons nil") => `(tactic| k_extra "MYWHILE")
local macro_rules | `(tactic| walk_at "KswEnd") => `(tactic| ((with_reducible show KswEnd _ _ _ _ _ _ _ _ _ _ _ _); refine Mine.hold_of ?_))
local macro_rules | `(tactic| walk_at "m_backL") => `(tactic| (intro h9 tk9 t9 hk9 hl9; (with_reducible rename Fr _ _ _ _ => F8); (with_reducible rename News _ _ _ _ => N8); (have F9 := Fr.keeps F8 hk9); (have N9 := News.grown N8 hk9); clear F8 N8 hk9; (try dsimp only); (try k_fold)))
local macro_rules | `(tactic| walk_at "call ref") => `(tactic| k_extra "MYCALL")
local macro_rules | `(tactic| walk_at "exec For Tuple Call cons nil") => `(tactic| (k_here; (rename Fr _ _ _ _ => lF'); (with_unfolding_all refine' For_invTF lF' ?_ ?k; (case k => (intro _; rfl)))))
local macro_rules | `(tactic| walk_at "execs cons Assign cons") => `(tactic| (with_reducible refine wpAny_execs_cons ?_))
local macro_rules | `(tactic| walk_at "execs cons Assign nil") => `(tactic| (with_reducible refine wpAny_execs_cons ?_))
local macro_rules | `(tactic| walk_at "execs cons Expr cons") => `(tactic| (with_reducible refine wpAny_execs_cons ?_))
local macro_rules | `(tactic| walk_at "execs cons Expr nil") => `(tactic| (with_reducible refine wpAny_execs_cons ?_))
local macro_rules | `(tactic| walk_at "execs cons If cons") => `(tactic| (with_reducible refine wpAny_execs_cons ?_))
local macro_rules | `(tactic| walk_at "execs cons If nil") => `(tactic| (with_reducible refine wpAny_execs_cons ?_))
local macro_rules | `(tactic| walk_at "execs cons For cons") => `(tactic| (with_reducible refine wpAny_execs_cons ?_))
local macro_rules | `(tactic| walk_at "execs cons For nil") => `(tactic| (with_reducible refine wpAny_execs_cons ?_))
local macro_rules | `(tactic| walk_at "execs cons While cons") => `(tactic| (with_reducible refine wpAny_execs_cons ?_))
local macro_rules | `(tactic| walk_at "execs cons While nil") => `(tactic| (with_reducible refine wpAny_execs_cons ?_))
local macro_rules | `(tactic| walk_at "execs cons Return cons") => `(tactic| (with_reducible refine wpAny_execs_cons ?_))
local macro_rules | `(tactic| walk_at "execs cons Return nil") => `(tactic| (with_reducible refine wpAny_execs_cons ?_))
local macro_rules | `(tactic| walk_at "InvEndN") => `(tactic| ((with_reducible show InvEndN _ _ (Mine.MK _ _ _ _ _ _) _ _ _ _); refine Mine.hold_of ?_))
local macro_rules | `(tactic| walk_at "call ref") => `(tactic| (k_here; (with_unfolding_all refine' wpAny_call (Mine.unq_spec ?k1 ?k2 ?k3 ?k4 ?_); (case k1 => walk_at "m_cx"); (case k2 => walk_at "m_cx"); (case k3 => omega); (case k4 => walk_at "m_size"); k_whole); walk_at "m_backL"))
local macro_rules | `(tactic| walk_at "m_none") => `(tactic| fail "none")
local macro_rules | `(tactic| walk_at "m_none") => `(tactic| fail "none")
local macro_rules | `(tactic| walk_at "m_none") => `(tactic| fail "none")
local macro_rules | `(tactic| walk_at "m_none") => `(tactic| fail "none")
local macro_rules | `(tactic| walk_at "m_none") => `(tactic| fail "none")
local macro_rules | `(tactic| walk_at "m_none") => `(tactic| fail "none")
local macro_rules | `(tactic| walk_at "m_none") => `(tactic| fail "none")
local macro_rules | `(tactic| walk_at "m_none") => `(tactic| fail "none")
local macro_rules | `(tactic| walk_at "m_none") => `(tactic| fail "none")
local macro_rules | `(tactic| walk_at "m_none") => `(tactic| fail "none")
local macro_rules | `(tactic| walk_at "m_none") => `(tactic| fail "none")
local macro_rules | `(tactic| walk_at "m_none") => `(tactic| fail "none")
local macro_rules | `(tactic| walk_at "m_none") => `(tactic| fail "none")
local macro_rules | `(tactic| walk_at "m_none") => `(tactic| fail "none")
local macro_rules | `(tactic| walk_at "m_none") => `(tactic| fail "none")
local macro_rules | `(tactic| walk_at "m_none") => `(tactic| fail "none")
local macro_rules | `(tactic| walk_at "m_none") => `(tactic| fail "none")
local macro_rules | `(tactic| walk_at "m_none") => `(tactic| fail "none")
local macro_rules | `(tactic| walk_at "m_none") => `(tactic| fail "none")
local macro_rules | `(tactic| walk_at "m_none") => `(tactic| fail "none")
local macro_rules | `(tactic| walk_at "m_none") => `(tactic| fail "none")
local macro_rules | `(tactic| walk_at "m_none") => `(tactic| fail "none")
local macro_rules | `(tactic| walk_at "m_none") => `(tactic| fail "none")
local macro_rules | `(tactic| walk_at "m_none") => `(tactic| fail "none")
local macro_rules | `(tactic| walk_at "m_none") => `(tactic| fail "none")
local macro_rules | `(tactic| walk_at "m_none") => `(tactic| fail "none")
local macro_rules | `(tactic| walk_at "m_none") => `(tactic| fail "none")
local macro_rules | `(tactic| walk_at "m_none") => `(tactic| fail "none")
local macro_rules | `(tactic| walk_at "m_none") => `(tactic| fail "none")
local macro_rules | `(tactic| walk_at "m_none") => `(tactic| fail "none")
local macro_rules | `(tactic| walk_at "m_none") => `(tactic| fail "none")
local macro_rules | `(tactic| walk_at "m_none") => `(tactic| fail "none")
local macro_rules | `(tactic| walk_at "m_none") => `(tactic| fail "none")
local macro_rules | `(tactic| walk_at "m_none") => `(tactic| fail "none")
local macro_rules | `(tactic| walk_at "m_none") => `(tactic| fail "none")
local macro_rules | `(tactic| walk_at "m_none") => `(tactic| fail "none")
local macro_rules | `(tactic| walk_at "m_none") => `(tactic| fail "none")
local macro_rules | `(tactic| walk_at "m_none") => `(tactic| fail "none")
local macro_rules | `(tactic| walk_at "m_none") => `(tactic| fail "none")
local macro_rules | `(tactic| walk_at "m_none") => `(tactic| fail "none")
local macro_rules | `(tactic| walk_at "m_none") => `(tactic| fail "none")
local macro_rules | `(tactic| walk_at "m_none") => `(tactic| fail "none")
local macro_rules | `(tactic| walk_at "m_none") => `(tactic| fail "none")
namespace Mine

/-- what one line tells -/
def decOne (p : List UInt8 × List UInt8) : List UInt8 :=
  if (rstripL [32, 9] p.1).drop ((rstripL [32, 9] p.1).length - 1) == [61] then unqB ((rstripL [32, 9] p.1).take ((rstripL [32, 9] p.1).length - 1)) else unqB (rstripL [32, 9] p.1) ++ p.2
def decL (x : List UInt8) : List UInt8 := ((lpL x).map decOne).flatten

theorem lpL_mem (x : List UInt8) : ∀ (n i : Nat), x.length - i = n → ∀ p ∈ lpL (x.drop i), p.1.length ≤ x.length ∧ p.2.length ≤ 2 := by
  intro n
  induction n using Nat.strongRecOn with
  | _ n ih =>
    intro i hn p hp
    rcases findB_cases x i with ⟨h1, h2⟩ | ⟨k, h1, h2, h3⟩
    · rw [lpL_none h2] at hp
      rw [List.mem_singleton.mp hp]
      simp
    · rw [lpL_some h2, List.drop_drop] at hp
      rcases List.mem_cons.mp hp with rfl | hp
      · split <;> simp <;> omega
      · exact ih _ (by omega) (i + (k + 1)) rfl p hp
theorem decOne_len {p : List UInt8 × List UInt8} {n : Nat} (h : p.1.length ≤ n) (h2 : p.2.length ≤ 2) : (decOne p).length ≤ n + 2 := by
  have h3 := rstripL_len [32, 9] p.1
  unfold decOne
  split
  · have := unqB_len ((rstripL [32, 9] p.1).take ((rstripL [32, 9] p.1).length - 1))
    rw [List.length_take] at this
    omega
  · have := unqB_len (rstripL [32, 9] p.1)
    rw [List.length_append]
    omega
theorem decs_len {n : Nat} : ∀ {ps : List (List UInt8 × List UInt8)}, (∀ p ∈ ps, p.1.length ≤ n ∧ p.2.length ≤ 2) → ((ps.map decOne).flatten).length ≤ ps.length * (n + 2)
  | [], _ => by simp
  | p :: ps, h => by
    have h1 := decs_len fun q hq => h q (.tail _ hq)
    have h2 := h p (.head _)
    have h3 := decOne_len h2.1 h2.2
    simp only [List.map_cons, List.flatten_cons, List.length_append, List.length_cons, Nat.add_mul, Nat.one_mul] at h1 ⊢
    omega

set_option maxRecDepth 100000 in
set_option maxHeartbeats 4000000 in
theorem qdec_spec : ∀ {w : World} {dp un : Nat} {fr : Option (List Env)} {gd : Option (List Code)} {s : Shared} {lo : List Str} {mean : ExcName → Option Value} {mg mb : Str → Option Value} {R : Result → Shared → Prop} {x : List UInt8} {t : Tok}
    (X : (Mine.hd.heap_39 w.params).In s.heap) (T : Top Mine.hd.view_39 lo mean mg mb s.heap) (hroom : dp < 470) (hx : x.length ≤ 900)
    (ret : ∀ h' tk t, Kept s.heap h' → R (.ok (.ret (.bytes (decL x).toArray t))) { s with heap := h', toks := tk }),
    codeAny (model PySem.Challenge.rw_or0024_01.row.prog w) (Ar dp un fr gd) (.call (.ref 63) ⟨[.bytes x.toArray t], []⟩) R s := by
  w_top off
  k_fill
  intro w dp un fr gd s lo mean mg mb R x t X T hroom hx ret
  (k_dflt (refine' Mine.enter (binds := [(Str.ofString "data", .bytes x.toArray t)]) ?kX ?kT ?k8 ?k6 ?k7 ?k9 ?kB ?_ ?c2 ?c3 ?c4 ?c5; (case kX => assumption); (case kT => assumption); (case k6 => k_is); (case k7 => k_is); (case k8 => (show _ < 1000; omega)); (case k9 => exact BindsTo.of_eq rfl); (case c5 => decide); (case kB => exact locs rfl); (case c2 => exact rfl); (case c3 => exact rfl); (case c4 => exact rfl); k_whole; intro L h₁ F N; (try dsimp only); (try k_fold)))
  k_with_none
  k_with "MYCALL" =>
    k_here
    with_unfolding_all refine' wpAny_call (Mine.parts_spec ?k1 ?k2 ?k3 ?k4 ?_)
    case k1 => walk_at "m_cx"
    case k2 => walk_at "m_cx"
    case k3 => omega
    case k4 => walk_at "m_size"
    intro h9 tk9 r9 ws9 n9 tl9 hk9 hr9 hf9 ht9 hT9
    rename Fr _ _ _ _ => F8
    rename News _ _ _ _ => N8
    rename_i lP hA1 hA2 hA3
    have F9 := F8.keeps hk9
    have N9 := news_plus F8 N8 hk9 (add := (r9, listOf ws9.toArray n9) :: tl9) (by
      intro p hp
      rcases List.mem_cons.mp hp with rfl | hp
      · exact ⟨hr9, hf9⟩
      · exact ⟨(ht9 p hp).1, (ht9 p hp).2.1⟩)
    have hoP : r9 ≠ lP := apart_new N8 hf9 (.head _)
    have hoT : OwnOff tl9 [lP] := by
      intro p hp b hb
      rw [List.mem_singleton.mp hb]
      exact apart_new N8 (ht9 p hp).2.1 (.head _)
    have hoR : ∀ p ∈ tl9, p.1 ≠ r9 := fun p hp => (ht9 p hp).2.2
    clear F8 N8 hk9
    try dsimp only
    try k_fold
  k_with "MYLOOP" =>
    rename Fr _ _ _ _ => lF'
    rename News _ _ _ _ => lN'
    with_unfolding_all refine' m_tup (σ := List Value × Nat) (qs := lpL x) (fun i c => (lP, listOf c.1.toArray c.2) :: tl9) (fun i c => []) [Str.ofString "kept"] (fun i c => BsAre c.1 (((lpL x).take i).map decOne)) ([], 0) rfl rfl rfl rfl lF' ?kN ?ko (fun _ _ _ => rfl) (fun _ _ _ => hT9.mono fun p hp => .tail _ hp) ?k3 ?k4 ?kt ?kd
    case kN =>
      intro p hp
      rcases List.mem_cons.mp hp with rfl | hp
      · exact lN' _ (.head _)
      · rcases List.mem_cons.mp hp with rfl | hp
        · exact lN' _ (.tail _ (List.mem_append_right _ (.head _)))
        · exact lN' _ (.tail _ (List.mem_append_left _ hp))
    case ko =>
      intro i c _ q hq
      rcases List.mem_cons.mp hq with rfl | hq
      · exact fun e => hoP e.symm
      · exact hoR q hq
    case k3 => kst_all
    case k4 => exact BsAre.nil
    all_goals clear lF' lN'
    case' kt =>
      intro i y z t1 t2 c u9 s1 own hq hoff hP F' N'
      obtain ⟨h, g1, d1, tk, os1⟩ := s1
      obtain ⟨ws, n⟩ := c
      dsimp only [List.map, kstB] at F' N' hP hoff
      simp only [List.cons_append, List.nil_append] at N'
      have hoA : OwnOff (tl9 ++ own) [lP] := by
        intro p hp b hb
        rw [List.mem_singleton.mp hb]
        rcases List.mem_append.mp hp with hp | hp
        · exact hoT p hp _ (.head _)
        · exact hoff p hp _ (.head _)
      have hmem := lpL_mem x _ 0 rfl (y, z) (by rw [List.drop_zero]; exact List.mem_of_getElem? hq)
      have hy := hmem.1
      have hz := hmem.2
      dsimp only at hy hz
      have hbl := hP.length
      have hi : i < (lpL x).length := (List.getElem?_eq_some_iff.mp hq).1
      have hll := lpL_len x _ 0 rfl
      rw [List.drop_zero] at hll
      have htl : (((lpL x).take i).map decOne).length ≤ (lpL x).length := by simp; omega
    case' kd =>
      intro c u9 h tk hP F' N'
      obtain ⟨ws, n⟩ := c
      dsimp only [kstB] at F' N' hP
      rw [List.take_length] at hP
      have hbl := hP.length
      have hfl : (((lpL x).map decOne).flatten).length ≤ 1000000 := by
        have h1 := decs_len (ps := lpL x) (n := 900) fun p hp => by
          have h2 := lpL_mem x _ 0 rfl p (by rw [List.drop_zero]; exact hp)
          exact ⟨by omega, h2.2⟩
        have hll := lpL_len x _ 0 rfl
        rw [List.drop_zero] at hll
        have h3 : (lpL x).length * (900 + 2) ≤ 901 * 902 := Nat.mul_le_mul_right _ (by omega)
        omega
    all_goals (try k_fold)
  k_steps
  all_goals first
    | (rename Fr _ _ _ _ => F9
       exact ret _ _ _ F9.keep)
    | (rename News _ _ _ _ => N9
       rename Fr _ _ _ _ => F9
       rename (List.drop _ _ == _) = _ => hc
       rw [show (Int.toNat 61).toUInt8 = (61 : UInt8) from rfl] at hc
       try simp only [List.push_toArray] at N9
       refine' m_end (σ := List Value × Nat) ⟨_, _⟩ F9 N9 ?hn ?ho ?ha ?h1 ?h2 ?hp
       case hn => kst_in
       case ho => (intro p hp; kst_mem)
       case ha => rfl
       case h1 => kst_all
       case h2 => kst_same
       case hp =>
         dsimp only
         rw [List.take_add_one, hq, List.map_append]
         show BsAre _ (_ ++ [decOne (y, z)])
         unfold decOne
         rw [hc]
         exact hP.append (.one _ _))
end Mine

end PartQDec
section PartCard
open PySem PySem.W PySem.Calls PyProof.Rows
set_option linter.unusedVariables false
local macro_rules | `(tactic| walk_at "m_size") => `(tactic| first | omega | (simp only [List.length_append, List.length_cons, List.length_nil, List.length_take, List.length_drop]; omega))
local macro_rules | `(tactic| walk_at "call builtin:len") => `(tactic| (k_here; (with_reducible show wpAny _ _ (call (Value.builtin "len") [Value.bytes (List.toArray _) _]) _ _ _); (refine Mine.len_L (by walk_at "m_size") ?_); intro _ _))
local macro_rules | `(tactic| walk_at "subscriptTail") => `(tactic| (k_here; (with_reducible show wpAny _ _ (subscriptTail _ _ (Value.bytes (List.toArray _) _) (Value.int _ _)) _ _ _); (refine Mine.item_L (by walk_at "m_size") (by walk_at "m_size") (by walk_at "m_size") ?_); intro _ _))
local macro_rules | `(tactic| walk_at "binaryOp Add bytes bytes") => `(tactic| (k_here; (with_reducible show wpAny _ _ (binaryOp Operator.Add (Value.bytes (List.toArray _) _) (Value.bytes (List.toArray _) _)) _ _ _); (refine Mine.add_L (by walk_at "m_size") ?_); intro _ _))
local macro_rules | `(tactic| walk_at "compareOp Eq bytes bytes") => `(tactic| (k_here; (with_reducible show wpAny _ _ (compareOp CmpOp.Eq (Value.bytes (List.toArray _) _) (Value.bytes (List.toArray _) _)) _ _ _); (refine Mine.eq_L ?_)))
local macro_rules | `(tactic| walk_at "compareOp NotEq bytes bytes") => `(tactic| (k_here; (with_reducible show wpAny _ _ (compareOp CmpOp.NotEq (Value.bytes (List.toArray _) _) (Value.bytes (List.toArray _) _)) _ _ _); (refine Mine.ne_L ?_)))
-- what a contract asks at a call: the written part, the top, the room
local macro_rules | `(tactic| walk_at "m_cx") => `(tactic| first | assumption | exact Frag.In.keeps (by assumption) (Fr.keep (by assumption)) | exact Top.keeps (by assumption) (Fr.keep (by assumption)))
local macro_rules | `(tactic| walk_at "m_back") => `(tactic| (intro h9 tk9 t9 hk9; (with_reducible rename Fr _ _ _ _ => F8); (with_reducible rename News _ _ _ _ => N8); (have F9 := Fr.keeps F8 hk9); (have N9 := News.grown N8 hk9); clear F8 N8 hk9; (try dsimp only); (try k_fold)))
local macro_rules | `(tactic| walk_at "m_lenq") => `(tactic| first | exact Mine.BsAre.length (by assumption) | exact IntsAre.length (by assumption))
local macro_rules | `(tactic| walk_at "call builtin:len") => `(tactic| (k_here; (with_reducible show wpAny _ _ (call (Value.builtin "len") [Value.ref _]) _ _ _); (with_unfolding_all refine' Mine.len_V ?k1 ?k2 ?k3 ?_; (case k1 => is_list); (case k2 => walk_at "m_lenq"); (case k3 => walk_at "m_size"); k_whole); intro _ _))
local macro_rules | `(tactic| walk_at "subscriptTail") => `(tactic| (k_here; (with_reducible show wpAny _ _ (subscriptTail _ _ (Value.ref _) (Value.int _ _)) _ _ _); (with_unfolding_all refine' Mine.item_B ?k1 ?k2 ?k3 ?k4 ?k5 ?k6 ?_ ?k7; (case k1 => is_list); (case k2 => assumption); (case k3 => assumption); (case k4 => walk_at "m_size"); (case k5 => walk_at "m_size"); (case k6 => walk_at "m_size"); (case k7 => with_unfolding_all rfl); k_whole); intro _ hSmall9))
local macro_rules | `(tactic| walk_at "pyIter ref") => `(tactic| k_extra "MYLOOP")
local macro_rules | `(tactic| walk_at "InvEndN") => `(tactic| ((with_reducible show InvEndN _ _ (Mine.MJ _ _ _ _ _ _ _) _ _ _ _); refine Mine.hold_of ?_))
local macro_rules | `(tactic| walk_at "getMethod bytes") => `(tactic| (k_here; first | (with_reducible refine Mine.m_find ?_) | (with_reducible refine Mine.m_rstrip ?_) | (with_reducible refine Mine.m_join ?_)))
local macro_rules | `(tactic| walk_at "call builtin:bytes.join") => `(tactic| (k_here; (with_unfolding_all refine' Mine.join_L ?k1 ?k2 ?k3 ?_; (case k1 => is_list); (case k2 => assumption); (case k3 => first | assumption | walk_at "m_size"); k_whole); intro _ _))
local macro_rules | `(tactic| walk_at "call builtin:bytes.find") => `(tactic| (k_here; (with_reducible show wpAny _ _ (call (Value.builtin "bytes.find") [Value.bytes (List.toArray _) _, Value.bytes (List.toArray [_]) _, Value.int _ _]) _ _ _); (refine Mine.find_L (by walk_at "m_size") (by walk_at "m_size") ?_); intro _ _))
local macro_rules | `(tactic| walk_at "call builtin:bytes.rstrip") => `(tactic| (k_here; (with_reducible show wpAny _ _ (call (Value.builtin "bytes.rstrip") [Value.bytes (List.toArray _) _, Value.bytes (List.toArray _) _]) _ _ _); (refine Mine.rstrip_L (by walk_at "m_size") ?_); intro _ _ hStrip9))
local macro_rules | `(tactic| walk_at "m_pick") => `(tactic| first | exact Mine.pickL_last _ | exact Mine.pickL_init _ | exact Mine.pickL_to _ (by walk_at "m_size") | exact Mine.pickL_from _ (by walk_at "m_size") | exact Mine.pickL_of _ (by walk_at "m_size") (by walk_at "m_size"))
local macro_rules | `(tactic| walk_at "subscriptTail") => `(tactic| (k_here; (with_reducible show wpAny _ _ (subscriptTail _ (Expr.Slice _ _ none _) (Value.bytes (List.toArray _) _) (Value.ref _)) _ _ _); (with_reducible rename Fr _ _ _ _ => F'); (with_reducible rename News _ _ _ _ => N'); (refine Mine.slice_L (s := ⟨_, _, _, _, _⟩) F' N' (by constructor) (by constructor) (by walk_at "m_size") (by walk_at "m_pick") ?_); intro _ _ _ _ _))
local macro_rules | `(tactic| walk_at "exec For Name") => `(tactic| (k_here; (rename Fr _ _ _ _ => lF'); (with_unfolding_all refine' For_invVF lF' ?k1 ?k2 ?_; (case k1 => exact rfl); (case k2 => exact rfl); k_whole)))
local macro_rules | `(tactic| walk_at "exec While") => `(tactic| k_extra "MYWHILE")
local macro_rules | `(tactic| walk_at "exec While Compare cons nil") => `(tactic| k_extra "MYWHILE")
local macro_rules | `(tactic| walk_at "exec While Constant cons nil") => `(tactic| k_extra "MYWHILE")
local macro_rules | `(tactic| walk_at "KswEnd") => `(tactic| ((with_reducible show KswEnd _ _ _ _ _ _ _ _ _ _ _ _); refine Mine.hold_of ?_))
local macro_rules | `(tactic| walk_at "m_backL") => `(tactic| (intro h9 tk9 t9 hk9 hl9; (with_reducible rename Fr _ _ _ _ => F8); (with_reducible rename News _ _ _ _ => N8); (have F9 := Fr.keeps F8 hk9); (have N9 := News.grown N8 hk9); clear F8 N8 hk9; (try dsimp only); (try k_fold)))
local macro_rules | `(tactic| walk_at "call ref") => `(tactic| k_extra "MYCALL")
local macro_rules | `(tactic| walk_at "exec For Tuple Call cons nil") => `(tactic| (k_here; (rename Fr _ _ _ _ => lF'); (with_unfolding_all refine' For_invTF lF' ?_ ?k; (case k => (intro _; rfl)))))
local macro_rules | `(tactic| walk_at "execs cons Assign cons") => `(tactic| (with_reducible refine wpAny_execs_cons ?_))
local macro_rules | `(tactic| walk_at "execs cons Assign nil") => `(tactic| (with_reducible refine wpAny_execs_cons ?_))
local macro_rules | `(tactic| walk_at "execs cons Expr cons") => `(tactic| (with_reducible refine wpAny_execs_cons ?_))
local macro_rules | `(tactic| walk_at "execs cons Expr nil") => `(tactic| (with_reducible refine wpAny_execs_cons ?_))
local macro_rules | `(tactic| walk_at "execs cons If cons") => `(tactic| (with_reducible refine wpAny_execs_cons ?_))
local macro_rules | `(tactic| walk_at "execs cons If nil") => `(tactic| (with_reducible refine wpAny_execs_cons ?_))
local macro_rules | `(tactic| walk_at "execs cons For cons") => `(tactic| (with_reducible refine wpAny_execs_cons ?_))
local macro_rules | `(tactic| walk_at "execs cons For nil") => `(tactic| (with_reducible refine wpAny_execs_cons ?_))
local macro_rules | `(tactic| walk_at "execs cons While cons") => `(tactic| (with_reducible refine wpAny_execs_cons ?_))
local macro_rules | `(tactic| walk_at "execs cons While nil") => `(tactic| (with_reducible refine wpAny_execs_cons ?_))
local macro_rules | `(tactic| walk_at "execs cons Return cons") => `(tactic| (with_reducible refine wpAny_execs_cons ?_))
local macro_rules | `(tactic| walk_at "execs cons Return nil") => `(tactic| (with_reducible refine wpAny_execs_cons ?_))
local macro_rules | `(tactic| walk_at "InvEndN") => `(tactic| ((with_reducible show InvEndN _ _ (Mine.MK _ _ _ _ _ _) _ _ _ _); refine Mine.hold_of ?_))
local macro_rules | `(tactic| walk_at "m_none") => `(tactic| fail "none")
local macro_rules | `(tactic| walk_at "m_none") => `(tactic| fail "none")
local macro_rules | `(tactic| walk_at "m_none") => `(tactic| fail "none")
local macro_rules | `(tactic| walk_at "m_none") => `(tactic| fail "none")
local macro_rules | `(tactic| walk_at "m_none") => `(tactic| fail "none")
local macro_rules | `(tactic| walk_at "m_none") => `(tactic| fail "none")
local macro_rules | `(tactic| walk_at "m_none") => `(tactic| fail "none")
local macro_rules | `(tactic| walk_at "m_none") => `(tactic| fail "none")
local macro_rules | `(tactic| walk_at "m_none") => `(tactic| fail "none")
local macro_rules | `(tactic| walk_at "m_none") => `(tactic| fail "none")
local macro_rules | `(tactic| walk_at "m_none") => `(tactic| fail "none")
local macro_rules | `(tactic| walk_at "m_none") => `(tactic| fail "none")
local macro_rules | `(tactic| walk_at "m_none") => `(tactic| fail "none")
local macro_rules | `(tactic| walk_at "m_none") => `(tactic| fail "none")
local macro_rules | `(tactic| walk_at "m_none") => `(tactic| fail "none")
local macro_rules | `(tactic| walk_at "m_none") => `(tactic| fail "none")
local macro_rules | `(tactic| walk_at "m_none") => `(tactic| fail "none")
local macro_rules | `(tactic| walk_at "m_none") => `(tactic| fail "none")
local macro_rules | `(tactic| walk_at "m_none") => `(tactic| fail "none")
local macro_rules | `(tactic| walk_at "m_none") => `(tactic| fail "none")
local macro_rules | `(tactic| walk_at "m_none") => `(tactic| fail "none")
local macro_rules | `(tactic| walk_at "m_none") => `(tactic| fail "none")
local macro_rules | `(tactic| walk_at "m_none") => `(tactic| fail "none")
local macro_rules | `(tactic| walk_at "m_none") => `(tactic| fail "none")
local macro_rules | `(tactic| walk_at "m_none") => `(tactic| fail "none")
local macro_rules | `(tactic| walk_at "m_none") => `(tactic| fail "none")
local macro_rules | `(tactic| walk_at "m_none") => `(tactic| fail "none")
local macro_rules | `(tactic| walk_at "m_none") => `(tactic| fail "none")
local macro_rules | `(tactic| walk_at "m_none") => `(tactic| fail "none")
local macro_rules | `(tactic| walk_at "m_none") => `(tactic| fail "none")
local macro_rules | `(tactic| walk_at "m_none") => `(tactic| fail "none")
local macro_rules | `(tactic| walk_at "m_none") => `(tactic| fail "none")
local macro_rules | `(tactic| walk_at "m_none") => `(tactic| fail "none")
local macro_rules | `(tactic| walk_at "m_none") => `(tactic| fail "none")
local macro_rules | `(tactic| walk_at "m_none") => `(tactic| fail "none")
local macro_rules | `(tactic| walk_at "m_none") => `(tactic| fail "none")
local macro_rules | `(tactic| walk_at "m_none") => `(tactic| fail "none")
local macro_rules | `(tactic| walk_at "m_none") => `(tactic| fail "none")
local macro_rules | `(tactic| walk_at "m_none") => `(tactic| fail "none")
local macro_rules | `(tactic| walk_at "m_none") => `(tactic| fail "none")
local macro_rules | `(tactic| walk_at "m_none") => `(tactic| fail "none")
local macro_rules | `(tactic| walk_at "m_none") => `(tactic| fail "none")
local macro_rules | `(tactic| walk_at "m_none") => `(tactic| fail "none")
local macro_rules | `(tactic| walk_at "m_none") => `(tactic| fail "none")
local macro_rules | `(tactic| walk_at "m_none") => `(tactic| fail "none")
namespace Mine
set_option maxHeartbeats 1000000 in
/-- a def is entered that changes one object, at d, that the caller has made -/
theorem enterD {prog : Program} {w : World} {dp un : Nat} {fr : Option (List Env)} {gd : Option (List Code)} {s : Shared} {K : Frag} {lo : List Str} {mean : ExcName → Option Value} {mg mb : Str → Option Value} {p : Program} {h₀ : Heap} {d : Addr} {od' : Obj}
    {R : Result → Shared → Prop} {name qual : Str} {params : Arguments} {body : List Stmt} {scope : Scope} {dV kV doc pm cdv ct oc : Value} {an od : Option Addr} {osl : Array (Option Value)} {f : Addr} {args : Args} {binds : List (Str × Value)}
    (X : K.In h₀) (T : Top p lo mean mg mb h₀) (hk : Kept h₀ s.heap) (hd0 : h₀.get? d = none) (hd : s.heap.get? d = some od') (hroom : dp < recursionLimit)
    (ho : K.lookup f = some ⟨oc, od, .func (fnOf name qual params body scope dV kV doc pm an cdv ct), osl⟩) (hcd : codeIn K cdv qual = true)
    (hbind : BindsTo s (fnOf name qual params body scope dV kV doc pm an cdv ct) args binds) (hloc : ∀ y ∈ binds, scope.names.lookup y.1 = some .local)
    (h : ∀ g L h₁, K.In g → Top p lo mean mg mb g → (∀ b o, b ≠ d → s.heap.get? b = some o → g.get? b = some o) → Fr g L h₁ (fun y => binds.reverse.lookup y) → News g L h₁ [(d, od')] →
      wpAny (model prog w) (Ar (dp + 1) (un + 3) (fr.map (envOf qual scope L f cdv :: ·)) gd) (execs body (envOf qual scope L f cdv))
        (fun fl s' => R (.ok (.ret (match fl with | .ret v => v | _ => .none))) s') (fun _ _ => False)
        { s with heap := h₁, toks := s.toks + binds.length })
    (hco : scope.isCoroutine = false := by rfl) (hgen : scope.isGenerator = false := by rfl) (hkd : scope.kind = .function := by rfl)
    (hcell : ∀ x ∈ scope.names, x.2 ≠ .cell := by decide) : codeAny (model prog w) (Ar dp un fr gd) (.call (.ref f) args) R s := by
  have X' := X.keeps hk
  refine codeAny_call_def (fd := fnOf name qual params body scope dV kV doc pm an cdv ct) (body := body) (binds := binds) hroom (X' _ _ ho) rfl (T.nolimit.keeps hk) (codeRec_of X' hcd) rfl hbind hcell hloc (fun h₁ hns hk₁ => ?_) hco hgen hkd
  have hst : Kept h₀ (s.heap.hide d) := fun b o e => (Heap.hide_ne s.heap fun q => by rw [q, hd0] at e; cases e).trans (hk b o e)
  have := h (s.heap.hide d) s.heap.objs.size h₁ (X.keeps hst) (T.keeps hst) (fun b o hb e => (Heap.hide_ne s.heap hb).trans e)
    ⟨hns, fun b o e => hk₁ b o (Heap.of_hide e), Nat.le_of_eq (Heap.hide_size _ _)⟩
    (fun p hp => by rw [List.mem_singleton.mp hp]; exact ⟨hk₁ _ _ hd, Nat.ne_of_lt (Heap.lt_size hd), Heap.hide_self _ _⟩)
  refine wpAny_mono ?_ (fun _ _ x => x) (fun _ _ x => False.elim x)
  exact this

set_option maxRecDepth 100000 in
set_option maxHeartbeats 4000000 in
theorem card_spec : ∀ {w : World} {dp un : Nat} {fr : Option (List Env)} {gd : Option (List Code)} {s : Shared} {lo : List Str} {mean : ExcName → Option Value} {mg mb : Str → Option Value} {R : Result → Shared → Prop} {h₀ : Heap} {d c : Addr} {sp many : Int} {t u : Tok} {n : Nat} {vs : List Value} {ns : List Int}
    (X : (Mine.hd.heap_39 w.params).In h₀) (T : Top Mine.hd.view_39 lo mean mg mb h₀) (hroom : dp < 490) (hk : Kept h₀ s.heap) (hd0 : h₀.get? d = none)
    (hd : s.heap.get? d = some (listOf [.ref c, .int sp t].toArray n)) (hc : s.heap.IsList c vs.toArray) (hcd : c ≠ d) (hI : IntsAre vs ns) (hn : ns.length ≤ 60) (hb : ∀ n ∈ ns, 0 ≤ n ∧ n < 999983) (hs0 : 0 ≤ sp) (hs1 : sp ≤ 200) (hm0 : 1 ≤ many) (hm1 : many ≤ 1000)
    (ret : ∀ h' tk v t' t2 n2, (∀ b o, b ≠ d → s.heap.get? b = some o → h'.get? b = some o) → h'.get? d = some (listOf [.ref c, .int (sp + 1) t2].toArray n2) → 0 ≤ v → v < many → R (.ok (.ret (.int v t'))) { s with heap := h', toks := tk }),
    codeAny (model PySem.Challenge.rw_or0024_01.row.prog w) (Ar dp un fr gd) (.call (.ref 75) ⟨[.ref d, .int many u], []⟩) R s := by
  w_top off
  k_fill
  intro w dp un fr gd s lo mean mg mb R h₀ d c sp many t u n vs ns X T hroom hk hd0 hd hc hcd hI hn hb hs0 hs1 hm0 hm1 ret
  k_dflt (refine' Mine.enterD (binds := [(Str.ofString "deck", .ref d), (Str.ofString "many", .int many u)]) X T hk hd0 hd ?k8 ?k6 ?k7 ?k9 ?kB ?_ ?c2 ?c3 ?c4 ?c5; (case k6 => k_is); (case k7 => k_is); (case k8 => (show _ < 1000; omega)); (case k9 => exact BindsTo.of_eq rfl); (case c5 => decide); (case kB => exact locs rfl); (case c2 => exact rfl); (case c3 => exact rfl); (case c4 => exact rfl); k_whole; intro g L h₁ X' T' hg F N; (try dsimp only))
  have hcg : g.IsList c vs.toArray := hc.at fun o e => hg _ o hcd e
  clear X T hk hd0 hd hc
  try k_unmd
  k_fold
  k_with_none
  k_steps
  all_goals (
    rename News _ _ _ _ => N9
    rename Fr _ _ _ _ => F9
    refine ret _ _ _ _ _ _ (fun b o hb e => F9.keep _ _ (hg b o hb e)) (N9 _ (.head _)).1 ?_ ?_
    · rw [Int.fmod_eq_emod_of_nonneg _ (by omega)]; exact Int.emod_nonneg _ (by omega)
    · rw [Int.fmod_eq_emod_of_nonneg _ (by omega)]; exact Int.emod_lt_of_pos _ (by omega))
end Mine

end PartCard
section PartDeck
open PySem PySem.W PySem.Calls PyProof.Rows
set_option linter.unusedVariables false
local macro_rules | `(tactic| walk_at "m_size") => `(tactic| first | omega | (simp only [List.length_append, List.length_cons, List.length_nil, List.length_take, List.length_drop]; omega))
local macro_rules | `(tactic| walk_at "call builtin:len") => `(tactic| (k_here; (with_reducible show wpAny _ _ (call (Value.builtin "len") [Value.bytes (List.toArray _) _]) _ _ _); (refine Mine.len_L (by walk_at "m_size") ?_); intro _ _))
local macro_rules | `(tactic| walk_at "subscriptTail") => `(tactic| (k_here; (with_reducible show wpAny _ _ (subscriptTail _ _ (Value.bytes (List.toArray _) _) (Value.int _ _)) _ _ _); (refine Mine.item_L (by walk_at "m_size") (by walk_at "m_size") (by walk_at "m_size") ?_); intro _ _))
local macro_rules | `(tactic| walk_at "binaryOp Add bytes bytes") => `(tactic| (k_here; (with_reducible show wpAny _ _ (binaryOp Operator.Add (Value.bytes (List.toArray _) _) (Value.bytes (List.toArray _) _)) _ _ _); (refine Mine.add_L (by walk_at "m_size") ?_); intro _ _))
local macro_rules | `(tactic| walk_at "compareOp Eq bytes bytes") => `(tactic| (k_here; (with_reducible show wpAny _ _ (compareOp CmpOp.Eq (Value.bytes (List.toArray _) _) (Value.bytes (List.toArray _) _)) _ _ _); (refine Mine.eq_L ?_)))
local macro_rules | `(tactic| walk_at "compareOp NotEq bytes bytes") => `(tactic| (k_here; (with_reducible show wpAny _ _ (compareOp CmpOp.NotEq (Value.bytes (List.toArray _) _) (Value.bytes (List.toArray _) _)) _ _ _); (refine Mine.ne_L ?_)))
-- what a contract asks at a call: the written part, the top, the room
local macro_rules | `(tactic| walk_at "m_cx") => `(tactic| first | assumption | exact Frag.In.keeps (by assumption) (Fr.keep (by assumption)) | exact Top.keeps (by assumption) (Fr.keep (by assumption)))
local macro_rules | `(tactic| walk_at "m_back") => `(tactic| (intro h9 tk9 t9 hk9; (with_reducible rename Fr _ _ _ _ => F8); (with_reducible rename News _ _ _ _ => N8); (have F9 := Fr.keeps F8 hk9); (have N9 := News.grown N8 hk9); clear F8 N8 hk9; (try dsimp only); (try k_fold)))
local macro_rules | `(tactic| walk_at "m_lenq") => `(tactic| first | exact Mine.BsAre.length (by assumption) | exact IntsAre.length (by assumption))
local macro_rules | `(tactic| walk_at "call builtin:len") => `(tactic| (k_here; (with_reducible show wpAny _ _ (call (Value.builtin "len") [Value.ref _]) _ _ _); (with_unfolding_all refine' Mine.len_V ?k1 ?k2 ?k3 ?_; (case k1 => is_list); (case k2 => walk_at "m_lenq"); (case k3 => walk_at "m_size"); k_whole); intro _ _))
local macro_rules | `(tactic| walk_at "subscriptTail") => `(tactic| (k_here; (with_reducible show wpAny _ _ (subscriptTail _ _ (Value.ref _) (Value.int _ _)) _ _ _); (with_unfolding_all refine' Mine.item_B ?k1 ?k2 ?k3 ?k4 ?k5 ?k6 ?_ ?k7; (case k1 => is_list); (case k2 => assumption); (case k3 => assumption); (case k4 => walk_at "m_size"); (case k5 => walk_at "m_size"); (case k6 => walk_at "m_size"); (case k7 => with_unfolding_all rfl); k_whole); intro _ hSmall9))
local macro_rules | `(tactic| walk_at "pyIter ref") => `(tactic| k_extra "MYLOOP")
local macro_rules | `(tactic| walk_at "InvEndN") => `(tactic| ((with_reducible show InvEndN _ _ (Mine.MJ _ _ _ _ _ _ _) _ _ _ _); refine Mine.hold_of ?_))
local macro_rules | `(tactic| walk_at "getMethod bytes") => `(tactic| (k_here; first | (with_reducible refine Mine.m_find ?_) | (with_reducible refine Mine.m_rstrip ?_) | (with_reducible refine Mine.m_join ?_)))
local macro_rules | `(tactic| walk_at "call builtin:bytes.join") => `(tactic| (k_here; (with_unfolding_all refine' Mine.join_L ?k1 ?k2 ?k3 ?_; (case k1 => is_list); (case k2 => assumption); (case k3 => first | assumption | walk_at "m_size"); k_whole); intro _ _))
local macro_rules | `(tactic| walk_at "call builtin:bytes.find") => `(tactic| (k_here; (with_reducible show wpAny _ _ (call (Value.builtin "bytes.find") [Value.bytes (List.toArray _) _, Value.bytes (List.toArray [_]) _, Value.int _ _]) _ _ _); (refine Mine.find_L (by walk_at "m_size") (by walk_at "m_size") ?_); intro _ _))
local macro_rules | `(tactic| walk_at "call builtin:bytes.rstrip") => `(tactic| (k_here; (with_reducible show wpAny _ _ (call (Value.builtin "bytes.rstrip") [Value.bytes (List.toArray _) _, Value.bytes (List.toArray _) _]) _ _ _); (refine Mine.rstrip_L (by walk_at "m_size") ?_); intro _ _ hStrip9))
local macro_rules | `(tactic| walk_at "m_pick") => `(tactic| first | exact Mine.pickL_last _ | exact Mine.pickL_init _ | exact Mine.pickL_to _ (by walk_at "m_size") | exact Mine.pickL_from _ (by walk_at "m_size") | exact Mine.pickL_of _ (by walk_at "m_size") (by walk_at "m_size"))
local macro_rules | `(tactic| walk_at "subscriptTail") => `(tactic| (k_here; (with_reducible show wpAny _ _ (subscriptTail _ (Expr.Slice _ _ none _) (Value.bytes (List.toArray _) _) (Value.ref _)) _ _ _); (with_reducible rename Fr _ _ _ _ => F'); (with_reducible rename News _ _ _ _ => N'); (refine Mine.slice_L (s := ⟨_, _, _, _, _⟩) F' N' (by constructor) (by constructor) (by walk_at "m_size") (by walk_at "m_pick") ?_); intro _ _ _ _ _))
local macro_rules | `(tactic| walk_at "exec For Name") => `(tactic| (k_here; (rename Fr _ _ _ _ => lF'); (with_unfolding_all refine' For_invVF lF' ?k1 ?k2 ?_; (case k1 => exact rfl); (case k2 => exact rfl); k_whole)))
local macro_rules | `(tactic| walk_at "exec While") => `(tactic| k_extra "MYWHILE")
local macro_rules | `(tactic| walk_at "exec While Compare cons nil") => `(tactic| k_extra "MYWHILE")
local macro_rules | `(tactic| walk_at "exec While Constant cons nil") => `(tactic| k_extra "MYWHILE")
local macro_rules | `(tactic| walk_at "KswEnd") => `(tactic| ((with_reducible show KswEnd _ _ _ _ _ _ _ _ _ _ _ _); refine Mine.hold_of ?_))
local macro_rules | `(tactic| walk_at "m_backL") => `(tactic| (intro h9 tk9 t9 hk9 hl9; (with_reducible rename Fr _ _ _ _ => F8); (with_reducible rename News _ _ _ _ => N8); (have F9 := Fr.keeps F8 hk9); (have N9 := News.grown N8 hk9); clear F8 N8 hk9; (try dsimp only); (try k_fold)))
local macro_rules | `(tactic| walk_at "call ref") => `(tactic| k_extra "MYCALL")
local macro_rules | `(tactic| walk_at "exec For Tuple Call cons nil") => `(tactic| (k_here; (rename Fr _ _ _ _ => lF'); (with_unfolding_all refine' For_invTF lF' ?_ ?k; (case k => (intro _; rfl)))))
local macro_rules | `(tactic| walk_at "execs cons Assign cons") => `(tactic| (with_reducible refine wpAny_execs_cons ?_))
local macro_rules | `(tactic| walk_at "execs cons Assign nil") => `(tactic| (with_reducible refine wpAny_execs_cons ?_))
local macro_rules | `(tactic| walk_at "execs cons Expr cons") => `(tactic| (with_reducible refine wpAny_execs_cons ?_))
local macro_rules | `(tactic| walk_at "execs cons Expr nil") => `(tactic| (with_reducible refine wpAny_execs_cons ?_))
local macro_rules | `(tactic| walk_at "execs cons If cons") => `(tactic| (with_reducible refine wpAny_execs_cons ?_))
local macro_rules | `(tactic| walk_at "execs cons If nil") => `(tactic| (with_reducible refine wpAny_execs_cons ?_))
local macro_rules | `(tactic| walk_at "execs cons For cons") => `(tactic| (with_reducible refine wpAny_execs_cons ?_))
local macro_rules | `(tactic| walk_at "execs cons For nil") => `(tactic| (with_reducible refine wpAny_execs_cons ?_))
local macro_rules | `(tactic| walk_at "execs cons While cons") => `(tactic| (with_reducible refine wpAny_execs_cons ?_))
local macro_rules | `(tactic| walk_at "execs cons While nil") => `(tactic| (with_reducible refine wpAny_execs_cons ?_))
local macro_rules | `(tactic| walk_at "execs cons Return cons") => `(tactic| (with_reducible refine wpAny_execs_cons ?_))
local macro_rules | `(tactic| walk_at "execs cons Return nil") => `(tactic| (with_reducible refine wpAny_execs_cons ?_))
local macro_rules | `(tactic| walk_at "InvEndN") => `(tactic| ((with_reducible show InvEndN _ _ (Mine.MK _ _ _ _ _ _) _ _ _ _); refine Mine.hold_of ?_))
local macro_rules | `(tactic| walk_at "m_none") => `(tactic| fail "none")
local macro_rules | `(tactic| walk_at "m_none") => `(tactic| fail "none")
local macro_rules | `(tactic| walk_at "m_none") => `(tactic| fail "none")
local macro_rules | `(tactic| walk_at "m_none") => `(tactic| fail "none")
local macro_rules | `(tactic| walk_at "m_none") => `(tactic| fail "none")
local macro_rules | `(tactic| walk_at "m_none") => `(tactic| fail "none")
local macro_rules | `(tactic| walk_at "m_none") => `(tactic| fail "none")
local macro_rules | `(tactic| walk_at "m_none") => `(tactic| fail "none")
local macro_rules | `(tactic| walk_at "m_none") => `(tactic| fail "none")
local macro_rules | `(tactic| walk_at "m_none") => `(tactic| fail "none")
local macro_rules | `(tactic| walk_at "m_none") => `(tactic| fail "none")
local macro_rules | `(tactic| walk_at "m_none") => `(tactic| fail "none")
local macro_rules | `(tactic| walk_at "m_none") => `(tactic| fail "none")
local macro_rules | `(tactic| walk_at "m_none") => `(tactic| fail "none")
local macro_rules | `(tactic| walk_at "m_none") => `(tactic| fail "none")
local macro_rules | `(tactic| walk_at "m_none") => `(tactic| fail "none")
local macro_rules | `(tactic| walk_at "m_none") => `(tactic| fail "none")
local macro_rules | `(tactic| walk_at "m_none") => `(tactic| fail "none")
local macro_rules | `(tactic| walk_at "m_none") => `(tactic| fail "none")
local macro_rules | `(tactic| walk_at "m_none") => `(tactic| fail "none")
local macro_rules | `(tactic| walk_at "m_none") => `(tactic| fail "none")
local macro_rules | `(tactic| walk_at "m_none") => `(tactic| fail "none")
local macro_rules | `(tactic| walk_at "m_none") => `(tactic| fail "none")
local macro_rules | `(tactic| walk_at "m_none") => `(tactic| fail "none")
local macro_rules | `(tactic| walk_at "m_none") => `(tactic| fail "none")
local macro_rules | `(tactic| walk_at "m_none") => `(tactic| fail "none")
local macro_rules | `(tactic| walk_at "m_none") => `(tactic| fail "none")
local macro_rules | `(tactic| walk_at "m_none") => `(tactic| fail "none")
local macro_rules | `(tactic| walk_at "m_none") => `(tactic| fail "none")
local macro_rules | `(tactic| walk_at "m_none") => `(tactic| fail "none")
local macro_rules | `(tactic| walk_at "m_none") => `(tactic| fail "none")
local macro_rules | `(tactic| walk_at "m_none") => `(tactic| fail "none")
local macro_rules | `(tactic| walk_at "m_none") => `(tactic| fail "none")
local macro_rules | `(tactic| walk_at "m_none") => `(tactic| fail "none")
local macro_rules | `(tactic| walk_at "m_none") => `(tactic| fail "none")
local macro_rules | `(tactic| walk_at "m_none") => `(tactic| fail "none")
local macro_rules | `(tactic| walk_at "m_none") => `(tactic| fail "none")
local macro_rules | `(tactic| walk_at "m_none") => `(tactic| fail "none")
local macro_rules | `(tactic| walk_at "m_none") => `(tactic| fail "none")
local macro_rules | `(tactic| walk_at "m_none") => `(tactic| fail "none")
local macro_rules | `(tactic| walk_at "m_none") => `(tactic| fail "none")
local macro_rules | `(tactic| walk_at "m_none") => `(tactic| fail "none")
local macro_rules | `(tactic| walk_at "m_none") => `(tactic| fail "none")
local macro_rules | `(tactic| walk_at "m_none") => `(tactic| fail "none")
local macro_rules | `(tactic| walk_at "m_none") => `(tactic| fail "none")
local macro_rules | `(tactic| walk_at "m_none") => `(tactic| fail "none")
namespace Mine
set_option maxRecDepth 100000 in
set_option maxHeartbeats 4000000 in
theorem deck_spec : ∀ {w : World} {dp un : Nat} {fr : Option (List Env)} {gd : Option (List Code)} {s : Shared} {lo : List Str} {mean : ExcName → Option Value} {mg mb : Str → Option Value} {R : Result → Shared → Prop} {l : Addr} {vs : List Value} {ns : List Int}
    (X : (Mine.hd.heap_39 w.params).In s.heap) (T : Top Mine.hd.view_39 lo mean mg mb s.heap) (hroom : dp < 490) (hl : s.heap.IsList l vs.toArray) (hI : IntsAre vs ns) (hn : ns.length ≤ 63)
    (ret : ∀ h' tk d c t ws ms n n', Kept s.heap h' → h'.get? d = some (listOf [.ref c, .int 0 t].toArray n) → s.heap.get? d = none → h'.get? c = some (listOf ws.toArray n') → s.heap.get? c = none → c ≠ d → IntsAre ws ms → ms.length ≤ 60 → (∀ m ∈ ms, 0 ≤ m ∧ m < 999983) → R (.ok (.ret (.ref d))) { s with heap := h', toks := tk }),
    codeAny (model PySem.Challenge.rw_or0024_01.row.prog w) (Ar dp un fr gd) (.call (.ref 68) ⟨[.ref l], []⟩) R s := by
  w_top off
  k_fill
  intro w dp un fr gd s lo mean mg mb R l vs ns X T hroom hl hI hn ret
  (k_dflt (refine' Mine.enter (binds := [(Str.ofString "script", .ref l)]) ?kX ?kT ?k8 ?k6 ?k7 ?k9 ?kB ?_ ?c2 ?c3 ?c4 ?c5; (case kX => assumption); (case kT => assumption); (case k6 => k_is); (case k7 => k_is); (case k8 => (show _ < 1000; omega)); (case k9 => exact BindsTo.of_eq rfl); (case c5 => decide); (case kB => exact locs rfl); (case c2 => exact rfl); (case c3 => exact rfl); (case c4 => exact rfl); k_whole; intro L h₁ F N; (try dsimp only); (try k_fold)))
  k_with_none
  k_steps
  rename News _ _ _ _ => N9
  rename Fr _ _ _ _ => F9
  rename IntsAre _ (List.map _ _) => hI8
  rename _ < _ ∧ _ => hlt
  have h1 := N9 _ (.head _)
  have h2 := N9 _ (.tail _ (.head _))
  refine ret _ _ _ _ _ _ _ _ _ F9.keep h1.1 h1.2.2 h2.1 h2.2.2 (neN (by omega)) hI8 ?_ ?_
  · simp only [List.length_map, List.length_take]; omega
  · intro m hm
    obtain ⟨k, _, rfl⟩ := List.mem_map.mp hm
    rw [Int.fmod_eq_emod_of_nonneg _ (by decide)]
    exact ⟨Int.emod_nonneg _ (by decide), Int.emod_lt_of_pos _ (by decide)⟩
end Mine

end PartDeck
section PartCellLoop
set_option maxRecDepth 100000
open PySem PySem.W PySem.Calls PyProof.Rows PyProof.V PySem.Spec
set_option linter.unusedVariables false
namespace Mine
/-- a def with cells is entered -/
theorem enterC {prog : Program} {w : World} {dp un : Nat} {fr : Option (List Env)} {gd : Option (List Code)} {s : Shared} {K : Frag} {lo : List Str} {mean : ExcName → Option Value} {mg mb : Str → Option Value} {p : Program}
    {R : Result → Shared → Prop} {name qual : Str} {params : Arguments} {body : List Stmt} {scope : Scope} {dV kV doc pm cdv ct oc : Value} {an od : Option Addr} {osl : Array (Option Value)} {f : Addr} {args : Args} {binds : List (Str × Value)}
    (X : K.In s.heap) (T : Top p lo mean mg mb s.heap) (hroom : dp < recursionLimit)
    (ho : K.lookup f = some ⟨oc, od, .func (fnOf name qual params body scope dV kV doc pm an cdv ct), osl⟩) (hcd : codeIn K cdv qual = true)
    (hbind : BindsTo s (fnOf name qual params body scope dV kV doc pm an cdv ct) args binds)
    (hkind : (binds.all fun y => scope.names.lookup y.1 == some .local || scope.names.lookup y.1 == some .cell) = true)
    (hnd : ((cellsFrom 0 scope.names []).map (·.1)).Nodup)
    (h : ∀ L h₁ tk cells, Fr s.heap L h₁ (bindL (envOfC qual scope L f cdv).kindOf binds fun _ => none) → News s.heap L h₁ cells →
      CellsAre (bindC (envOfC qual scope L f cdv).kindOf binds fun _ => none) (cellsFrom (L + 1) scope.names []) cells →
      wpAny (model prog w) (Ar (dp + 1) (un + 3) (fr.map (envOfC qual scope L f cdv :: ·)) gd) (execs body (envOfC qual scope L f cdv))
        (fun fl s' => R (.ok (.ret (match fl with | .ret v => v | _ => .none))) s') (fun _ _ => False)
        { s with heap := h₁, toks := tk })
    (hco : scope.isCoroutine = false := by rfl) (hgen : scope.isGenerator = false := by rfl) (hk : scope.kind = .function := by rfl) : codeAny (model prog w) (Ar dp un fr gd) (.call (.ref f) args) R s := by
  refine codeAny_call_function (fd := fnX name qual params body scope [] dV kV doc pm an cdv ct) hroom (X _ _ ho) rfl hco hgen rfl (codeRec_of X hcd) (hbind _ _ _ _ ?_)
  refine wpAny_newFunctionEnv_cells hk (kindsX hkind _) fun env' he s' x => ?_
  subst he
  refine ⟨T.nolimit.keeps x.toInCall.keep, codeAny_func ?_⟩
  obtain ⟨h₁, tk, rfl, _⟩ := x.done
  have hk₁ := x.toInCall.keep
  obtain ⟨cells, NC, Y⟩ := Cl.news (h₀ := s.heap) (Nat.le_refl _) fun n c hm => ⟨x.cell n c (lookup_of_mem_nodup (cellsFrom_names scope.names 0 (s.heap.objs.size + 1) [] [] rfl ▸ hnd) hm), x.above n c hm⟩
  have := h s.heap.objs.size h₁ tk cells ⟨x.toInCall.ns, hk₁, Nat.le_refl _⟩ NC Y
  refine wpAny_mono ?_ (fun _ _ x => x) (fun _ _ x => False.elim x)
  exact this

def MK {σ : Type} (led : Nat → σ → List (Addr × Obj)) (ps : Nat → σ → List (Str × Value)) (stored : List Str) (P : Nat → σ → Prop) (m₀ : Str → Option Value) (i : Nat) (m : Str → Option Value) (nx : List (Addr × Obj)) : Prop :=
  ∃ c : σ, nx = led i c ∧ (∀ p ∈ ps i c, m p.1 = some p.2) ∧ (∀ z, (∀ p ∈ ps i c, z ≠ p.1) → stored.contains z = false → m z = m₀ z) ∧ P i c

section
variable {prog : Program} {w : World} {A : Around} {E : Value → Shared → Prop} {s : Shared} {env : Env} {h₀ : Heap} {body : List Stmt} {Q : Flow → Shared → Prop}
theorem letGo_name {M : Model} {x : Str} {px : Pos} {it v : Value} {Q : Unit → Shared → Prop} {s : Shared} (h : Q () s) : wpAny M A (letOwnedTupleGo (.Name x px) it v) Q E s := by
  unfold letOwnedTupleGo
  exact wpAny_pure h
/-- for x in range(..), x a cell -/
theorem m_rangeC {σ : Type} {x : Str} {px : Pos} {r : Addr} {a₀ b₀ d₀ : Int} {t₀ u₀ v₀ : Tok} {n : Nat} {m₀ : Str → Option Value}
    (led : Nat → σ → List (Addr × Obj)) (ps : Nat → σ → List (Str × Value)) (stored : List Str) (P : Nat → σ → Prop) (c₀ : σ)
    (hh : A.handled = none) (hr : IsRange s.heap r a₀ b₀ d₀ t₀ u₀ v₀) (hsmall : Builtin.Range.small a₀ b₀ d₀ = true) (hn : Builtin.Range.rangeSize a₀ b₀ d₀ = (n : Int))
    (F : Fr h₀ env.locals s.heap m₀) (N : News h₀ env.locals s.heap (led 0 c₀)) (hadr : ∀ i c, P i c → (led i c).map (·.1) = (led 0 c₀).map (·.1)) (hk : ∀ p ∈ ps 0 c₀, m₀ p.1 = some p.2) (hp : P 0 c₀)
    (turn : ∀ i t c (u9 : Str → Option Value) (s₁ : Shared) own, i < n → OwnOff own ((led 0 c₀).map (·.1)) → P i c →
      Fr h₀ env.locals s₁.heap (kstB (fun z => if stored.contains z then u9 z else m₀ z) (ps i c)) → News h₀ env.locals s₁.heap (led i c ++ own) →
      wpAny (model prog w) A (assign (.Name x px) env (.int (a₀ + (i : Int) * d₀) t)) (fun _ s₃ => wpAny (model prog w) A (execs body env) (fun f s' => match f with | .next => InvEndN h₀ env.locals (MK led ps stored P m₀ (i + 1)) own ((led 0 c₀).map (·.1)) s₁ s' | _ => False) E s₃) E s₁)
    (done : ∀ c (u9 : Str → Option Value) h tk, P n c → Fr h₀ env.locals h (kstB (fun z => if stored.contains z then u9 z else m₀ z) (ps n c)) → News h₀ env.locals h (led n c) → Q .next { s with heap := h, toks := tk }) :
    wpAny (model prog w) A (pyIter (.ref r)) (fun it s₂ => LoopAtT prog w A h₀ env (.Name x px) body Q E it s₂) E s := by
  refine wpAny_pyIter_range hr hsmall ?_
  have W := Walks.range (prog := prog) (w := w) hh s.heap.objs.size a₀ d₀ n
  refine ⟨_, _, _, n, _, _, m₀, led 0 c₀, MK led ps stored P m₀, rfl, W, ?_, ?_, ?_, (by show IsRangeIter _ _ _ _ _; rw [hn]; simpa using Heap.get?_push_size _ rfl), F.push _, (fun p hp => ⟨Heap.get?_push_of_some _ (N p hp).1, (N p hp).2⟩),
    (fun i s' v Q' st hQ' => letGo_name hQ'), ⟨c₀, rfl, hk, fun _ _ _ => rfl, hp⟩, ?_, ?_⟩
  · intro hm
    exact absurd F.ns.lt ((List.mem_singleton.mp hm) ▸ Nat.lt_irrefl _)
  · intro b hb
    rw [List.mem_singleton.mp hb]
    exact next_is_new F
  · intro p hp hI
    exact absurd (Heap.lt_size (N p hp).1) ((List.mem_singleton.mp hI) ▸ Nat.lt_irrefl _)
  · rintro i v m₁ nx s₁ own hi ⟨t, rfl⟩ ⟨c, rfl, h1, h2, hpc⟩ hnw hsub hget hall hst F₁ N₁
    have N₆ : News h₀ env.locals s₁.heap (led i c ++ own) := fun p hp => N₁ p ((List.mem_append.mp hp).elim (fun h => List.mem_append.mpr (.inr h)) fun h => List.mem_append.mpr (.inl h))
    have hsep : OwnOff own ((led 0 c₀).map (·.1)) := by
      intro p hp b hb e
      rw [← hadr i c hpc] at hb
      obtain ⟨q, hq, rfl⟩ := List.mem_map.mp hb
      exact hnw q hq (e ▸ hsub p hp)
    refine wpAny_mono (turn i t c m₁ s₁ own hi hsep hpc (ksw_fr h1 h2 F₁) N₆) (fun _ s₂ h₂ => wpAny_mono h₂ (fun f s₃ p => ?_) fun _ _ e => e) fun _ _ e => e
    cases f with
    | ret v => exact p.elim
    | brk => exact p.elim
    | cont => exact p.elim
    | next =>
      obtain ⟨h', tk, m', news', nx, e, F', N', hn, ho, ha, hm'⟩ := p
      refine ⟨rfl, h', tk, m', nx, e, F', fun p hp => N' p ((List.mem_append.mp hp).elim (ho p) (hn p)), fun p hp hq => ?_, hm'⟩
      have h1 : p.1 ∈ nx.map (·.1) := List.mem_map.mpr ⟨p, hp, rfl⟩
      rw [ha, ← hadr i c hpc] at h1
      obtain ⟨q, hq1, hq2⟩ := List.mem_map.mp h1
      exact hnw q hq1 (by rw [hq2]; exact hq)
  · rintro h' tk m' nx F' N'' _ ⟨c, rfl, h1, h2, hpc⟩
    exact done c m' h' tk hpc (ksw_fr h1 h2 F') N''
theorem m_endC {σ : Type} {led : Nat → σ → List (Addr × Obj)} {ps : Nat → σ → List (Str × Value)} {stored : List Str} {P : Nat → σ → Prop} {m₀ : Str → Option Value} {i : Nat} {L : Addr} {m' : Str → Option Value} {own news' : List (Addr × Obj)} {adr : List Addr} {s₁ : Shared} {h' : Heap} {tk : Nat} (c : σ)
    (F : Fr h₀ L h' m') (N : News h₀ L h' news') (hn : ∀ p ∈ led i c, p ∈ news') (ho : ∀ p ∈ own, p ∈ news') (ha : (led i c).map (·.1) = adr)
    (h1 : ∀ p ∈ ps i c, m' p.1 = some p.2) (h2 : ∀ z, (∀ p ∈ ps i c, z ≠ p.1) → stored.contains z = false → m' z = m₀ z) (hp : P i c) :
    InvEndN h₀ L (MK led ps stored P m₀ i) own adr s₁ { s₁ with heap := h', toks := tk } := InvEndN.intro F N ⟨c, rfl, h1, h2, hp⟩ ha hn ho
end
end Mine

end PartCellLoop
section PartFew
open PySem PySem.W PySem.Calls PyProof.Rows
set_option linter.unusedVariables false
local macro_rules | `(tactic| walk_at "m_size") => `(tactic| first | omega | (simp only [List.length_append, List.length_cons, List.length_nil, List.length_take, List.length_drop]; omega))
local macro_rules | `(tactic| walk_at "call builtin:len") => `(tactic| (k_here; (with_reducible show wpAny _ _ (call (Value.builtin "len") [Value.bytes (List.toArray _) _]) _ _ _); (refine Mine.len_L (by walk_at "m_size") ?_); intro _ _))
local macro_rules | `(tactic| walk_at "subscriptTail") => `(tactic| (k_here; (with_reducible show wpAny _ _ (subscriptTail _ _ (Value.bytes (List.toArray _) _) (Value.int _ _)) _ _ _); (refine Mine.item_L (by walk_at "m_size") (by walk_at "m_size") (by walk_at "m_size") ?_); intro _ _))
local macro_rules | `(tactic| walk_at "binaryOp Add bytes bytes") => `(tactic| (k_here; (with_reducible show wpAny _ _ (binaryOp Operator.Add (Value.bytes (List.toArray _) _) (Value.bytes (List.toArray _) _)) _ _ _); (refine Mine.add_L (by walk_at "m_size") ?_); intro _ _))
local macro_rules | `(tactic| walk_at "compareOp Eq bytes bytes") => `(tactic| (k_here; (with_reducible show wpAny _ _ (compareOp CmpOp.Eq (Value.bytes (List.toArray _) _) (Value.bytes (List.toArray _) _)) _ _ _); (refine Mine.eq_L ?_)))
local macro_rules | `(tactic| walk_at "compareOp NotEq bytes bytes") => `(tactic| (k_here; (with_reducible show wpAny _ _ (compareOp CmpOp.NotEq (Value.bytes (List.toArray _) _) (Value.bytes (List.toArray _) _)) _ _ _); (refine Mine.ne_L ?_)))
-- what a contract asks at a call: the written part, the top, the room
local macro_rules | `(tactic| walk_at "m_cx") => `(tactic| first | assumption | exact Frag.In.keeps (by assumption) (Fr.keep (by assumption)) | exact Top.keeps (by assumption) (Fr.keep (by assumption)))
local macro_rules | `(tactic| walk_at "m_back") => `(tactic| (intro h9 tk9 t9 hk9; (with_reducible rename Fr _ _ _ _ => F8); (with_reducible rename News _ _ _ _ => N8); (have F9 := Fr.keeps F8 hk9); (have N9 := News.grown N8 hk9); clear F8 N8 hk9; (try dsimp only); (try k_fold)))
local macro_rules | `(tactic| walk_at "m_lenq") => `(tactic| first | exact Mine.BsAre.length (by assumption) | exact IntsAre.length (by assumption))
local macro_rules | `(tactic| walk_at "call builtin:len") => `(tactic| (k_here; (with_reducible show wpAny _ _ (call (Value.builtin "len") [Value.ref _]) _ _ _); (with_unfolding_all refine' Mine.len_V ?k1 ?k2 ?k3 ?_; (case k1 => is_list); (case k2 => walk_at "m_lenq"); (case k3 => walk_at "m_size"); k_whole); intro _ _))
local macro_rules | `(tactic| walk_at "subscriptTail") => `(tactic| (k_here; (with_reducible show wpAny _ _ (subscriptTail _ _ (Value.ref _) (Value.int _ _)) _ _ _); (with_unfolding_all refine' Mine.item_B ?k1 ?k2 ?k3 ?k4 ?k5 ?k6 ?_ ?k7; (case k1 => is_list); (case k2 => assumption); (case k3 => assumption); (case k4 => walk_at "m_size"); (case k5 => walk_at "m_size"); (case k6 => walk_at "m_size"); (case k7 => with_unfolding_all rfl); k_whole); intro _ hSmall9))
local macro_rules | `(tactic| walk_at "pyIter ref") => `(tactic| k_extra "MYLOOP")
local macro_rules | `(tactic| walk_at "InvEndN") => `(tactic| ((with_reducible show InvEndN _ _ (Mine.MJ _ _ _ _ _ _ _) _ _ _ _); refine Mine.hold_of ?_))
local macro_rules | `(tactic| walk_at "getMethod bytes") => `(tactic| (k_here; first | (with_reducible refine Mine.m_find ?_) | (with_reducible refine Mine.m_rstrip ?_) | (with_reducible refine Mine.m_join ?_)))
local macro_rules | `(tactic| walk_at "call builtin:bytes.join") => `(tactic| (k_here; (with_unfolding_all refine' Mine.join_L ?k1 ?k2 ?k3 ?_; (case k1 => is_list); (case k2 => assumption); (case k3 => first | assumption | walk_at "m_size"); k_whole); intro _ _))
local macro_rules | `(tactic| walk_at "call builtin:bytes.find") => `(tactic| (k_here; (with_reducible show wpAny _ _ (call (Value.builtin "bytes.find") [Value.bytes (List.toArray _) _, Value.bytes (List.toArray [_]) _, Value.int _ _]) _ _ _); (refine Mine.find_L (by walk_at "m_size") (by walk_at "m_size") ?_); intro _ _))
local macro_rules | `(tactic| walk_at "call builtin:bytes.rstrip") => `(tactic| (k_here; (with_reducible show wpAny _ _ (call (Value.builtin "bytes.rstrip") [Value.bytes (List.toArray _) _, Value.bytes (List.toArray _) _]) _ _ _); (refine Mine.rstrip_L (by walk_at "m_size") ?_); intro _ _ hStrip9))
local macro_rules | `(tactic| walk_at "m_pick") => `(tactic| first | exact Mine.pickL_last _ | exact Mine.pickL_init _ | exact Mine.pickL_to _ (by walk_at "m_size") | exact Mine.pickL_from _ (by walk_at "m_size") | exact Mine.pickL_of _ (by walk_at "m_size") (by walk_at "m_size"))
local macro_rules | `(tactic| walk_at "subscriptTail") => `(tactic| (k_here; (with_reducible show wpAny _ _ (subscriptTail _ (Expr.Slice _ _ none _) (Value.bytes (List.toArray _) _) (Value.ref _)) _ _ _); (with_reducible rename Fr _ _ _ _ => F'); (with_reducible rename News _ _ _ _ => N'); (refine Mine.slice_L (s := ⟨_, _, _, _, _⟩) F' N' (by constructor) (by constructor) (by walk_at "m_size") (by walk_at "m_pick") ?_); intro _ _ _ _ _))
local macro_rules | `(tactic| walk_at "exec For Name") => `(tactic| (k_here; (rename Fr _ _ _ _ => lF'); (with_unfolding_all refine' For_invVF lF' ?k1 ?k2 ?_; (case k1 => exact rfl); (case k2 => exact rfl); k_whole)))
local macro_rules | `(tactic| walk_at "exec While") => `(tactic| k_extra "MYWHILE")
local macro_rules | `(tactic| walk_at "exec While Compare cons nil") => `(tactic| k_extra "MYWHILE")
local macro_rules | `(tactic| walk_at "exec While Constant cons nil") => `(tactic| k_extra "MYWHILE")
local macro_rules | `(tactic| walk_at "KswEnd") => `(tactic| ((with_reducible show KswEnd _ _ _ _ _ _ _ _ _ _ _ _); refine Mine.hold_of ?_))
local macro_rules | `(tactic| walk_at "m_backL") => `(tactic| (intro h9 tk9 t9 hk9 hl9; (with_reducible rename Fr _ _ _ _ => F8); (with_reducible rename News _ _ _ _ => N8); (have F9 := Fr.keeps F8 hk9); (have N9 := News.grown N8 hk9); clear F8 N8 hk9; (try dsimp only); (try k_fold)))
local macro_rules | `(tactic| walk_at "call ref") => `(tactic| k_extra "MYCALL")
local macro_rules | `(tactic| walk_at "exec For Tuple Call cons nil") => `(tactic| (k_here; (rename Fr _ _ _ _ => lF'); (with_unfolding_all refine' For_invTF lF' ?_ ?k; (case k => (intro _; rfl)))))
local macro_rules | `(tactic| walk_at "execs cons Assign cons") => `(tactic| (with_reducible refine wpAny_execs_cons ?_))
local macro_rules | `(tactic| walk_at "execs cons Assign nil") => `(tactic| (with_reducible refine wpAny_execs_cons ?_))
local macro_rules | `(tactic| walk_at "execs cons Expr cons") => `(tactic| (with_reducible refine wpAny_execs_cons ?_))
local macro_rules | `(tactic| walk_at "execs cons Expr nil") => `(tactic| (with_reducible refine wpAny_execs_cons ?_))
local macro_rules | `(tactic| walk_at "execs cons If cons") => `(tactic| (with_reducible refine wpAny_execs_cons ?_))
local macro_rules | `(tactic| walk_at "execs cons If nil") => `(tactic| (with_reducible refine wpAny_execs_cons ?_))
local macro_rules | `(tactic| walk_at "execs cons For cons") => `(tactic| (with_reducible refine wpAny_execs_cons ?_))
local macro_rules | `(tactic| walk_at "execs cons For nil") => `(tactic| (with_reducible refine wpAny_execs_cons ?_))
local macro_rules | `(tactic| walk_at "execs cons While cons") => `(tactic| (with_reducible refine wpAny_execs_cons ?_))
local macro_rules | `(tactic| walk_at "execs cons While nil") => `(tactic| (with_reducible refine wpAny_execs_cons ?_))
local macro_rules | `(tactic| walk_at "execs cons Return cons") => `(tactic| (with_reducible refine wpAny_execs_cons ?_))
local macro_rules | `(tactic| walk_at "execs cons Return nil") => `(tactic| (with_reducible refine wpAny_execs_cons ?_))
local macro_rules | `(tactic| walk_at "InvEndN") => `(tactic| ((with_reducible show InvEndN _ _ (Mine.MK _ _ _ _ _ _) _ _ _ _); refine Mine.hold_of ?_))
local macro_rules | `(tactic| walk_at "exec For Name Call cons nil") => `(tactic| (k_here; (rename Fr _ _ _ _ => lF'); (with_unfolding_all refine' For_invTF lF' ?_ ?k; (case k => (intro _; rfl)))))
local macro_rules | `(tactic| walk_at "subscriptTail Name Slice ref ref") => `(tactic| k_extra "MYSLICE")
local macro_rules | `(tactic| walk_at "CompSrcT") => `(tactic| k_extra "MYCOMPT")
local macro_rules | `(tactic| walk_at "CompSrc") => `(tactic| k_extra "MYCOMP")
local macro_rules | `(tactic| walk_at "CompEnd") => `(tactic| ((refine' LCg.CompEnd.intro (by assumption) (by assumption) _ ?sub (by assumption) True.intro (kci_el ?e rfl rfl)); (case sub => kcf_all); (case e => (symm; refine if_pos ?_; assumption))))
local macro_rules | `(tactic| walk_at "CompEnd") => `(tactic| ((refine' LCg.CompEnd.intro (by assumption) (by assumption) _ ?sub (by assumption) True.intro (kci_no ?e rfl)); (case sub => kcf_all); (case e => (refine if_neg ?_; assumption))))
local macro_rules | `(tactic| walk_at "KCiEl") => `(tactic| ((with_reducible show KCiEl _ _ _ _ _); refine Mine.hold_of ?_))
local macro_rules | `(tactic| walk_at "KCiNo") => `(tactic| ((with_reducible show KCiNo _ _ _ _); refine Mine.hold_of ?_))
local macro_rules | `(tactic| walk_at "KCfEl") => `(tactic| ((with_reducible show KCfEl _ _ _ _); refine Mine.hold_of ?_))
local macro_rules | `(tactic| walk_at "m_none") => `(tactic| fail "none")
local macro_rules | `(tactic| walk_at "m_none") => `(tactic| fail "none")
local macro_rules | `(tactic| walk_at "m_none") => `(tactic| fail "none")
local macro_rules | `(tactic| walk_at "m_none") => `(tactic| fail "none")
local macro_rules | `(tactic| walk_at "m_none") => `(tactic| fail "none")
local macro_rules | `(tactic| walk_at "m_none") => `(tactic| fail "none")
local macro_rules | `(tactic| walk_at "m_none") => `(tactic| fail "none")
local macro_rules | `(tactic| walk_at "m_none") => `(tactic| fail "none")
local macro_rules | `(tactic| walk_at "m_none") => `(tactic| fail "none")
local macro_rules | `(tactic| walk_at "m_none") => `(tactic| fail "none")
local macro_rules | `(tactic| walk_at "m_none") => `(tactic| fail "none")
local macro_rules | `(tactic| walk_at "m_none") => `(tactic| fail "none")
local macro_rules | `(tactic| walk_at "m_none") => `(tactic| fail "none")
local macro_rules | `(tactic| walk_at "m_none") => `(tactic| fail "none")
local macro_rules | `(tactic| walk_at "m_none") => `(tactic| fail "none")
local macro_rules | `(tactic| walk_at "m_none") => `(tactic| fail "none")
local macro_rules | `(tactic| walk_at "m_none") => `(tactic| fail "none")
local macro_rules | `(tactic| walk_at "m_none") => `(tactic| fail "none")
local macro_rules | `(tactic| walk_at "m_none") => `(tactic| fail "none")
local macro_rules | `(tactic| walk_at "m_none") => `(tactic| fail "none")
local macro_rules | `(tactic| walk_at "m_none") => `(tactic| fail "none")
local macro_rules | `(tactic| walk_at "m_none") => `(tactic| fail "none")
local macro_rules | `(tactic| walk_at "m_none") => `(tactic| fail "none")
local macro_rules | `(tactic| walk_at "m_none") => `(tactic| fail "none")
local macro_rules | `(tactic| walk_at "m_none") => `(tactic| fail "none")
local macro_rules | `(tactic| walk_at "m_none") => `(tactic| fail "none")
local macro_rules | `(tactic| walk_at "m_none") => `(tactic| fail "none")
local macro_rules | `(tactic| walk_at "m_none") => `(tactic| fail "none")
local macro_rules | `(tactic| walk_at "m_none") => `(tactic| fail "none")
local macro_rules | `(tactic| walk_at "m_none") => `(tactic| fail "none")
local macro_rules | `(tactic| walk_at "m_none") => `(tactic| fail "none")
local macro_rules | `(tactic| walk_at "m_none") => `(tactic| fail "none")
local macro_rules | `(tactic| walk_at "m_none") => `(tactic| fail "none")
local macro_rules | `(tactic| walk_at "m_none") => `(tactic| fail "none")
local macro_rules | `(tactic| walk_at "m_none") => `(tactic| fail "none")
local macro_rules | `(tactic| walk_at "m_none") => `(tactic| fail "none")
local macro_rules | `(tactic| walk_at "m_none") => `(tactic| fail "none")
local macro_rules | `(tactic| walk_at "m_none") => `(tactic| fail "none")
local macro_rules | `(tactic| walk_at "m_none") => `(tactic| fail "none")
namespace Mine
def minL : List Int → Int
  | [] => 0
  | [x] => x
  | x :: y :: r => min x (minL (y :: r))
def endsOf (ns : List Int) (wd : Int) (b : Nat) : List Int :=
  (rangeKs ((b : Int) + 1) (ns.length - (b + 1))).filter fun e => decide (((ns.drop b).take (e.toNat - b)).sum ≤ wd - 1)
def stepF (ns : List Int) (wd : Int) (f : List Int) (b : Nat) : Int :=
  if (ns.drop b).sum ≤ wd then 1 else 1 + minL ((endsOf ns wd b).map fun e => f.getD e.toNat 0)
/-- _law_fewest, i turns -/
def fewSt (ns : List Int) (wd : Int) : Nat → List Int
  | 0 => List.replicate (ns.length + 1) 1
  | i + 1 => (fewSt ns wd i).set (ns.length - 1 - i) (stepF ns wd (fewSt ns wd i) (ns.length - 1 - i))
def fewL (ns : List Int) (wd : Int) : Int := (fewSt ns wd ns.length).getD 0 0
theorem fewSt_len (ns : List Int) (wd : Int) : ∀ i, (fewSt ns wd i).length = ns.length + 1
  | 0 => by simp [fewSt]
  | i + 1 => by unfold fewSt; rw [List.length_set]; exact fewSt_len ns wd i
theorem ints_rep (t : Tok) : ∀ k, IntsAre (List.replicate k [Value.int 1 t]).flatten (List.replicate k 1)
  | 0 => .nil
  | k + 1 => by
    rw [List.replicate_succ, List.replicate_succ, List.flatten_cons]
    exact .cons 1 t (ints_rep t k)

theorem ends_mem {ns : List Int} {wd : Int} {b : Nat} {k : Int} (h : k ∈ endsOf ns wd b) : (b : Int) + 1 ≤ k ∧ k < (ns.length : Int) ∧ ((ns.drop b).take (k.toNat - b)).sum ≤ wd - 1 := by
  unfold endsOf at h
  obtain ⟨h1, h2⟩ := List.mem_filter.mp h
  have h3 := mem_rangeKs h1
  have h4 : ((ns.drop b).take (k.toNat - b)).sum ≤ wd - 1 := of_decide_eq_true h2
  refine ⟨h3.1, ?_, h4⟩
  have := h3.2
  omega
theorem ends_mem' {ns : List Int} {wd : Int} {b e : Nat} (h1 : b < e) (h2 : e < ns.length) (h3 : ((ns.drop b).take (e - b)).sum ≤ wd - 1) : (e : Int) ∈ endsOf ns wd b := by
  unfold endsOf
  refine List.mem_filter.mpr ⟨?_, decide_eq_true (by simpa using h3)⟩
  unfold rangeKs
  refine List.mem_map.mpr ⟨e - (b + 1), List.mem_range.mpr (by omega), by omega⟩
theorem drop_cons {ns : List Int} {b : Nat} (h : b < ns.length) : ns.drop b = ns[b] :: ns.drop (b + 1) := List.drop_eq_getElem_cons h
theorem ends_ne {ns : List Int} {wd : Int} {b : Nat} (h : b < ns.length) (hb : ∀ n ∈ ns, 1 ≤ n ∧ n ≤ 3) (hw : 4 ≤ wd) (hs : ¬ (ns.drop b).sum ≤ wd) : 0 < (endsOf ns wd b).length := by
  have h1 := hb _ (List.getElem_mem h)
  rw [drop_cons h, List.sum_cons] at hs
  have h2 : b + 1 < ns.length := by
    rcases Nat.lt_or_ge (b + 1) ns.length with h | h2
    · exact h
    · rw [List.drop_eq_nil_of_le h2, List.sum_nil] at hs
      omega
  refine List.length_pos_of_mem (a := ((b + 1 : Nat) : Int)) (ends_mem' (by omega) h2 ?_)
  rw [drop_cons h, show b + 1 - b = 1 by omega, List.take_succ_cons, List.take_zero, List.sum_cons, List.sum_nil]
  omega
theorem ends_len (ns : List Int) (wd : Int) (b : Nat) : (endsOf ns wd b).length ≤ ns.length := by
  unfold endsOf
  refine Nat.le_trans (List.length_filter_le ..) ?_
  rw [rangeKs_length]
  omega
theorem fold_filter (q : Int → Prop) [DecidablePred q] : ∀ (ks l : List Int), ks.foldl (fun l k => if q k then l ++ [k] else l) l = l ++ ks.filter (fun k => decide (q k))
  | [], l => by simp
  | k :: ks, l => by
    rw [List.foldl_cons, fold_filter q ks]
    by_cases h : q k
    · simp [h]
    · simp [h]
theorem ends_fold {ns : List Int} {wd : Int} {b : Nat} (h : b < ns.length) : (rangeKs ((b : Int) + 1) ((ns.length : Int) - ((b : Int) + 1)).toNat).foldl (fun l k => if ((ns.drop b).take (k.toNat - b)).sum ≤ wd - 1 then l ++ [k] else l) [] = endsOf ns wd b := by
  rw [fold_filter (fun k => ((ns.drop b).take (k.toNat - b)).sum ≤ wd - 1), List.nil_append, endsOf, show ((ns.length : Int) - ((b : Int) + 1)).toNat = ns.length - (b + 1) by omega]
theorem min_eq : ∀ (l : List Int) {M : Int}, M ∈ l → (∀ a, a ∈ l → M ≤ a) → M = minL l
  | [], _, h, _ => nomatch h
  | [x], M, h, _ => by simpa [minL] using h
  | x :: y :: r, M, h, h2 => by
    unfold minL
    have hx := h2 x (.head _)
    have key : minL (y :: r) ∈ y :: r ∧ ∀ a ∈ y :: r, minL (y :: r) ≤ a := minL_is (y :: r) (by simp)
    have h3 := h2 _ (.tail _ key.1)
    rcases List.mem_cons.mp h with rfl | h
    · omega
    · have := key.2 M h
      omega
where
  minL_is : ∀ (l : List Int), l ≠ [] → minL l ∈ l ∧ ∀ a ∈ l, minL l ≤ a
  | [], h => absurd rfl h
  | [x], _ => by simp [minL]
  | x :: y :: r, _ => by
    have ih := minL_is (y :: r) (by simp)
    unfold minL
    refine ⟨?_, fun a ha => ?_⟩
    · rcases Int.le_total x (minL (y :: r)) with h | h
      · rw [Int.min_eq_left h]; exact .head _
      · rw [Int.min_eq_right h]; exact .tail _ ih.1
    · rcases List.mem_cons.mp ha with rfl | ha
      · exact Int.min_le_left ..
      · exact Int.le_trans (Int.min_le_right ..) (ih.2 a ha)

set_option maxRecDepth 100000 in
set_option maxHeartbeats 4000000 in
theorem few_spec : ∀ {w : World} {dp un : Nat} {fr : Option (List Env)} {gd : Option (List Code)} {s : Shared} {lo : List Str} {mean : ExcName → Option Value} {mg mb : Str → Option Value} {R : Result → Shared → Prop} {l : Addr} {vs : List Value} {ns : List Int} {wd : Int} {u : Tok}
    (X : (Mine.hd.heap_39 w.params).In s.heap) (T : Top Mine.hd.view_39 lo mean mg mb s.heap) (hroom : dp < 490) (hl : s.heap.IsList l vs.toArray) (hI : IntsAre vs ns) (hn : ns.length ≤ 50) (hb : ∀ n ∈ ns, 1 ≤ n ∧ n ≤ 3) (hw : 4 ≤ wd) (hw' : wd ≤ 50)
    (ret : ∀ h' tk t, Kept s.heap h' → R (.ok (.ret (.int (fewL ns wd) t))) { s with heap := h', toks := tk }),
    codeAny (model PySem.Challenge.rw_or0024_01.row.prog w) (Ar dp un fr gd) (.call (.ref 80) ⟨[.ref l, .int wd u], []⟩) R s := by
  w_top off
  k_fill
  intro w dp un fr gd s lo mean mg mb R l vs ns wd u X T hroom hl hI hn hb hw hw' ret
  k_dflt (refine' Mine.enterC (binds := [(Str.ofString "sizes", .ref l), (Str.ofString "width", .int wd u)]) X T ?k8 ?k6 ?k7 ?k9 ?kB ?kD ?_ ?c2 ?c3 ?c4; (case k6 => k_is); (case k7 => k_is); (case k8 => (show _ < 1000; omega)); (case k9 => exact BindsTo.of_eq rfl); (case kB => exact rfl); (case kD => decide +kernel); (case c2 => exact rfl); (case c3 => exact rfl); (case c4 => exact rfl); k_whole; intro L h₁ tk' cells' F N Y; (obtain ⟨oB0, oF0, oW, oS, hE', dB0, dF0, dW, dS⟩ := CellsAre.four Y); subst hE'; clear Y; (try simp only [List.cons_append, List.nil_append] at N); (try dsimp only))
  try k_unmd
  k_fold
  k_with_none
  k_with "MYLOOP" =>
    rename Fr _ _ _ _ => lF'
    rename News _ _ _ _ => lN'
    rename IsRange _ _ _ _ _ _ _ _ => rgX
    rename_i D hA1 hi1 n1 hS1 hE1 hE2 hE3 hL1 hA2 oF hF0 hN0 dF t9 k9 hA3 tk9 t1 u1 v1 hkeep
    with_unfolding_all refine' m_rangeC (σ := List Value × Nat × Obj) (n := ns.length) (fun i c => [(D, listOf c.1.toArray c.2.1), (L + 1 + 1 + 1 + 1, c.2.2), (L + 1 + 1 + 1, oF), (L + 1 + 1, oW), (L + 1, oS)]) (fun i c => []) [Str.ofString "ends"] (fun i c => IntsAre c.1 (fewSt ns wd i) ∧ ∃ v0, c.2.2.data = .cell v0) ((List.replicate ((ns.length : Int) + 1).toNat [Value.int 1 _]).flatten, _, oB0) rfl rgX ?k1 ?k2 lF' ?kN (fun _ _ _ => rfl) ?k3 ?k4 ?kt ?kd
    case kN =>
      intro p hp
      refine lN' p ?_
      rcases List.mem_cons.mp hp with rfl | hp
      · exact .head _
      · exact .tail _ (.tail _ hp)
    case k1 => exact small_down (by omega) (by omega) (by omega) (by omega)
    case k2 => rw [rangeSize_downNat]; omega
    case k3 => kst_all
    case k4 =>
      have e : fewSt ns wd 0 = List.replicate ((ns.length : Int) + 1).toNat 1 := by
        have : ((ns.length : Int) + 1).toNat = ns.length + 1 := by omega
        rw [this]; rfl
      exact ⟨e ▸ ints_rep _ _, _, dB0⟩
    all_goals clear lF' lN' hF0 hN0
    case' kt =>
      intro i t c u9 s1 own hi hoff hP F' N'
      obtain ⟨h, g1, d1, tk, os1⟩ := s1
      obtain ⟨ws, n, oB⟩ := c
      dsimp only [List.map, kstB] at F' N' hP hoff
      obtain ⟨hW, vB, dB⟩ := hP
      simp only [List.cons_append, List.nil_append] at N'
      have hbl := hW.length
      have hfl := fewSt_len ns wd i
      obtain ⟨b, hbi⟩ : ∃ b : Nat, b = ns.length - 1 - i := ⟨_, rfl⟩
      have hbe : ((ns.length : Int) - 1 + (i : Int) * -1) = (b : Int) := by omega
      have hbn : b < ns.length := by omega
      rw [hbe]
    case' kd =>
      intro c u9 h tk hP F' N'
      obtain ⟨ws, n, oB⟩ := c
      dsimp only [kstB] at F' N' hP
      obtain ⟨hW, vB, dB⟩ := hP
      have hbl := hW.length
      have hfl := fewSt_len ns wd ns.length
    all_goals (try k_fold)
  k_with "MYSLICE" =>
    k_here
    rename Fr _ _ _ _ => sF'
    rename News _ _ _ _ => sN'
    first
    | (k_dflt (refine' kmk_slice_ints sF' sN' (Fr.lst sF' hl) (IsPart.int _ _) IsPart.none hI (kmk_from hI ?h1) (List.length_drop ..) ?_ ?s ?t ?z; (case h1 => omega); (case s => with_unfolding_all rfl); (case t => kmk_pure); (case z => (rw [List.size_toArray, hI.length, sizeLine_eq]; omega))); intro D' ws' h' F' N' l1 hI' hC' hL'; (try k_lt l1))
    | (k_dflt (refine' kmk_slice_ints sF' sN' (Fr.lst sF' hl) (IsPart.int _ _) (IsPart.int _ _) hI (kmk_run hI ?h1 ?h2) rfl ?_ ?s ?t ?z; (case h1 => omega); (case h2 => omega); (case s => with_unfolding_all rfl); (case t => kmk_pure); (case z => (rw [List.size_toArray, hI.length, sizeLine_eq]; omega))); intro D' ws' h' F' N' l1 hI' hC' hL'; (try k_lt l1); (try simp only [Int.toNat_natCast] at hI' hC' hL'))
  k_with "MYCOMPT" =>
    k_here
    rename IsRange _ _ _ _ _ _ _ _ => rgY
    rename Fr _ _ _ _ => sF'
    rename News _ _ _ _ => sN'
    k_dflt (refine LCt.CompSrcT.range (by rfl) sF' sN' rgY (small_one (by omega) (by omega) (by omega) (by omega)) (rangeSize_nat _ _) (by rw [sizeLine_eq]; omega) ?_)
    intro g'
    refine' kci_range (fun l k => if ((ns.drop b).take (k.toNat - b)).sum ≤ wd - 1 then l ++ [k] else l) (fun k' t' I' oI' C' oC' D' m' ys' l' h' tk' E' hlo' hhi' hI' hC' hx' F' N' off' ne' => ?kturn) ?kfin ?hg
    case' kturn =>
      have off9 := off'
      simp only [LCg.Off3] at off'
      intro hMark'
    case hg =>
      intro l k
      dsimp only
      split
      · simp
      · omega
    case' kfin =>
      unfold KPfDone
      intro ys hY hYl
      have hYn : ¬ (ns.drop b).sum ≤ wd := by assumption
      have hEne := ends_ne hbn hb hw hYn
      have hEm := fun k => ends_mem (ns := ns) (wd := wd) (b := b) (k := k)
      replace hY : IntsAre ys (endsOf ns wd b) := by
        rw [← ends_fold hbn]
        exact hY
      have hEl := ends_len ns wd b
    all_goals (try k_fold)
  k_with "MYCOMP" =>
    k_here
    rename Fr _ _ _ _ => sF'
    rename News _ _ _ _ => sN'
    k_dflt (refine LCg.CompSrc.ledger (by rfl) sF' sN' (by k_mem) (by (rw [sizeLine_eq, List.size_toArray, IntsAre.length (by assumption)]; omega)) ?_)
    intro g'
    refine' kcf_list (fun e => (fewSt ns wd i).getD e.toNat 0) (by assumption) (fun k' t' I' oI' C' oC' D' m' ys' h' tk' E' hk' hC' hx' F' N' off' ne' hMark' => ?kturn2) ?kfin2
    case' kturn2 =>
      simp only [LCg.Off3, and_true] at off'
      have hkb := hEm k' hk'
    all_goals (try k_fold)
  k_steps
  · rename News _ _ _ _ => N9
    rename Fr _ _ _ _ => F9
    exact ret _ _ _ F9.keep
  · rename News _ _ _ _ => N9
    rename Fr _ _ _ _ => F9
    rename IntsAre _ ((fewSt ns wd i).set _ _) => hi9
    have hcond : (ns.drop b).sum ≤ wd := by assumption
    have e : fewSt ns wd (i + 1) = (fewSt ns wd i).set b 1 := by rw [fewSt, ← hbi, stepF, if_pos hcond]
    refine' m_endC ⟨_, _, _⟩ F9 N9 ?hn ?ho ?ha ?h1 ?h2 ?hp
    case hn => kst_in
    case ho => (intro p hp; kst_mem)
    case ha => rfl
    case h1 => (intro q hq; nomatch hq)
    case h2 => (intro z h1 h2; exact if_neg (by rw [h2]; exact Bool.false_ne_true))
    case hp => exact ⟨e ▸ hi9, _, by assumption⟩
  · exact kcf_el rfl rfl rfl
  · rename News _ _ _ _ => N9
    rename Fr _ _ _ _ => F9
    rename IntsAre _ ((fewSt ns wd i).set _ _) => hi9
    rename _ ∈ List.map _ _ => hm1
    rename ∀ a, a ∈ List.map _ _ → _ ≤ a => hm2
    have e : fewSt ns wd (i + 1) = (fewSt ns wd i).set b (1 + minL ((endsOf ns wd b).map fun e => (fewSt ns wd i).getD e.toNat 0)) := by rw [fewSt, ← hbi, stepF, if_neg hYn]
    rw [← min_eq _ hm1 hm2] at e
    refine' m_endC ⟨_, _, _⟩ F9 N9 ?hn ?ho ?ha ?h1 ?h2 ?hp
    case hn => kst_in
    case ho => (intro p hp; kst_mem)
    case ha => rfl
    case h1 => (intro q hq; nomatch hq)
    case h2 =>
      intro z h1 h2
      have hz : z ≠ Str.ofString "ends" := by intro e; rw [e] at h2; exact absurd h2 (by decide)
      exact (if_neg hz).trans (if_neg (by rw [h2]; exact Bool.false_ne_true))
    case hp => exact ⟨e ▸ hi9, _, by assumption⟩
  · rename _ ≤ wd - 1 => hc9
    have e : min k'.toNat ns.length = k'.toNat := by omega
    rw [e] at hc9
    refine' LCg.CompEnd.intro (by assumption) (by assumption) _ ?sub off9 True.intro (kci_el ?e rfl rfl)
    case sub => kcf_all
    case e => exact if_pos hc9
  · rename ¬ (_ ≤ wd - 1) => hc9
    have e : min k'.toNat ns.length = k'.toNat := by omega
    rw [e] at hc9
    refine' LCg.CompEnd.intro (by assumption) (by assumption) _ ?sub off9 True.intro (kci_no ?e rfl)
    case sub => kcf_all
    case e => exact if_neg hc9
end Mine

end PartFew
section PartLawMath
open PySem PySem.W PySem.Calls PyProof.Rows
namespace Mine
def hx (n : Nat) : UInt8 := [48, 49, 50, 51, 52, 53, 54, 55, 56, 57, 65, 66, 67, 68, 69, 70].getD n 0
/-- a piece: quoted or a sign of its own -/
def encP (q : Bool × Nat) : List UInt8 := if q.1 then [61, hx (q.2 / 16), hx (q.2 % 16)] else [UInt8.ofNat q.2]
def encK (q : Bool × Nat) : Int := (q.2 : Int)
def OkP (q : Bool × Nat) : Prop := q.2 < 256 ∧ (q.1 = false → 97 ≤ q.2 ∧ q.2 ≤ 122)
theorem fd16 {v : Int} (h0 : 0 ≤ v) (h1 : v < 256) : 0 ≤ v.fdiv 16 ∧ v.fdiv 16 < 16 ∧ 0 ≤ v.fmod 16 ∧ v.fmod 16 < 16 := by
  rw [Int.fdiv_eq_ediv_of_nonneg _ (by decide), Int.fmod_eq_emod_of_nonneg _ (by decide)]
  omega
structure BS where
  wp : List Value
  np : Nat
  wc : List Value
  nc : Nat
  sp : Int
  t : Tok
  n : Nat
  ps : List (Bool × Nat)
end Mine
namespace Mine
section
variable {prog : Program} {w : World} {A : Around} {E : Value → Shared → Prop} {s : Shared} {h₀ : Heap} {L : Addr} {m : Str → Option Value} {news : List (Addr × Obj)}
theorem bytes_two {l : Addr} {a b : UInt8} {t u : Tok} {Q : Value → Shared → Prop} (F : Fr h₀ L s.heap m) (N : News h₀ L s.heap news) (hl : s.heap.IsList l [Value.int ((a.toNat : Nat) : Int) t, Value.int ((b.toNat : Nat) : Int) u].toArray) (hh : A.handled = none)
    (h : ∀ h' t k, Fr h₀ L h' m → News h₀ L h' news → Q (.bytes [a, b].toArray t) { s with heap := h', toks := k }) : wpAny (model prog w) A (call (.type "bytes") [.ref l]) Q E s := by
  have ha := a.toNat_lt
  have hb := b.toNat_lt
  refine bytes_K F N hl (.cons _ _ (.cons _ _ .nil)) (fun n hn => ?_) (by rw [sizeLine_eq]; exact (by decide : 2 ≤ 16777216)) hh fun h' t k F' N' _ => ?_
  · rcases List.mem_cons.mp hn with rfl | hn
    · omega
    · rw [List.mem_singleton.mp hn]; omega
  · have := h h' t k F' N'
    simpa using this
end
end Mine
namespace Mine
theorem encP_len (q : Bool × Nat) : 1 ≤ (encP q).length ∧ (encP q).length ≤ 3 := by
  unfold encP
  split <;> simp
theorem small_enc (qs : List (Bool × Nat)) : Small (qs.map encP) := by
  intro x hx
  obtain ⟨q, _, rfl⟩ := List.mem_map.mp hx
  have := (encP_len q).2
  omega
theorem encQ {v : Int} (h0 : 0 ≤ v) (h1 : v < 256) : encP (true, v.toNat) = [61, [48, 49, 50, 51, 52, 53, 54, 55, 56, 57, 65, 66, 67, 68, 69, 70].getD (v.fdiv 16).toNat 0, [48, 49, 50, 51, 52, 53, 54, 55, 56, 57, 65, 66, 67, 68, 69, 70].getD (v.fmod 16).toNat 0] := by
  have e1 : (v.fdiv 16).toNat = v.toNat / 16 := by rw [Int.fdiv_eq_ediv_of_nonneg _ (by decide)]; omega
  have e2 : (v.fmod 16).toNat = v.toNat % 16 := by rw [Int.fmod_eq_emod_of_nonneg _ (by decide)]; omega
  rw [e1, e2]
  rfl
theorem okQ {v : Int} (h0 : 0 ≤ v) (h1 : v < 256) : OkP (true, v.toNat) := ⟨by show v.toNat < 256; omega, fun h => Bool.noConfusion h⟩
theorem okA {v : Int} (h0 : 0 ≤ v) (h1 : v < 26) : OkP (false, (97 + v).toNat) := ⟨by show (97 + v).toNat < 256; omega, fun _ => by show 97 ≤ (97 + v).toNat ∧ (97 + v).toNat ≤ 122; omega⟩
end Mine
namespace Mine
theorem enc_sizes (qs : List (Bool × Nat)) : ∀ n ∈ (qs.map encP).map (fun x => (x.length : Int)), 1 ≤ n ∧ n ≤ 3 := by
  intro n hn
  obtain ⟨x, hx, rfl⟩ := List.mem_map.mp hn
  obtain ⟨q, _, rfl⟩ := List.mem_map.mp hx
  have := encP_len q
  omega
theorem flat_le {n : Nat} : ∀ {xs : List (List UInt8)}, (∀ x ∈ xs, x.length ≤ n) → xs.flatten.length ≤ xs.length * n
  | [], _ => by simp
  | x :: xs, h => by
    have h1 := flat_le fun y hy => h y (.tail _ hy)
    have h2 := h x (.head _)
    simp only [List.flatten_cons, List.length_append, List.length_cons, Nat.add_mul, Nat.one_mul]
    omega
theorem enc_flat (qs : List (Bool × Nat)) (h : qs.length ≤ 12) : ((qs.map encP).flatten).length ≤ 1000000 := by
  have h1 := flat_le (n := 200) (small_enc qs)
  rw [List.length_map] at h1
  have h2 : qs.length * 200 ≤ 12 * 200 := Nat.mul_le_mul_right _ h
  omega
theorem enc_ok {qs : List (Bool × Nat)} (h : ∀ q ∈ qs, OkP q) : ∀ n ∈ qs.map encK, 0 ≤ n ∧ n < 256 := by
  intro n hn
  obtain ⟨q, hq, rfl⟩ := List.mem_map.mp hn
  have := (h q hq).1
  unfold encK
  omega
end Mine

end PartLawMath
section PartCompB
set_option maxRecDepth 100000
open PySem PySem.W PySem.Calls PyProof.Rows PyProof.V PySem.Spec
set_option linter.unusedVariables false
namespace Mine
theorem pickL_neg1 (x : List UInt8) : pickL x none (some (-1)) = x.take (x.length - 1) := by
  unfold pickL
  have e : clipAt x.length (-1) = x.length - 1 := clipAt_neg x.length 1 (Nat.le_refl _)
  simp only [Option.elim, e, List.drop_zero, Nat.sub_zero]
theorem BsAre.take : ∀ {vs : List Value} {xs : List (List UInt8)}, BsAre vs xs → ∀ k, BsAre (vs.take k) (xs.take k)
  | _, _, .nil, k => by rw [List.take_nil, List.take_nil]; exact .nil
  | _, _, .cons x t r, 0 => .nil
  | _, _, .cons x t r, k + 1 => .cons x t (r.take k)
theorem BsAre.drop : ∀ {vs : List Value} {xs : List (List UInt8)}, BsAre vs xs → ∀ k, BsAre (vs.drop k) (xs.drop k)
  | _, _, .nil, k => by rw [List.drop_nil, List.drop_nil]; exact .nil
  | _, _, .cons x t r, 0 => .cons x t r
  | _, _, .cons x t r, k + 1 => r.drop k
theorem BsAre.at' : ∀ {vs : List Value} {xs : List (List UInt8)}, BsAre vs xs → ∀ {k : Nat} {v : Value}, vs[k]? = some v → ∃ x t, xs[k]? = some x ∧ v = .bytes x.toArray t
  | _, _, .nil, k, v, h => by simp at h
  | _, _, .cons x t r, 0, v, h => ⟨x, t, rfl, (Option.some.inj h).symm⟩
  | _, _, .cons x t r, k + 1, v, h => r.at' (by simpa using h)
/-- what a comprehension over a list of bytes gives, item by item -/
inductive R2 (R : List UInt8 → Value → Prop) : List (List UInt8) → List Value → Prop
  | nil : R2 R [] []
  | cons {xs : List (List UInt8)} {vs : List Value} {x : List UInt8} {v : Value} : R x v → R2 R xs vs → R2 R (x :: xs) (v :: vs)
theorem R2.snoc {R : List UInt8 → Value → Prop} : ∀ {xs : List (List UInt8)} {vs : List Value}, R2 R xs vs → ∀ {x : List UInt8} {v : Value}, R x v → R2 R (xs ++ [x]) (vs ++ [v])
  | _, _, .nil, _, _, h => .cons h .nil
  | _, _, .cons h r, _, _, k => .cons h (r.snoc k)
theorem R2.ints {g : List UInt8 → Int} : ∀ {xs : List (List UInt8)} {vs : List Value}, R2 (fun x y => ∃ t, y = .int (g x) t) xs vs → IntsAre vs (xs.map g)
  | _, _, .nil => .nil
  | _, _, .cons ⟨t, e⟩ r => by subst e; exact .cons _ _ r.ints
theorem R2.bs {g : List UInt8 → List UInt8} : ∀ {xs : List (List UInt8)} {vs : List Value}, R2 (fun x y => ∃ t, y = .bytes (g x).toArray t) xs vs → BsAre vs (xs.map g)
  | _, _, .nil => .nil
  | _, _, .cons ⟨t, e⟩ r => by subst e; exact .cons _ _ r.bs
def BEl (news : List (Addr × Obj)) (R : Value → Prop) (y : Value) (news' : List (Addr × Obj)) : Prop := news' = news ∧ R y
section
variable {prog : Program} {w : World} {A : Around} {h₀ : Heap} {L : Addr} {m : Str → Option Value} {env : Env} {ct elt : Expr} {x : Str} {scope : Scope} {cl : List (Str × Addr)} {s : Shared} {S : List (Addr × Obj) → Prop} {Fin : List Value → List (Addr × Obj) → Prop} {news : List (Addr × Obj)}
theorem b_list {vs : List Value} {xs : List (List UInt8)} (R : List UInt8 → Value → Prop) (hb : BsAre vs xs)
    (turn : ∀ z t I oI C oC D m₂ ys h tk (E' : Value → Shared → Prop), z ∈ xs → LCg.NsObj oC m₂ → m₂ x = some (.bytes z.toArray t) → Fr h₀ L h m → News h₀ L h ((I, oI) :: (C, oC) :: (D, LCg.lst ys) :: news) → LCg.Off3 I C D news → ((@Ne Nat I C) ∧ (@Ne Nat I D) ∧ (@Ne Nat C D)) →
      wpAny (model prog w) A (eval elt (compEnvC scope cl C env)) (LCg.CompEnd h₀ L m { s with heap := h, toks := tk } I oI C oC D (LCg.lst ys) S (fun y news' => BEl news (R z) y news')) E' { s with heap := h, toks := tk })
    (fin : ∀ ys, R2 R xs ys → Fin ys news) : LCg.CompRest prog w A h₀ L m env elt x scope cl s S (fun i v => vs.toArray[i]? = some v) Fin vs.toArray.size 0 [] news := by
  have key : ∀ (j i : Nat) (ys : List Value), i + j = xs.length → R2 R (xs.take i) ys → LCg.CompRest prog w A h₀ L m env elt x scope cl s S (fun i v => vs.toArray[i]? = some v) Fin j i ys news := by
    intro j
    induction j with
    | zero =>
      intro i ys hi hy
      have e : i = xs.length := by omega
      subst e
      rw [List.take_length] at hy
      exact LCg.CompRest.zero (fin ys hy)
    | succ j ih =>
      intro i ys hi hy
      refine LCg.CompRest.succ ?_
      intro v I oI C oC D m₂ h tk E' hv hC hx F N off ne
      obtain ⟨k, t, hk, hv'⟩ := hb.at' (k := i) (v := v) (by simpa using hv)
      rw [hv'] at hx
      refine wpAny_mono (turn k t I oI C oC D m₂ ys h tk E' (List.mem_of_getElem? hk) hC hx F N off ne) (fun y s₂ hq => ?_) fun _ _ e => e
      obtain ⟨h', tk', nw, e, F', N', off', hS, hn, hy'⟩ := hq
      rw [hn] at N' off' hS
      refine ⟨h', tk', news, e, F', N', off', hS, ih (i + 1) _ (by omega) ?_⟩
      rw [List.take_add_one, hk]
      exact hy.snoc hy'
  have := key xs.length 0 [] (by omega) (by rw [List.take_zero]; exact .nil)
  rw [← hb.length] at this
  simpa using this
/-- a filter that no item passes -/
theorem b_none {vs : List Value} {xs : List (List UInt8)} (hb : BsAre vs xs)
    (turn : ∀ z t I oI C oC D m₂ h tk (E' : Value → Shared → Prop), z ∈ xs → LCg.NsObj oC m₂ → m₂ x = some (.bytes z.toArray t) → Fr h₀ L h m → News h₀ L h ((I, oI) :: (C, oC) :: (D, LCg.lst []) :: news) → LCg.Off3 I C D news → ((@Ne Nat I C) ∧ (@Ne Nat I D) ∧ (@Ne Nat C D)) →
      wpAny (model prog w) A (isTrue ct (compEnvC scope cl C env) (eval ct (compEnvC scope cl C env))) (fun b s' => if b = true then wpAny (model prog w) A (eval elt (compEnvC scope cl C env)) (LCg.CompEnd h₀ L m { s with heap := h, toks := tk } I oI C oC D (LCg.lst []) S (fun y news' => BEl news (fun _ => False) y news')) E' s'
        else LCg.CompEnd h₀ L m { s with heap := h, toks := tk } I oI C oC D (LCg.lst []) S (fun y news' => BEl news (fun _ => True) y news') Value.none s') E' { s with heap := h, toks := tk })
    (fin : Fin [] news) : LCt.CompRestT prog w A h₀ L m env ct elt x scope cl s S (fun i v => vs.toArray[i]? = some v) Fin vs.toArray.size 0 [] news := by
  have key : ∀ (j i : Nat), i + j = xs.length → LCt.CompRestT prog w A h₀ L m env ct elt x scope cl s S (fun i v => vs.toArray[i]? = some v) Fin j i [] news := by
    intro j
    induction j with
    | zero => exact fun i hi => LCt.CompRestT.zero fin
    | succ j ih =>
      intro i hi
      refine LCt.CompRestT.succ ?_
      intro v I oI C oC D m₂ h tk E' hv hC hx F N off ne
      obtain ⟨k, t, hk, hv'⟩ := hb.at' (k := i) (v := v) (by simpa using hv)
      rw [hv'] at hx
      refine wpAny_mono (turn k t I oI C oC D m₂ h tk E' (List.mem_of_getElem? hk) hC hx F N off ne) (fun b s₂ hq => ?_) fun _ _ e => e
      cases b with
      | true =>
        simp only [if_true] at hq ⊢
        refine wpAny_mono hq (fun y s₃ hr => ?_) fun _ _ e => e
        obtain ⟨h', tk', nw, e, F', N', off', hS, hn, hf⟩ := hr
        exact hf.elim
      | false =>
        simp only [Bool.false_eq_true, if_false] at hq ⊢
        obtain ⟨h', tk', nw, e, F', N', off', hS, hn, _⟩ := hq
        rw [hn] at N' off' hS
        exact ⟨h', tk', news, e, F', N', off', hS, ih (i + 1) (by omega)⟩
  have := key xs.length 0 (by omega)
  rw [← hb.length] at this
  simpa using this
end
section
variable {prog : Program} {w : World} {A : Around} {E : Value → Shared → Prop} {s : Shared} {h₀ : Heap} {L l : Addr} {m : Str → Option Value} {news : List (Addr × Obj)} {vs : List Value} {xs : List (List UInt8)} {Q : Value → Shared → Prop} {value slice : Expr} {tu : Tok}
theorem pick_init {vs : List Value} : (slicePick vs.toArray none (some (-1)) none) = (vs.take (vs.length - 1)).toArray := by
  have e : sliceBounds none (some (-1)) none vs.toArray.size = (((0 : Nat) : Int), ((vs.toArray.size - 1 : Nat) : Int), 1) := by
    simp only [sliceBounds, Option.getD_none, show (1 : Int) > 0 by decide, if_true]
    congr 1
    congr 1
    simp
    omega
  rw [kmk_pick_nat _ e]
  simp
theorem pick_last {vs : List Value} : (slicePick vs.toArray (some (-1)) none none) = (vs.drop (vs.length - 1)).toArray := by
  have e : sliceBounds (some (-1)) none none vs.toArray.size = (((vs.toArray.size - 1 : Nat) : Int), ((vs.toArray.size : Nat) : Int), 1) := by
    simp only [sliceBounds, Option.getD_none, show (1 : Int) > 0 by decide, if_true]
    congr 1
    simp
    omega
  rw [kmk_pick_nat _ e, List.size_toArray, List.take_of_length_le (by simp)]
theorem cut_init (F : Fr h₀ L s.heap m) (N : News h₀ L s.heap news) (hl : s.heap.IsList l vs.toArray) (hb : BsAre vs xs)
    (h : ∀ D h', Fr h₀ L h' m → News h₀ L h' ((D, listOf (vs.take (vs.length - 1)).toArray 0) :: news) → (∀ p ∈ news, p.1 < D) → BsAre (vs.take (vs.length - 1)) (xs.take (xs.length - 1)) → Q (.ref D) { s with heap := h' })
    (hs : subscripted slice false (.ref l) (.ref s.heap.objs.size) = operate [.ref s.heap.objs.size, .ref l] (getItem (.ref l) (.ref s.heap.objs.size))) (ht : ∀ r, letTemporaryGo value (.ref l) r = pure ()) (hz : vs.length ≤ 1000) :
    wpAny (model prog w) A (subscriptTail value slice (.ref l) (.ref s.heap.objs.size)) Q E { s with heap := s.heap.push { cls := .type "slice", data := .fields #[.none, .int (-1) tu, .none] } } :=
  kmk_slice F N hl .none (.int _ _) (fun D h' F' N' l1 => h D h' F' (by rw [pick_init] at N'; exact N') l1 (by have := hb.take (vs.length - 1); rw [hb.length] at this ⊢; exact this)) hs ht (by rw [sizeLine_eq, List.size_toArray]; omega)
theorem cut_last (F : Fr h₀ L s.heap m) (N : News h₀ L s.heap news) (hl : s.heap.IsList l vs.toArray) (hb : BsAre vs xs)
    (h : ∀ D h', Fr h₀ L h' m → News h₀ L h' ((D, listOf (vs.drop (vs.length - 1)).toArray 0) :: news) → (∀ p ∈ news, p.1 < D) → BsAre (vs.drop (vs.length - 1)) (xs.drop (xs.length - 1)) → Q (.ref D) { s with heap := h' })
    (hs : subscripted slice false (.ref l) (.ref s.heap.objs.size) = operate [.ref s.heap.objs.size, .ref l] (getItem (.ref l) (.ref s.heap.objs.size))) (ht : ∀ r, letTemporaryGo value (.ref l) r = pure ()) (hz : vs.length ≤ 1000) :
    wpAny (model prog w) A (subscriptTail value slice (.ref l) (.ref s.heap.objs.size)) Q E { s with heap := s.heap.push { cls := .type "slice", data := .fields #[.int (-1) tu, .none, .none] } } :=
  kmk_slice F N hl (.int _ _) .none (fun D h' F' N' l1 => h D h' F' (by rw [pick_last] at N'; exact N') l1 (by have := hb.drop (vs.length - 1); rw [hb.length] at this ⊢; exact this)) hs ht (by rw [sizeLine_eq, List.size_toArray]; omega)
end
end Mine

end PartCompB
section PartWideLoop
set_option maxRecDepth 100000
open PySem PySem.W PySem.Calls PyProof.Rows PyProof.V PySem.Spec
set_option linter.unusedVariables false
namespace Mine
section
variable {prog : Program} {w : World} {A : Around} {E : Value → Shared → Prop} {s : Shared} {env : Env} {h₀ : Heap} {x : Str} {body : List Stmt} {Q : Flow → Shared → Prop}
/-- for x in a tuple of ints that stands on the ledger -/
theorem m_wide {σ : Type} {l : Addr} {vs : List Value} {ns : List Int} {k9 : Nat} {m₀ : Str → Option Value}
    (led : Nat → σ → List (Addr × Obj)) (ps : Nat → σ → List (Str × Value)) (stored : List Str) (P : Nat → σ → Prop) (c₀ : σ)
    (hh : A.handled = none) (hI : IntsAre vs ns)
    (F : Fr h₀ env.locals s.heap m₀) (N : News h₀ env.locals s.heap ((l, ({ cls := .type "tuple", data := .seq vs.toArray k9 } : Obj)) :: led 0 c₀)) (hoff : ∀ q ∈ led 0 c₀, q.1 ≠ l) (hk : ∀ p ∈ ps 0 c₀, m₀ p.1 = some p.2) (hp : P 0 c₀)
    (turn : ∀ i k t c (u : Str → Option Value) h tk own, ns[i]? = some k → OwnOff own ((led 0 c₀).map (·.1)) → P i c →
      Fr h₀ env.locals h (fun y => if y = x then some (.int k t) else kstB (fun z => if stored.contains z then u z else m₀ z) (ps i c) y) → News h₀ env.locals h (led i c ++ own) →
      wpAny (model prog w) A (execs body env) (InvPostN h₀ env.locals (MJ led ps stored P x m₀ (i + 1)) own ((led 0 c₀).map (·.1)) { s with heap := h, toks := tk } Q) E { s with heap := h, toks := tk })
    (done : ∀ c (u : Str → Option Value) h tk, P ns.length c → Fr h₀ env.locals h (fun y => if y = x then u y else kstB (fun z => if stored.contains z then u z else m₀ z) (ps ns.length c) y) → News h₀ env.locals h (led ns.length c) → Q .next { s with heap := h, toks := tk }) :
    wpAny (model prog w) A (pyIter (.ref l)) (fun it s₂ => LoopAtV prog w A h₀ env x body Q E it s₂) E s := by
  have hol := (N _ (.head _)).1
  have hl0 : h₀.get? l = none := (N _ (.head _)).2.2
  have hlL : l ≠ env.locals := (N _ (.head _)).2.1
  have N' : News h₀ env.locals s.heap (led 0 c₀) := fun p hp => N p (.tail _ hp)
  have ht : s.heap.IsTuple l vs.toArray := ⟨_, hol, rfl, _, rfl⟩
  have hne : l ≠ s.heap.objs.size := Nat.ne_of_lt (Heap.lt_size hol)
  refine wpAny_pyIter_tuple ht ?_
  have W := Walks.tuple (prog := prog) (w := w) hh s.heap.objs.size l hne vs.toArray
  have hlen : vs.toArray.size = ns.length := by rw [List.size_toArray]; exact hI.length
  rw [hlen] at W
  refine m_loop led ps stored P c₀ W ?_ ?_ ?_ ?_ ⟨⟨_, Heap.get?_push_size _ rfl, rfl, rfl⟩, ht.push _⟩ (F.push _) (fun p hp => ⟨Heap.get?_push_of_some _ (N' p hp).1, (N' p hp).2⟩) hk hp ?_ ?_
  · intro hm
    rcases List.mem_cons.mp hm with e | hm
    · exact absurd F.ns.lt (e ▸ Nat.lt_irrefl _)
    · exact hlL (List.mem_singleton.mp hm).symm
  · intro b hb
    rw [List.mem_singleton.mp hb]
    exact next_is_new F
  · intro p hp hI
    exact absurd (Heap.lt_size (N' p hp).1) ((List.mem_singleton.mp hI) ▸ Nat.lt_irrefl _)
  · intro p hp hI
    rcases List.mem_cons.mp hI with e | hI
    · exact absurd (Heap.lt_size (N' p hp).1) (e ▸ Nat.lt_irrefl _)
    · exact hoff p hp (List.mem_singleton.mp hI)
  · rintro i v c u h tk own hi hv hoff hp' F' N'
    obtain ⟨k, t, rfl, hk⟩ := hI.at i v (by simpa using hv)
    exact turn i k t c u h tk own hk hoff hp' F' N'
  · exact done
end
section
variable {prog : Program} {w : World} {A : Around} {E : Value → Shared → Prop} {s : Shared} {h₀ : Heap} {L a b : Addr} {m : Str → Option Value} {news : List (Addr × Obj)} {vs ws : List Value} {xs ys : List (List UInt8)} {Q : Value → Shared → Prop}
theorem add_B (F : Fr h₀ L s.heap m) (N : News h₀ L s.heap news) (ha : s.heap.IsList a vs.toArray) (hb : s.heap.IsList b ws.toArray) (hi : BsAre vs xs) (hj : BsAre ws ys)
    (h : ∀ D h', Fr h₀ L h' m → News h₀ L h' ((D, listOf (vs ++ ws).toArray 0) :: news) → (∀ p ∈ news, p.1 < D) → BsAre (vs ++ ws) (xs ++ ys) → Q (.ref D) { s with heap := h' })
    (hz : xs.length + ys.length ≤ 1000) : wpAny (model prog w) A (binaryOp .Add (.ref a) (.ref b)) Q E s :=
  add_lists (hsz := by rw [sizeLine_eq, hi.length, hj.length]; omega) F N ha hb fun h' F' N' => h _ h' F' N' (fun p hp => Heap.lt_size (N p hp).1) (hi.append hj)
end
end Mine

end PartWideLoop
section PartGreedy
open PySem PySem.W PySem.Calls PyProof.Rows
set_option linter.unusedVariables false
namespace Mine
def lens (xs : List (List UInt8)) : List Int := xs.map fun x => (x.length : Int)
/-- how many lines the rest needs, the line being s long -/
def gr (wd : Int) : Int → List Int → Int
  | _, [] => 1
  | s, x :: r => if (if r = [] then wd else wd - 1) < s + x then 1 + gr wd x r else gr wd (s + x) r
def Sz (ns : List Int) : Prop := ∀ n ∈ ns, 1 ≤ n ∧ n ≤ 3
theorem Sz.tail {x : Int} {r : List Int} (h : Sz (x :: r)) : Sz r := fun n hn => h n (.tail _ hn)
theorem Sz.drop {r : List Int} (h : Sz r) (k : Nat) : Sz (r.drop k) := fun n hn => h n (List.mem_of_mem_drop hn)
theorem Sz.sum : ∀ {r : List Int}, Sz r → 0 ≤ r.sum
  | [], _ => by simp
  | x :: r, h => by
    have h1 := h x (.head _)
    have h2 := Sz.sum h.tail
    rw [List.sum_cons]; omega
theorem Sz.sum1 : ∀ {r : List Int}, Sz r → r ≠ [] → 1 ≤ r.sum
  | [], _, h => absurd rfl h
  | x :: r, h, _ => by
    have h1 := h x (.head _)
    have h2 := Sz.sum h.tail
    rw [List.sum_cons]; omega
theorem gr_mono {wd : Int} : ∀ {r : List Int} {s s' : Int}, Sz r → 0 ≤ s → s ≤ s' → gr wd s r ≤ gr wd s' r ∧ gr wd s' r ≤ 1 + gr wd s r
  | [], s, s', _, _, _ => by simp only [gr]; omega
  | x :: r, s, s', h, h0, hs => by
    have hx := h x (.head _)
    have i1 := gr_mono (wd := wd) (r := r) (s := x) (s' := s + x) h.tail (by omega) (by omega)
    have i2 := gr_mono (wd := wd) (r := r) (s := s + x) (s' := s' + x) h.tail (by omega) (by omega)
    simp only [gr]
    generalize (if r = [] then wd else wd - 1) = room
    split
    · rw [if_pos (by omega)]
      omega
    · split
      · omega
      · exact i2
theorem gr_pos {wd : Int} : ∀ {r : List Int} {s : Int}, 1 ≤ gr wd s r
  | [], s => by simp [gr]
  | x :: r, s => by
    have := gr_pos (wd := wd) (r := r) (s := x)
    have := gr_pos (wd := wd) (r := r) (s := s + x)
    simp only [gr]
    generalize (if r = [] then wd else wd - 1) = room
    split <;> omega
theorem gr_wide {wd wd' : Int} (hw : wd ≤ wd') : ∀ {r : List Int} {s s' : Int}, Sz r → 0 ≤ s' → s' ≤ s → gr wd' s' r ≤ gr wd s r
  | [], s, s', _, _, _ => by simp [gr]
  | x :: r, s, s', h, h0, hs => by
    have hx := h x (.head _)
    have i1 := gr_wide hw (r := r) (s := x) (s' := x) h.tail (by omega) (by omega)
    have i2 := gr_wide hw (r := r) (s := s + x) (s' := s' + x) h.tail (by omega) (by omega)
    have i3 := (gr_mono (wd := wd') (r := r) (s := x) (s' := s' + x) h.tail (by omega) (by omega)).2
    have hr : (if r = [] then wd else wd - 1) ≤ (if r = [] then wd' else wd' - 1) := by split <;> omega
    simp only [gr]
    generalize (if r = [] then wd else wd - 1) = room at hr
    generalize (if r = [] then wd' else wd' - 1) = room' at hr
    split
    · split <;> omega
    · split
      · omega
      · exact i2
theorem gr_one {wd : Int} : ∀ {r : List Int} {s : Int}, Sz r → s + r.sum ≤ wd → gr wd s r = 1
  | [], s, _, _ => rfl
  | x :: r, s, h, hs => by
    rw [List.sum_cons] at hs
    have hx := h x (.head _)
    have i1 := gr_one (wd := wd) (r := r) (s := s + x) h.tail (by omega)
    simp only [gr]
    by_cases hr : r = []
    · subst hr
      simp only [List.sum_nil] at hs
      rw [if_pos rfl, if_neg (by omega)]
      exact i1
    · have := h.tail.sum1 hr
      rw [if_neg hr, if_neg (by omega)]
      exact i1
theorem gr_le {wd : Int} : ∀ {r : List Int} {s : Int} {k : Nat}, Sz r → 0 ≤ s → s + (r.take k).sum ≤ wd - 1 → gr wd s r ≤ 1 + gr wd 0 (r.drop k)
  | r, s, 0, h, h0, hs => (gr_mono h (Int.le_refl 0) h0).2
  | [], s, k + 1, h, h0, hs => by simp [gr]
  | x :: r, s, k + 1, h, h0, hs => by
    have hx := h x (.head _)
    rw [List.take_succ_cons, List.sum_cons] at hs
    have ht : 0 ≤ (r.take k).sum := Sz.sum fun n hn => h n (.tail _ (List.mem_of_mem_take hn))
    have ih := gr_le (wd := wd) (r := r) (s := s + x) (k := k) h.tail (by omega) (by omega)
    rw [List.drop_succ_cons]
    simp only [gr]
    rw [if_neg (by split <;> omega)]
    exact ih
theorem gr_at {wd : Int} (hw : 4 ≤ wd) : ∀ {r : List Int} {s : Int}, Sz r → 0 ≤ s → s ≤ wd - 1 → wd < s + r.sum → ∃ k, k < r.length ∧ s + (r.take k).sum ≤ wd - 1 ∧ gr wd s r = 1 + gr wd 0 (r.drop k)
  | [], s, _, _, h1, h2 => by simp at h2; omega
  | x :: r, s, h, h0, h1, h2 => by
    have hx := h x (.head _)
    rw [List.sum_cons] at h2
    by_cases hf : (if r = [] then wd else wd - 1) < s + x
    · refine ⟨0, by simp, by simpa using h1, ?_⟩
      rw [List.drop_zero]
      have e2 : gr wd 0 (x :: r) = gr wd (0 + x) r := by
        rw [gr, if_neg (by split <;> omega)]
      rw [e2, gr, if_pos hf, Int.zero_add]
    · have hr : r ≠ [] := by
        intro hr
        rw [if_pos hr] at hf
        subst hr
        simp only [List.sum_nil] at h2
        omega
      have hf2 := hf
      rw [if_neg hr] at hf2
      obtain ⟨k, a, b, c⟩ := gr_at hw (r := r) (s := s + x) h.tail (by omega) (by omega) (by omega)
      refine ⟨k + 1, by simpa using a, ?_, ?_⟩
      · rw [List.take_succ_cons, List.sum_cons]; omega
      · rw [List.drop_succ_cons, gr, if_neg hf]
        exact c
theorem minL_le : ∀ {l : List Int} {a : Int}, a ∈ l → minL l ≤ a := fun {l a} h => (min_eq.minL_is l (fun e => by rw [e] at h; nomatch h)).2 a h
theorem minL_mem {l : List Int} (h : l ≠ []) : minL l ∈ l := (min_eq.minL_is l h).1
/-- one step of _law_fewest gives the greedy number -/
theorem step_gr {ns : List Int} {wd : Int} {f : List Int} {b : Nat} (h : Sz ns) (hw : 4 ≤ wd) (hb : b < ns.length) (hf : ∀ e, b < e → e < ns.length → f.getD e 0 = gr wd 0 (ns.drop e)) : stepF ns wd f b = gr wd 0 (ns.drop b) := by
  unfold stepF
  have hS := h.drop b
  split
  · rename_i hs
    exact (gr_one hS (by omega)).symm
  · rename_i hs
    have hs' : wd < 0 + (ns.drop b).sum := by omega
    obtain ⟨k, hk, hk2, hk3⟩ := gr_at hw hS (Int.le_refl 0) (by omega) hs'
    have hk0 : 0 < k := by
      rcases Nat.eq_zero_or_pos k with e | e
      · subst e
        rw [List.drop_zero] at hk3
        omega
      · exact e
    rw [List.length_drop] at hk
    rw [List.drop_drop] at hk3
    have hm : ((b + k : Nat) : Int) ∈ endsOf ns wd b := ends_mem' (by omega) (by omega) (by rw [show b + k - b = k by omega]; omega)
    have hm1 := minL_le (List.mem_map.mpr ⟨_, hm, rfl⟩ : f.getD (((b + k : Nat) : Int)).toNat 0 ∈ (endsOf ns wd b).map fun e => f.getD e.toNat 0)
    rw [Int.toNat_natCast, hf _ (by omega) (by omega)] at hm1
    have hne : ((endsOf ns wd b).map fun e => f.getD e.toNat 0) ≠ [] := by
      intro e
      have := List.map_eq_nil_iff.mp e
      rw [this] at hm
      nomatch hm
    obtain ⟨e, he, he2⟩ := List.mem_map.mp (minL_mem hne)
    obtain ⟨a1, a2, a3⟩ := ends_mem he
    have hge := gr_le (wd := wd) (r := ns.drop b) (s := 0) (k := e.toNat - b) hS (Int.le_refl 0) (by omega)
    rw [List.drop_drop, show b + (e.toNat - b) = e.toNat by omega] at hge
    rw [hf _ (by omega) (by omega)] at he2
    omega
theorem fewSt_gr {ns : List Int} {wd : Int} (h : Sz ns) (hw : 4 ≤ wd) : ∀ i, i ≤ ns.length → ∀ e, ns.length - i ≤ e → e < ns.length → (fewSt ns wd i).getD e 0 = gr wd 0 (ns.drop e)
  | 0, _, e, h1, h2 => by omega
  | i + 1, hi, e, h1, h2 => by
    have ih := fewSt_gr h hw i (by omega)
    have hl := fewSt_len ns wd i
    unfold fewSt
    by_cases q : e = ns.length - 1 - i
    · rw [← q, List.getD_eq_getElem?_getD, List.getElem?_set_self (by omega), Option.getD_some]
      exact step_gr h hw h2 fun e' h3 h4 => ih e' (by omega) h4
    · rw [List.getD_eq_getElem?_getD, List.getElem?_set_ne (by omega), ← List.getD_eq_getElem?_getD]
      exact ih e (by omega) h2
theorem few_gr {ns : List Int} {wd : Int} (h : Sz ns) (hw : 4 ≤ wd) : fewL ns wd = gr wd 0 ns := by
  unfold fewL
  cases ns with
  | nil => rfl
  | cons x r => exact fewSt_gr h hw _ (Nat.le_refl _) 0 (by simp) (by simp)
/-- soft_lines against the greedy number -/
theorem soft_gr {wd : Int} {xs : List (List UInt8)} : ∀ i, i ≤ xs.length → (((softSt wd xs i).1.length : Nat) : Int) + gr wd ((softSt wd xs i).2.length : Int) ((lens xs).drop i) = gr wd 0 (lens xs)
  | 0, _ => by simp [softSt]
  | i + 1, hi => by
    have ih := soft_gr (wd := wd) (xs := xs) i (by omega)
    have hlen : (lens xs).length = xs.length := by simp [lens]
    have hd : (lens xs).drop i = ((xs.getD i []).length : Int) :: (lens xs).drop (i + 1) := by
      rw [List.drop_eq_getElem_cons (by omega)]
      congr 1
      simp only [lens, List.getElem_map]
      rw [List.getD_eq_getElem?_getD, List.getElem?_eq_getElem (by omega), Option.getD_some]
    have hroom : (if (lens xs).drop (i + 1) = [] then wd else wd - 1) = roomOf wd xs i := by
      unfold roomOf
      by_cases q : i + 1 = xs.length
      · rw [if_pos (List.drop_eq_nil_iff.mpr (by omega)), if_pos (by omega)]
      · rw [if_neg (fun e => by have := List.drop_eq_nil_iff.mp e; omega), if_neg (by omega)]
    rw [hd] at ih
    simp only [gr] at ih
    rw [hroom] at ih
    by_cases q : roomOf wd xs i < ((softSt wd xs i).2.length : Int) + ((xs.getD i []).length : Int)
    · rw [if_pos q] at ih
      rw [softSt_flush q]
      simp only [List.length_append, List.length_cons, List.length_nil]
      omega
    · rw [if_neg q] at ih
      rw [softSt_stay q]
      simp only [List.length_append]
      rw [Int.natCast_add]
      exact ih
theorem softL_gr (wd : Int) (xs : List (List UInt8)) : ((softL wd xs).length : Int) = gr wd 0 (lens xs) := by
  have h := soft_gr (wd := wd) (xs := xs) xs.length (Nat.le_refl _)
  rw [List.drop_eq_nil_of_le (by simp [lens])] at h
  simp only [gr] at h
  unfold softL
  rw [List.length_append]
  simp only [List.length_cons, List.length_nil]
  omega
theorem enc_sz (qs : List (Bool × Nat)) : Sz (lens (qs.map encP)) := enc_sizes qs
theorem p_few (qs : List (Bool × Nat)) {wd : Int} (hw : 4 ≤ wd) : ((softL wd (qs.map encP)).length : Int) = fewL (lens (qs.map encP)) wd := by
  rw [softL_gr, few_gr (enc_sz qs) hw]
theorem p_more (qs : List (Bool × Nat)) {wd wd' : Int} (hw : 4 ≤ wd) (hw' : wd ≤ wd') : (softL wd' (qs.map encP)).length ≤ (softL wd (qs.map encP)).length := by
  have h1 := softL_gr wd (qs.map encP)
  have h2 := softL_gr wd' (qs.map encP)
  have h3 := gr_wide hw' (enc_sz qs) (Int.le_refl 0) (Int.le_refl 0)
  omega
end Mine

end PartGreedy
section PartDec
open PySem PySem.W PySem.Calls PyProof.Rows
set_option linter.unusedVariables false
namespace Mine
def flatP (g : List (Bool × Nat)) : List UInt8 := (g.map encP).flatten
/-- the lines by groups of pieces -/
def GInv (qs : List (Bool × Nat)) (i : Nat) (st : List (List UInt8) × List UInt8) : Prop :=
  ∃ gs : List (List (Bool × Nat)), ∃ g : List (Bool × Nat), st.1 = gs.map (fun g => flatP g ++ [61]) ∧ st.2 = flatP g ∧ gs.flatten ++ g = qs.take i
theorem flatP_app (g h : List (Bool × Nat)) : flatP (g ++ h) = flatP g ++ flatP h := by simp [flatP]
theorem soft_g {qs : List (Bool × Nat)} {wd : Int} : ∀ i, i ≤ qs.length → GInv qs i (softSt wd (qs.map encP) i)
  | 0, _ => ⟨[], [], rfl, rfl, by simp⟩
  | i + 1, hi => by
    obtain ⟨gs, g, h1, h2, h3⟩ := soft_g (qs := qs) (wd := wd) i (by omega)
    have hlt : i < qs.length := by omega
    have hq : qs[i]? = some qs[i] := List.getElem?_eq_getElem hlt
    have hx : (qs.map encP).getD i [] = flatP [qs[i]] := by
      rw [List.getD_eq_getElem?_getD, List.getElem?_map, hq]
      simp [flatP]
    have ht : qs.take (i + 1) = qs.take i ++ [qs[i]] := by rw [List.take_add_one, hq]; rfl
    by_cases q : roomOf wd (qs.map encP) i < ((softSt wd (qs.map encP) i).2.length : Int) + (((qs.map encP).getD i []).length : Int)
    · rw [softSt_flush q]
      refine ⟨gs ++ [g], [qs[i]], ?_, hx, ?_⟩
      · dsimp only; rw [h1, h2, List.map_append]; rfl
      · rw [ht, ← h3]; simp
    · rw [softSt_stay q]
      refine ⟨gs, g ++ [qs[i]], h1, ?_, ?_⟩
      · dsimp only; rw [h2, hx, flatP_app]
      · rw [ht, ← h3]; simp
theorem soft_grp (qs : List (Bool × Nat)) (wd : Int) : ∃ gs : List (List (Bool × Nat)), ∃ g : List (Bool × Nat), softL wd (qs.map encP) = gs.map (fun g => flatP g ++ [61]) ++ [flatP g] ∧ gs.flatten ++ g = qs := by
  obtain ⟨gs, g, h1, h2, h3⟩ := soft_g (qs := qs) (wd := wd) qs.length (Nat.le_refl _)
  refine ⟨gs, g, ?_, by rw [h3, List.take_length]⟩
  unfold softL
  rw [List.length_map, h1, h2]
theorem init_app {α : Type} (a : List α) (b : α) : (a ++ [b]).take ((a ++ [b]).length - 1) = a := by simp
theorem last_app {α : Type} (a : List α) (b : α) : (a ++ [b]).drop ((a ++ [b]).length - 1) = [b] := by simp
theorem p_len (qs : List (Bool × Nat)) {wd : Int} (hw : 4 ≤ wd) : 1 ≤ (softL wd (qs.map encP)).length ∧ (softL wd (qs.map encP)).length ≤ qs.length + 1 := by
  have h := softSt_ll wd (qs.map encP) (qs.map encP).length
  unfold softL
  rw [List.length_append]
  simp only [List.length_cons, List.length_nil]
  rw [List.length_map] at h ⊢
  omega
theorem p_ends (qs : List (Bool × Nat)) {wd : Int} (hw : 4 ≤ wd) : ∀ z ∈ (softL wd (qs.map encP)).take ((softL wd (qs.map encP)).length - 1), z.drop (z.length - 1) = [61] := by
  obtain ⟨gs, g, e, _⟩ := soft_grp qs wd
  rw [e, init_app]
  intro z hz
  obtain ⟨g', _, rfl⟩ := List.mem_map.mp hz
  exact last_app _ _
theorem flat_gs (gs : List (List (Bool × Nat))) : (gs.map flatP).flatten = flatP gs.flatten := by
  induction gs with
  | nil => rfl
  | cons g gs ih => rw [List.map_cons, List.flatten_cons, List.flatten_cons, flatP_app, ih]
theorem p_join (qs : List (Bool × Nat)) {wd : Int} (hw : 4 ≤ wd) : (((softL wd (qs.map encP)).take ((softL wd (qs.map encP)).length - 1)).map (fun z => z.take (z.length - 1)) ++ (softL wd (qs.map encP)).drop ((softL wd (qs.map encP)).length - 1)).flatten = (qs.map encP).flatten := by
  obtain ⟨gs, g, e, e2⟩ := soft_grp qs wd
  rw [e, init_app, last_app, List.map_map]
  have : ((fun z : List UInt8 => z.take (z.length - 1)) ∘ fun g => flatP g ++ [61]) = flatP := by
    funext g
    exact init_app _ _
  rw [this, List.flatten_append, flat_gs]
  simp only [List.flatten_cons, List.flatten_nil, List.append_nil]
  rw [← flatP_app, e2]
  rfl
theorem soft_w {wd : Int} {xs : List (List UInt8)} (hw : 4 ≤ wd) (hx : ∀ x ∈ xs, x.length ≤ 3) : ∀ i, i ≤ xs.length → (∀ z ∈ (softSt wd xs i).1, (z.length : Int) ≤ wd) ∧ ((softSt wd xs i).2.length : Int) ≤ wd ∧ (i < xs.length → ((softSt wd xs i).2.length : Int) ≤ wd - 1)
  | 0, _ => ⟨(fun _ h => nomatch h), (show ((0 : Nat) : Int) ≤ wd by omega), fun _ => (show ((0 : Nat) : Int) ≤ wd - 1 by omega)⟩
  | i + 1, hi => by
    obtain ⟨a, b, c⟩ := soft_w hw hx i (by omega)
    have h3 : (xs.getD i []).length ≤ 3 := by
      rw [List.getD_eq_getElem?_getD, List.getElem?_eq_getElem (by omega)]
      exact hx _ (List.getElem_mem _)
    have c' := c (by omega)
    by_cases q : roomOf wd xs i < ((softSt wd xs i).2.length : Int) + ((xs.getD i []).length : Int)
    · rw [softSt_flush q]
      refine ⟨fun z hz => ?_, by dsimp only; omega, fun _ => by dsimp only; omega⟩
      rcases List.mem_append.mp hz with hz | hz
      · exact a z hz
      · rw [List.mem_singleton.mp hz, List.length_append]
        simp only [List.length_cons, List.length_nil]
        omega
    · rw [softSt_stay q]
      have hr : roomOf wd xs i ≤ wd := by unfold roomOf; split <;> omega
      refine ⟨a, by dsimp only; rw [List.length_append]; omega, fun h => ?_⟩
      have hr2 : roomOf wd xs i = wd - 1 := by unfold roomOf; rw [if_neg (by omega)]
      dsimp only
      rw [List.length_append]
      omega
theorem p_wide (qs : List (Bool × Nat)) {wd : Int} (hw : 4 ≤ wd) : ∀ z ∈ softL wd (qs.map encP), (z.length : Int) ≤ wd := by
  have h := soft_w (wd := wd) (xs := qs.map encP) hw (fun x hx => by
    obtain ⟨q, _, rfl⟩ := List.mem_map.mp hx
    exact (encP_len q).2) _ (Nat.le_refl _)
  intro z hz
  unfold softL at hz
  rcases List.mem_append.mp hz with hz | hz
  · exact h.1 z hz
  · rw [List.mem_singleton.mp hz]
    exact h.2.1
theorem p_small (qs : List (Bool × Nat)) {wd : Int} (hw : 4 ≤ wd) (hw' : wd ≤ 50) : Small (softL wd (qs.map encP)) := fun z hz => by have := p_wide qs hw z hz; omega
theorem joinedOne_len {x : List UInt8} {n : Nat} (h : x.length ≤ n) : ((joinedOne x).flatten).length ≤ n + 2 := by
  unfold joinedOne
  split <;> simp <;> omega
theorem joined_len {n : Nat} : ∀ {xs : List (List UInt8)}, (∀ z ∈ xs, z.length ≤ n) → ((joinedSt xs).flatten).length ≤ xs.length * (n + 2)
  | [], _ => by simp [joinedSt]
  | x :: xs, h => by
    have h1 := joined_len (xs := xs) fun z hz => h z (.tail _ hz)
    have h2 := joinedOne_len (h x (.head _))
    have e : joinedSt (x :: xs) = joinedOne x ++ joinedSt xs := rfl
    rw [e, List.flatten_append, List.length_append, List.length_cons, Nat.add_mul, Nat.one_mul]
    omega

theorem hx_ok : ∀ n, n < 16 → hexWorth ((hx n).toNat : Int) = (n : Int) ∧ hx n ≠ 10 ∧ hx n ≠ 32 ∧ hx n ≠ 9 ∧ hx n ≠ 61 := by decide
theorem let_ok : ∀ n, n < 123 → 97 ≤ n → UInt8.ofNat n ≠ 10 ∧ UInt8.ofNat n ≠ 32 ∧ UInt8.ofNat n ≠ 9 ∧ UInt8.ofNat n ≠ 61 ∧ (UInt8.ofNat n).toNat = n := by decide
theorem enc_chars {q : Bool × Nat} (h : OkP q) : ∀ c ∈ encP q, c ≠ 10 ∧ c ≠ 32 ∧ c ≠ 9 := by
  obtain ⟨b, n⟩ := q
  obtain ⟨h1, h2⟩ := h
  dsimp only at h1 h2
  intro c hc
  cases b with
  | true =>
    have hc : c ∈ [61, hx (n / 16), hx (n % 16)] := hc
    have a1 := hx_ok (n / 16) (by omega)
    have a2 := hx_ok (n % 16) (by omega)
    rcases List.mem_cons.mp hc with rfl | hc
    · decide
    · rcases List.mem_cons.mp hc with rfl | hc
      · exact ⟨a1.2.1, a1.2.2.1, a1.2.2.2.1⟩
      · rw [List.mem_singleton.mp hc]
        exact ⟨a2.2.1, a2.2.2.1, a2.2.2.2.1⟩
  | false =>
    have hc : c ∈ [UInt8.ofNat n] := hc
    have h3 := h2 rfl
    have a1 := let_ok n (by omega) h3.1
    rw [List.mem_singleton.mp hc]
    exact ⟨a1.1, a1.2.1, a1.2.2.1⟩
theorem enc_last {q : Bool × Nat} (h : OkP q) : ∃ w c, encP q = w ++ [c] ∧ c ≠ 61 := by
  obtain ⟨b, n⟩ := q
  obtain ⟨h1, h2⟩ := h
  dsimp only at h1 h2
  cases b with
  | true => exact ⟨[61, hx (n / 16)], hx (n % 16), rfl, (hx_ok (n % 16) (by omega)).2.2.2.2⟩
  | false => exact ⟨[], UInt8.ofNat n, rfl, (let_ok n (by have := h2 rfl; omega) (h2 rfl).1).2.2.2.1⟩
theorem flat_chars {g : List (Bool × Nat)} (h : ∀ q ∈ g, OkP q) : ∀ c ∈ flatP g, c ≠ 10 ∧ c ≠ 32 ∧ c ≠ 9 := by
  intro c hc
  obtain ⟨x, hx, hc⟩ := List.mem_flatten.mp hc
  obtain ⟨q, hq, rfl⟩ := List.mem_map.mp hx
  exact enc_chars (h q hq) c hc
theorem flat_last {g : List (Bool × Nat)} (h : ∀ q ∈ g, OkP q) : (flatP g).drop ((flatP g).length - 1) ≠ [61] := by
  rcases List.eq_nil_or_concat g with rfl | ⟨g', q, rfl⟩
  · decide
  · rw [List.concat_eq_append] at h ⊢
    obtain ⟨w, c, e, hc⟩ := enc_last (h q (by simp))
    have e2 : flatP (g' ++ [q]) = (flatP g' ++ w) ++ [c] := by
      rw [flatP_app, List.append_assoc, ← e]
      simp [flatP]
    rw [e2, last_app]
    intro h
    exact hc (List.cons.inj h).1
theorem unq_enc {q : Bool × Nat} (h : OkP q) (r : List UInt8) : unqL (encP q ++ r) = encK q :: unqL r := by
  obtain ⟨b, n⟩ := q
  obtain ⟨h1, h2⟩ := h
  dsimp only at h1 h2
  cases b with
  | true =>
    show unqL (61 :: hx (n / 16) :: hx (n % 16) :: r) = ((n : Nat) : Int) :: unqL r
    have a1 := (hx_ok (n / 16) (by omega)).1
    have a2 := (hx_ok (n % 16) (by omega)).1
    have e : quotedAt (61 :: hx (n / 16) :: hx (n % 16) :: r) 0 = (n : Int) := by
      unfold quotedAt
      rw [if_neg (by simp only [List.length_cons]; omega)]
      show (if 0 ≤ hexWorth ((hx (n / 16)).toNat : Int) ∧ 0 ≤ hexWorth ((hx (n % 16)).toNat : Int) then 16 * hexWorth ((hx (n / 16)).toNat : Int) + hexWorth ((hx (n % 16)).toNat : Int) else -1) = _
      rw [a1, a2, if_pos (by omega)]
      omega
    rw [unqL, e, if_pos ⟨rfl, by omega⟩]
    rfl
  | false =>
    show unqL (UInt8.ofNat n :: r) = ((n : Nat) : Int) :: unqL r
    have a := let_ok n (by have := h2 rfl; omega) (h2 rfl).1
    rw [unqL, if_neg (fun x => a.2.2.2.1 x.1), a.2.2.2.2]
theorem unq_flat : ∀ {g : List (Bool × Nat)}, (∀ q ∈ g, OkP q) → unqL (flatP g) = g.map encK
  | [], _ => by simp [flatP, unqL]
  | q :: g, h => by
    have e : flatP (q :: g) = encP q ++ flatP g := rfl
    rw [e, unq_enc (h q (.head _)), unq_flat fun x hx => h x (.tail _ hx)]
    rfl
def outK (g : List (Bool × Nat)) : List UInt8 := (g.map encK).map fun n => n.toNat.toUInt8
theorem unqB_flat {g : List (Bool × Nat)} (h : ∀ q ∈ g, OkP q) : unqB (flatP g) = outK g := by
  unfold unqB outK
  rw [unq_flat h]
theorem find10 : ∀ (y r : List UInt8), (∀ c ∈ y, c ≠ 10) → (y ++ 61 :: 13 :: 10 :: r).findIdx? (· == 10) = some (y.length + 2)
  | [], r, _ => by simp [List.findIdx?_cons]
  | c :: y, r, h => by
    rw [List.cons_append, List.findIdx?_cons, find10 y r fun x hx => h x (.tail _ hx)]
    have hc : (c == 10) = false := by simpa using h c (.head _)
    rw [hc]
    simp
theorem find10n {y : List UInt8} (h : ∀ c ∈ y, c ≠ 10) : y.findIdx? (· == 10) = none := by
  rw [List.findIdx?_eq_none_iff]
  intro c hc
  simpa using h c hc
theorem rstrip_id {ws x : List UInt8} {c : UInt8} (hc : ws.contains c = false) : rstripL ws (x ++ [c]) = x ++ [c] := by
  unfold rstripL
  rw [List.reverse_append]
  simp only [List.reverse_cons, List.reverse_nil, List.nil_append, List.cons_append]
  rw [List.dropWhile_cons, hc]
  simp
theorem rstrip_id' {ws x : List UInt8} (h : ∀ c ∈ x, ws.contains c = false) : rstripL ws x = x := by
  rcases List.eq_nil_or_concat x with rfl | ⟨x', c, rfl⟩
  · rfl
  · rw [List.concat_eq_append] at h ⊢
    exact rstrip_id (h c (by simp))
theorem dec_line {g : List (Bool × Nat)} (h : ∀ q ∈ g, OkP q) (r : List UInt8) : decL ((flatP g ++ [61]) ++ ([13, 10] ++ r)) = outK g ++ decL r := by
  have hf := find10 (flatP g) r fun c hc => (flat_chars h c hc).1
  have e : (flatP g ++ [61]) ++ ([13, 10] ++ r) = flatP g ++ 61 :: 13 :: 10 :: r := by simp
  have e1 : (flatP g ++ 61 :: 13 :: 10 :: r).take (flatP g).length.succ = flatP g ++ [61] := by
    rw [show flatP g ++ 61 :: 13 :: 10 :: r = (flatP g ++ [61]) ++ 13 :: 10 :: r by simp]
    exact List.take_left' (by simp)
  have e2 : (flatP g ++ 61 :: 13 :: 10 :: r).drop ((flatP g).length + 2 + 1) = r := by
    rw [show flatP g ++ 61 :: 13 :: 10 :: r = (flatP g ++ [61, 13, 10]) ++ r by simp]
    exact List.drop_left' (by simp)
  have e3 : (flatP g ++ 61 :: 13 :: 10 :: r).getD ((flatP g).length + 2 - 1) 0 = 13 := by
    rw [List.getD_eq_getElem?_getD, List.getElem?_append_right (by omega)]
    rw [show (flatP g).length + 2 - 1 - (flatP g).length = 1 by omega]
    rfl
  unfold decL
  rw [e, lpL_some hf, if_pos ⟨by omega, e3⟩, e2, show (flatP g).length + 2 - 1 = (flatP g).length.succ by omega, e1, List.map_cons, List.flatten_cons]
  congr 1
  unfold decOne
  dsimp only
  rw [rstrip_id (by decide), last_app, if_pos (by decide), init_app, unqB_flat h]
theorem dec_last {g : List (Bool × Nat)} (h : ∀ q ∈ g, OkP q) : decL (flatP g) = outK g := by
  unfold decL
  rw [lpL_none (find10n fun c hc => (flat_chars h c hc).1)]
  simp only [List.map_cons, List.map_nil, List.flatten_cons, List.flatten_nil, List.append_nil]
  unfold decOne
  dsimp only
  rw [rstrip_id' (fun c hc => by
    have a := flat_chars h c hc
    simp [a.2.1, a.2.2]), if_neg (by simpa using flat_last h), List.append_nil, unqB_flat h]
theorem dec_all : ∀ (gs : List (List (Bool × Nat))) (g : List (Bool × Nat)), (∀ q ∈ gs.flatten ++ g, OkP q) → decL ((joinedSt (gs.map (fun g => flatP g ++ [61]) ++ [flatP g])).flatten) = outK (gs.flatten ++ g)
  | [], g, h => by
    have e : joinedSt ([].map (fun g => flatP g ++ [61]) ++ [flatP g]) = joinedOne (flatP g) ++ [] := rfl
    rw [e, List.append_nil]
    unfold joinedOne
    rw [if_neg (by simpa using flat_last h)]
    simp only [List.flatten_cons, List.flatten_nil, List.append_nil, List.nil_append]
    exact dec_last h
  | g' :: gs, g, h => by
    have e : joinedSt ((g' :: gs).map (fun g => flatP g ++ [61]) ++ [flatP g]) = joinedOne (flatP g' ++ [61]) ++ joinedSt (gs.map (fun g => flatP g ++ [61]) ++ [flatP g]) := rfl
    have e2 : joinedOne (flatP g' ++ [61]) = [flatP g' ++ [61], [13, 10]] := by
      unfold joinedOne
      rw [last_app, if_pos (by decide)]
    have h1 : ∀ q ∈ g', OkP q := fun q hq => h q (by simp [hq])
    have h2 : ∀ q ∈ gs.flatten ++ g, OkP q := fun q hq => h q (by
      rw [List.flatten_cons, List.append_assoc]
      exact List.mem_append_right _ hq)
    rw [e, e2, List.flatten_append]
    have e3 : ([flatP g' ++ [61], [13, 10]] : List (List UInt8)).flatten ++ (joinedSt (gs.map (fun g => flatP g ++ [61]) ++ [flatP g])).flatten = (flatP g' ++ [61]) ++ ([13, 10] ++ (joinedSt (gs.map (fun g => flatP g ++ [61]) ++ [flatP g])).flatten) := by simp
    rw [e3, dec_line h1, dec_all gs g h2]
    simp [outK]
theorem p_dec (qs : List (Bool × Nat)) {wd : Int} (hw : 4 ≤ wd) (hq : ∀ q ∈ qs, OkP q) : decL (joinedSt (softL wd (qs.map encP))).flatten = (qs.map encK).map fun n => n.toNat.toUInt8 := by
  obtain ⟨gs, g, e, e2⟩ := soft_grp qs wd
  rw [e, dec_all gs g (by rw [e2]; exact hq), e2]
  rfl
end Mine

end PartDec
section PartLaw
open PySem PySem.W PySem.Calls PyProof.Rows
set_option linter.unusedVariables false
local macro_rules | `(tactic| walk_at "m_size") => `(tactic| first | omega | (simp only [List.length_append, List.length_cons, List.length_nil, List.length_take, List.length_drop]; omega))
local macro_rules | `(tactic| walk_at "call builtin:len") => `(tactic| (k_here; (with_reducible show wpAny _ _ (call (Value.builtin "len") [Value.bytes (List.toArray _) _]) _ _ _); (refine Mine.len_L (by walk_at "m_size") ?_); intro _ _))
local macro_rules | `(tactic| walk_at "subscriptTail") => `(tactic| (k_here; (with_reducible show wpAny _ _ (subscriptTail _ _ (Value.bytes (List.toArray _) _) (Value.int _ _)) _ _ _); (refine Mine.item_L (by walk_at "m_size") (by walk_at "m_size") (by walk_at "m_size") ?_); intro _ _))
local macro_rules | `(tactic| walk_at "binaryOp Add bytes bytes") => `(tactic| (k_here; (with_reducible show wpAny _ _ (binaryOp Operator.Add (Value.bytes (List.toArray _) _) (Value.bytes (List.toArray _) _)) _ _ _); (refine Mine.add_L (by walk_at "m_size") ?_); intro _ _))
local macro_rules | `(tactic| walk_at "compareOp Eq bytes bytes") => `(tactic| (k_here; (with_reducible show wpAny _ _ (compareOp CmpOp.Eq (Value.bytes (List.toArray _) _) (Value.bytes (List.toArray _) _)) _ _ _); (refine Mine.eq_L ?_)))
local macro_rules | `(tactic| walk_at "compareOp NotEq bytes bytes") => `(tactic| (k_here; (with_reducible show wpAny _ _ (compareOp CmpOp.NotEq (Value.bytes (List.toArray _) _) (Value.bytes (List.toArray _) _)) _ _ _); (refine Mine.ne_L ?_)))
-- what a contract asks at a call: the written part, the top, the room
local macro_rules | `(tactic| walk_at "m_cx") => `(tactic| first | assumption | exact Frag.In.keeps (by assumption) (Fr.keep (by assumption)) | exact Top.keeps (by assumption) (Fr.keep (by assumption)))
local macro_rules | `(tactic| walk_at "m_back") => `(tactic| (intro h9 tk9 t9 hk9; (with_reducible rename Fr _ _ _ _ => F8); (with_reducible rename News _ _ _ _ => N8); (have F9 := Fr.keeps F8 hk9); (have N9 := News.grown N8 hk9); clear F8 N8 hk9; (try dsimp only); (try k_fold)))
local macro_rules | `(tactic| walk_at "m_lenq") => `(tactic| first | exact Mine.BsAre.length (by assumption) | exact IntsAre.length (by assumption))
local macro_rules | `(tactic| walk_at "call builtin:len") => `(tactic| (k_here; (with_reducible show wpAny _ _ (call (Value.builtin "len") [Value.ref _]) _ _ _); (with_unfolding_all refine' Mine.len_V ?k1 ?k2 ?k3 ?_; (case k1 => is_list); (case k2 => walk_at "m_lenq"); (case k3 => walk_at "m_size"); k_whole); intro _ _))
local macro_rules | `(tactic| walk_at "subscriptTail") => `(tactic| (k_here; (with_reducible show wpAny _ _ (subscriptTail _ _ (Value.ref _) (Value.int _ _)) _ _ _); (with_unfolding_all refine' Mine.item_B ?k1 ?k2 ?k3 ?k4 ?k5 ?k6 ?_ ?k7; (case k1 => is_list); (case k2 => assumption); (case k3 => assumption); (case k4 => walk_at "m_size"); (case k5 => walk_at "m_size"); (case k6 => walk_at "m_size"); (case k7 => with_unfolding_all rfl); k_whole); intro _ hSmall9))
local macro_rules | `(tactic| walk_at "pyIter ref") => `(tactic| k_extra "MYLOOP")
local macro_rules | `(tactic| walk_at "InvEndN") => `(tactic| ((with_reducible show InvEndN _ _ (Mine.MJ _ _ _ _ _ _ _) _ _ _ _); refine Mine.hold_of ?_))
local macro_rules | `(tactic| walk_at "getMethod bytes") => `(tactic| (k_here; first | (with_reducible refine Mine.m_find ?_) | (with_reducible refine Mine.m_rstrip ?_) | (with_reducible refine Mine.m_join ?_)))
local macro_rules | `(tactic| walk_at "call builtin:bytes.join") => `(tactic| (k_here; (with_unfolding_all refine' Mine.join_L ?k1 ?k2 ?k3 ?_; (case k1 => is_list); (case k2 => assumption); (case k3 => first | assumption | walk_at "m_size"); k_whole); intro _ _))
local macro_rules | `(tactic| walk_at "call builtin:bytes.find") => `(tactic| (k_here; (with_reducible show wpAny _ _ (call (Value.builtin "bytes.find") [Value.bytes (List.toArray _) _, Value.bytes (List.toArray [_]) _, Value.int _ _]) _ _ _); (refine Mine.find_L (by walk_at "m_size") (by walk_at "m_size") ?_); intro _ _))
local macro_rules | `(tactic| walk_at "call builtin:bytes.rstrip") => `(tactic| (k_here; (with_reducible show wpAny _ _ (call (Value.builtin "bytes.rstrip") [Value.bytes (List.toArray _) _, Value.bytes (List.toArray _) _]) _ _ _); (refine Mine.rstrip_L (by walk_at "m_size") ?_); intro _ _ hStrip9))
local macro_rules | `(tactic| walk_at "m_pick") => `(tactic| first | exact Mine.pickL_last _ | exact Mine.pickL_init _ | exact Mine.pickL_to _ (by walk_at "m_size") | exact Mine.pickL_from _ (by walk_at "m_size") | exact Mine.pickL_of _ (by walk_at "m_size") (by walk_at "m_size"))
local macro_rules | `(tactic| walk_at "subscriptTail") => `(tactic| (k_here; (with_reducible show wpAny _ _ (subscriptTail _ (Expr.Slice _ _ none _) (Value.bytes (List.toArray _) _) (Value.ref _)) _ _ _); (with_reducible rename Fr _ _ _ _ => F'); (with_reducible rename News _ _ _ _ => N'); (refine Mine.slice_L (s := ⟨_, _, _, _, _⟩) F' N' (by constructor) (by constructor) (by walk_at "m_size") (by walk_at "m_pick") ?_); intro _ _ _ _ _))
local macro_rules | `(tactic| walk_at "exec For Name") => `(tactic| (k_here; (rename Fr _ _ _ _ => lF'); (with_unfolding_all refine' For_invVF lF' ?k1 ?k2 ?_; (case k1 => exact rfl); (case k2 => exact rfl); k_whole)))
local macro_rules | `(tactic| walk_at "exec While") => `(tactic| k_extra "MYWHILE")
local macro_rules | `(tactic| walk_at "exec While Compare cons nil") => `(tactic| k_extra "MYWHILE")
local macro_rules | `(tactic| walk_at "exec While Constant cons nil") => `(tactic| k_extra "MYWHILE")
local macro_rules | `(tactic| walk_at "KswEnd") => `(tactic| ((with_reducible show KswEnd _ _ _ _ _ _ _ _ _ _ _ _); refine Mine.hold_of ?_))
local macro_rules | `(tactic| walk_at "m_backL") => `(tactic| (intro h9 tk9 t9 hk9 hl9; (with_reducible rename Fr _ _ _ _ => F8); (with_reducible rename News _ _ _ _ => N8); (have F9 := Fr.keeps F8 hk9); (have N9 := News.grown N8 hk9); clear F8 N8 hk9; (try dsimp only); (try k_fold)))
local macro_rules | `(tactic| walk_at "call ref") => `(tactic| k_extra "MYCALL")
local macro_rules | `(tactic| walk_at "exec For Tuple Call cons nil") => `(tactic| (k_here; (rename Fr _ _ _ _ => lF'); (with_unfolding_all refine' For_invTF lF' ?_ ?k; (case k => (intro _; rfl)))))
local macro_rules | `(tactic| walk_at "execs cons Assign cons") => `(tactic| (with_reducible refine wpAny_execs_cons ?_))
local macro_rules | `(tactic| walk_at "execs cons Assign nil") => `(tactic| (with_reducible refine wpAny_execs_cons ?_))
local macro_rules | `(tactic| walk_at "execs cons Expr cons") => `(tactic| (with_reducible refine wpAny_execs_cons ?_))
local macro_rules | `(tactic| walk_at "execs cons Expr nil") => `(tactic| (with_reducible refine wpAny_execs_cons ?_))
local macro_rules | `(tactic| walk_at "execs cons If cons") => `(tactic| (with_reducible refine wpAny_execs_cons ?_))
local macro_rules | `(tactic| walk_at "execs cons If nil") => `(tactic| (with_reducible refine wpAny_execs_cons ?_))
local macro_rules | `(tactic| walk_at "execs cons For cons") => `(tactic| (with_reducible refine wpAny_execs_cons ?_))
local macro_rules | `(tactic| walk_at "execs cons For nil") => `(tactic| (with_reducible refine wpAny_execs_cons ?_))
local macro_rules | `(tactic| walk_at "execs cons While cons") => `(tactic| (with_reducible refine wpAny_execs_cons ?_))
local macro_rules | `(tactic| walk_at "execs cons While nil") => `(tactic| (with_reducible refine wpAny_execs_cons ?_))
local macro_rules | `(tactic| walk_at "execs cons Return cons") => `(tactic| (with_reducible refine wpAny_execs_cons ?_))
local macro_rules | `(tactic| walk_at "execs cons Return nil") => `(tactic| (with_reducible refine wpAny_execs_cons ?_))
local macro_rules | `(tactic| walk_at "InvEndN") => `(tactic| ((with_reducible show InvEndN _ _ (Mine.MK _ _ _ _ _ _) _ _ _ _); refine Mine.hold_of ?_))
local macro_rules | `(tactic| walk_at "call ref") => `(tactic| first | k_extra "MYCALL" | refine Mine.hold_of ?_)
local macro_rules | `(tactic| walk_at "pyIter ref") => `(tactic| first | k_extra "MYLOOP" | refine Mine.hold_of ?_)
local macro_rules | `(tactic| walk_at "exec Assign cons ListComp") => `(tactic| (k_here; k_dflt (refine LCg.Assign_ListComp_U (F₀ := by k_asm) (by rfl) (by with_unfolding_all rfl) (by with_unfolding_all rfl) (by decide) (by rfl) (by decide) (by rfl) (by rfl) (by rfl) ?_)))
local macro_rules | `(tactic| walk_at "eval ListComp") => `(tactic| (k_here; (with_reducible show wpAny _ _ (eval (PySem.Expr.ListComp _ [⟨_, _, [], _⟩] _ _) _) _ _ _); k_dflt (refine LCg.ListComp_U (F₀ := by k_asm) (by with_unfolding_all rfl) (by decide) (by rfl) (by decide) (by rfl) ?_)))
local macro_rules | `(tactic| walk_at "eval ListComp") => `(tactic| (k_here; (with_reducible show wpAny _ _ (eval (PySem.Expr.ListComp _ [⟨_, _, [_], _⟩] _ _) _) _ _ _); k_dflt (refine LCt.ListComp_T (F₀ := by k_asm) (by with_unfolding_all rfl) (by decide) (by rfl) (by decide) (by rfl) ?_)))
local macro_rules | `(tactic| walk_at "call builtin:max") => `(tactic| first | k_extra "MYMAX" | refine Mine.hold_of ?_)
local macro_rules | `(tactic| walk_at "binaryOp Add ref ref") => `(tactic| k_extra "MYADD")
local macro_rules | `(tactic| walk_at "CompSrc") => `(tactic| first | k_extra "MYCOMP" | refine Mine.hold_of ?_)
local macro_rules | `(tactic| walk_at "CompSrcT") => `(tactic| first | k_extra "MYCOMPT" | refine Mine.hold_of ?_)
local macro_rules | `(tactic| walk_at "CompEnd") => `(tactic| first | k_extra "MYEND" | refine Mine.hold_of ?_)
local macro_rules | `(tactic| walk_at "exec For Name Tuple cons nil") => `(tactic| (k_here; (rename Fr _ _ _ _ => lF'); (with_unfolding_all refine' For_invVF lF' ?k1 ?k2 ?_; (case k1 => exact rfl); (case k2 => exact rfl); k_whole)))
local macro_rules | `(tactic| walk_at "subscriptTail Name Slice ref ref") => `(tactic| k_extra "MYSLICE")
local macro_rules | `(tactic| walk_at "m_pick") => `(tactic| exact Mine.pickL_neg1 _)
local macro_rules | `(tactic| walk_at "call builtin:bytes.join") => `(tactic| (k_here; (with_unfolding_all refine' Mine.join_L ?k1 ?k2 ?k3 ?_; (case k1 => is_list); (case k2 => first | assumption | exact Mine.BsAre.append (by assumption) (by assumption)); (case k3 => first | assumption | walk_at "m_size"); k_whole); intro _ _))
local macro_rules | `(tactic| walk_at "call type:bytes") => `(tactic| k_extra "MYBYTES")
local macro_rules | `(tactic| walk_at "call type:bytes") => `(tactic| (k_here; (with_reducible show wpAny _ _ (call (Value.type "bytes") [Value.ref _]) _ _ _); k_dflt (refine' Mine.bytes_two (by k_asm) (by k_asm) (News.isList (by k_asm) (by k_mem)) rfl ?_; k_whole); intro h' t' k' F' N'; (try k_sweep)))
local macro_rules | `(tactic| walk_at "m_none") => `(tactic| fail "none")
local macro_rules | `(tactic| walk_at "m_none") => `(tactic| fail "none")
local macro_rules | `(tactic| walk_at "m_none") => `(tactic| fail "none")
local macro_rules | `(tactic| walk_at "m_none") => `(tactic| fail "none")
local macro_rules | `(tactic| walk_at "m_none") => `(tactic| fail "none")
local macro_rules | `(tactic| walk_at "m_none") => `(tactic| fail "none")
local macro_rules | `(tactic| walk_at "m_none") => `(tactic| fail "none")
local macro_rules | `(tactic| walk_at "m_none") => `(tactic| fail "none")
local macro_rules | `(tactic| walk_at "m_none") => `(tactic| fail "none")
local macro_rules | `(tactic| walk_at "m_none") => `(tactic| fail "none")
local macro_rules | `(tactic| walk_at "m_none") => `(tactic| fail "none")
local macro_rules | `(tactic| walk_at "m_none") => `(tactic| fail "none")
local macro_rules | `(tactic| walk_at "m_none") => `(tactic| fail "none")
local macro_rules | `(tactic| walk_at "m_none") => `(tactic| fail "none")
local macro_rules | `(tactic| walk_at "m_none") => `(tactic| fail "none")
local macro_rules | `(tactic| walk_at "m_none") => `(tactic| fail "none")
local macro_rules | `(tactic| walk_at "m_none") => `(tactic| fail "none")
local macro_rules | `(tactic| walk_at "m_none") => `(tactic| fail "none")
local macro_rules | `(tactic| walk_at "m_none") => `(tactic| fail "none")
local macro_rules | `(tactic| walk_at "m_none") => `(tactic| fail "none")
local macro_rules | `(tactic| walk_at "m_none") => `(tactic| fail "none")
local macro_rules | `(tactic| walk_at "m_none") => `(tactic| fail "none")
local macro_rules | `(tactic| walk_at "m_none") => `(tactic| fail "none")
local macro_rules | `(tactic| walk_at "m_none") => `(tactic| fail "none")
local macro_rules | `(tactic| walk_at "m_none") => `(tactic| fail "none")
local macro_rules | `(tactic| walk_at "m_none") => `(tactic| fail "none")
local macro_rules | `(tactic| walk_at "m_none") => `(tactic| fail "none")
local macro_rules | `(tactic| walk_at "m_none") => `(tactic| fail "none")
local macro_rules | `(tactic| walk_at "m_none") => `(tactic| fail "none")
local macro_rules | `(tactic| walk_at "m_none") => `(tactic| fail "none")
local macro_rules | `(tactic| walk_at "m_none") => `(tactic| fail "none")
local macro_rules | `(tactic| walk_at "m_none") => `(tactic| fail "none")
local macro_rules | `(tactic| walk_at "m_none") => `(tactic| fail "none")
local macro_rules | `(tactic| walk_at "m_none") => `(tactic| fail "none")
local macro_rules | `(tactic| walk_at "m_none") => `(tactic| fail "none")
local macro_rules | `(tactic| walk_at "m_none") => `(tactic| fail "none")
local macro_rules | `(tactic| walk_at "m_none") => `(tactic| fail "none")
local macro_rules | `(tactic| walk_at "m_none") => `(tactic| fail "none")
namespace Mine
theorem fr_but {h₀ h h' : Heap} {L d : Addr} {m : Str → Option Value} (F : Fr h₀ L h m) (hk : ∀ b o, b ≠ d → h.get? b = some o → h'.get? b = some o) (hd : h₀.get? d = none) (hL : d ≠ L) : Fr h₀ L h' m := by
  refine ⟨?_, fun b o e => hk b o (fun q => by rw [q, hd] at e; cases e) (F.keep b o e), F.above⟩
  obtain ⟨oL, a, b, h1, h2⟩ := F.ns
  exact ⟨oL, a, b, hk _ _ (Ne.symm hL) h1, h2⟩
theorem news_but {h₀ h h' : Heap} {L d : Addr} {o o' : Obj} {rest : List (Addr × Obj)} (N : News h₀ L h ((d, o) :: rest)) (hk : ∀ b o, b ≠ d → h.get? b = some o → h'.get? b = some o) (hd : h'.get? d = some o') (hne : ∀ p ∈ rest, p.1 ≠ d) : News h₀ L h' ((d, o') :: rest) := by
  intro p hp
  rcases List.mem_cons.mp hp with rfl | hp
  · exact ⟨hd, (N _ (.head _)).2⟩
  · exact ⟨hk _ _ (hne p hp) (N _ (.tail _ hp)).1, (N _ (.tail _ hp)).2⟩
theorem news_hd {h₀ h : Heap} {L : Addr} {x : Addr × Obj} {rest sub : List (Addr × Obj)} (N : News h₀ L h (x :: rest)) (hs : ∀ p ∈ sub, p ∈ x :: rest) : News h₀ L h (x :: sub) := by
  intro p hp
  rcases List.mem_cons.mp hp with rfl | hp
  · exact N _ (.head _)
  · exact N _ (hs p hp)
set_option maxRecDepth 100000 in
set_option maxHeartbeats 8000000 in
theorem law_all : PySem.Challenge.rw_or0024_01.Holds := Mine.hd (by
  k_go0
  rename Frag.In _ _ => X
  rename Top _ _ _ _ _ _ => T
  rename IntsAre _ _ => hI
  rename Heap.IsList _ _ _ => hL
  rename ¬ (_ < _) => hcond
  rename Fr _ _ _ _ => Fz
  rename News _ _ _ _ => Nz
  rename_i s0 s1 mg mb zG zY fA oo pm doc kV zho zhg zX zV zGL zB zTE zTW z9 z8 zM cdA z6 zcd ns zs zl0 zL zr1 zl2 z4 z3 lA vs z0 zra zw1 zr0 zr zc zK zD h1
  clear zD zK zc zr zr0 zw1 zra zl2 zr1 zL zl0 zs zcd zM zTW zTE zB
  clear z0 z3 z4 z6 z8 z9 zGL zV zX zho zY zG
  replace hcond : ns.length ≤ 63 := by omega
  try k_fold
  k_with_none
  k_with "MYCALL" =>
    k_here
    k_dflt (first
      | with_unfolding_all refine' wpAny_call (Mine.deck_spec (by exact X.keeps (Fr.keep (by assumption))) (by exact T.keeps (Fr.keep (by assumption))) (by decide) (by exact Fr.lst (by assumption) hL) hI (by omega) ?_)
        intro h9 tk9 d dc t9 ws9 ms9 n9 m9 hk9 hd9 hd0 hc9 hc0 hcd hI9 hl9 hb9
        rename Fr _ _ _ _ => F8
        rename News _ _ _ _ => N8
        have F9 := F8.keeps hk9
        have N9 := news_plus F8 N8 hk9 (add := [(d, listOf [Value.ref dc, Value.int 0 t9].toArray n9), (dc, listOf ws9.toArray m9)]) (by
          intro p hp
          rcases List.mem_cons.mp hp with rfl | hp
          · exact ⟨hd9, hd0⟩
          · rw [List.mem_singleton.mp hp]; exact ⟨hc9, hc0⟩)
        have hdB := (N9 _ (.head _)).2.2
        have hdL := (N9 _ (.head _)).2.1
        dsimp only at hdB hdL
        simp only [List.cons_append, List.nil_append, List.append_nil] at N9
        clear F8 N8 hk9 hd9 hd0 hc9 hc0
      | rename Fr _ _ _ _ => F8
        rename News _ _ _ _ => N8
        with_unfolding_all refine' wpAny_call (Mine.card_spec X T (by decide) F8.keep hdB (N8 _ (.tail _ (.tail _ (.tail _ (.head _))))).1 ⟨_, (N8 _ (.tail _ (.tail _ (.tail _ (.tail _ (.head _)))))).1, rfl, _, rfl⟩ hcd hI9 hl9 hb9 (by decide) (by decide) (by decide) (by decide) ?_)
        intro h9 tk9 v9 t9' t29 n29 hk9 hd9 hv0 hv1
        rename_i hx6 lP hx5 a1 lC hx4 a2 lD hx3 a3 hx2 hx1 hx0
        have hdP : @LT.lt Nat _ d lP := a1.1
        have hcP : @LT.lt Nat _ dc lP := a1.2
        have hPC : @LT.lt Nat _ lP lC := a2.1
        have hPd : lP ≠ d := neN (by omega)
        have hCd : lC ≠ d := neN (by omega)
        have F9 := fr_but F8 hk9 hdB hdL
        have N9 := news_but (rest := [(dc, listOf ws9.toArray m9), (lP, listOf ([] : List Value).toArray 0), (lC, listOf ([] : List Value).toArray 0)]) (fun p hp => N8 p (by
          rcases List.mem_cons.mp hp with rfl | hp
          · exact .tail _ (.tail _ (.tail _ (.head _)))
          · rcases List.mem_cons.mp hp with rfl | hp
            · exact .tail _ (.tail _ (.tail _ (.tail _ (.head _))))
            · rcases List.mem_cons.mp hp with rfl | hp
              · exact .tail _ (.tail _ (.head _))
              · rw [List.mem_singleton.mp hp]; exact .tail _ (.head _))) hk9 hd9 (List.forall_mem_cons.mpr ⟨hcd, List.forall_mem_cons.mpr ⟨hPd, List.forall_mem_cons.mpr ⟨hCd, fun _ h => nomatch h⟩⟩⟩)
        clear F8 N8 hk9 hd9 a1 a2 a3
      | rename Fr _ _ _ _ => F8
        rename News _ _ _ _ => N8
        with_unfolding_all refine' wpAny_call (Mine.card_spec X T (by decide) F8.keep hdB (N8 _ (.head _)).1 ⟨_, (N8 _ (.tail _ (.head _))).1, rfl, _, rfl⟩ hcd hI9 hl9 hb9 (by omega) (by omega) (by decide) (by decide) ?_)
        intro h9 tk9 v9 t9' t29 n29 hk9 hd9 hv0 hv1
        have F9 := fr_but F8 hk9 hdB hdL
        have N9 := news_but N8 hk9 hd9 (List.forall_mem_cons.mpr ⟨hcd, List.forall_mem_cons.mpr ⟨hPd, List.forall_mem_cons.mpr ⟨hCd, by first | exact hoffd | exact fun _ h => nomatch h⟩⟩⟩)
        try have q9 := fd16 hv0 (by omega)
        clear F8 N8 hk9 hd9
      | rename Fr _ _ _ _ => F8
        rename News _ _ _ _ => N8
        with_unfolding_all refine' wpAny_call (Mine.soft_spec (by exact X.keeps F8.keep) (by exact T.keeps F8.keep) (by decide) ⟨_, (N8 (lP, listOf wp.toArray np) (by k_mem)).1, rfl, _, rfl⟩ hP1 (by (rw [List.length_map]; omega)) hSm hw1 (by omega) ?_)
        intro h9 tk9 lL wl nl hk9 hr9 hf9 hB9
        rw [← hls] at hB9
        have hwl := hB9.length
        have F9 := F8.keeps hk9
        have N9 := news_plus F8 N8 hk9 (add := [(lL, listOf wl.toArray nl)]) (by intro p hp; rw [List.mem_singleton.mp hp]; exact ⟨hr9, hf9⟩)
        have hKL : @Ne Nat lL lK := apart_new N8 hf9 (p := (lK, listOf wk.toArray nk)) (by k_mem)
        simp only [List.cons_append, List.nil_append] at N9
        clear F8 N8 hk9 hr9 hf9
      | rename Fr _ _ _ _ => F8
        rename News _ _ _ _ => N8
        with_unfolding_all refine' wpAny_call (Mine.few_spec (by exact X.keeps F8.keep) (by exact T.keeps F8.keep) (by decide) ⟨_, (N8 (lZ, LCg.lst ys) (by k_mem)).1, rfl, _, rfl⟩ hI7 (by (simp only [List.length_map]; omega)) hSz hw1 (by omega) ?_)
        intro h9 tk9 t9 hk9
        have F9 := F8.keeps hk9
        have N9 := News.grown N8 hk9
        clear F8 N8 hk9
      | rename Fr _ _ _ _ => F8
        rename News _ _ _ _ => N8
        with_unfolding_all refine' wpAny_call (Mine.joined_spec (by exact X.keeps F8.keep) (by exact T.keeps F8.keep) (by decide) ⟨_, (N8 (lL, listOf wl.toArray nl) (by k_mem)).1, rfl, _, rfl⟩ hB9 (by omega) hSmL ?_)
        intro h9 tk9 t9 hk9
        have F9 := F8.keeps hk9
        have N9 := News.grown N8 hk9
        clear F8 N8 hk9
      | rename Fr _ _ _ _ => F8
        rename News _ _ _ _ => N8
        with_unfolding_all refine' wpAny_call (Mine.qdec_spec (by exact X.keeps F8.keep) (by exact T.keeps F8.keep) (by decide) hA7 ?_)
        intro h9 tk9 t9 hk9
        have F9 := F8.keeps hk9
        have N9 := News.grown N8 hk9
        clear F8 N8 hk9)
    try dsimp only
    try k_fold
  k_with "MYLOOP" =>
    k_dflt (
      first
      | rename Fr _ _ _ _ => lF'
        rename News _ _ _ _ => lN'
        rename IsRange _ _ _ _ _ _ _ _ => rgX
        with_unfolding_all refine' m_range (σ := BS) (n := (v9 - 0).toNat) (fun i c => [(d, listOf [Value.ref dc, Value.int c.sp c.t].toArray c.n), (dc, listOf ws9.toArray m9), (lP, listOf c.wp.toArray c.np), (lC, listOf c.wc.toArray c.nc)]) (fun i c => []) [Str.ofString "code"] (fun i c => BsAre c.wp (c.ps.map encP) ∧ IntsAre c.wc (c.ps.map encK) ∧ (∀ q ∈ c.ps, OkP q) ∧ c.ps.length = i ∧ 0 ≤ c.sp ∧ c.sp ≤ 1 + 2 * (i : Int)) ⟨[], 0, [], 0, 0 + 1, _, _, []⟩ rfl rgX ?k1 ?k2 lF' lN' ?k3 ?k4 ?kt ?kd
        case k1 => exact small_one (by omega) (by omega) (by omega) (by omega)
        case k2 => exact rangeSize_nat _ _
        case k3 => kst_all
        case k4 => exact ⟨.nil, .nil, (fun _ h => nomatch h), rfl, (show (0 : Int) ≤ 0 + 1 by decide), (show (0 : Int) + 1 ≤ 1 + 2 * ((0 : Nat) : Int) by decide)⟩
        all_goals clear lF' lN'
        case' kt =>
          intro i t c u9 h tk own hi hoff hP F' N'
          obtain ⟨wp, np, wc, nc, sp, t0, n0, qs⟩ := c
          dsimp only [List.map, kstB] at F' N' hP hoff
          obtain ⟨hP1, hP2, hP3, hP4, hP5, hP6⟩ := hP
          simp only [List.cons_append, List.nil_append] at N'
          have hoffd : ∀ p ∈ own, p.1 ≠ d := fun p hp => hoff p hp _ (.head _)
          have hbl := hP1.length
          have hkl := hP2.length
          rw [List.length_map] at hbl hkl
          have hi' : i < 12 := by omega
        case' kd =>
          intro c u9 h tk hP F' N'
          obtain ⟨wp, np, wc, nc, sp, t0, n0, qs⟩ := c
          dsimp only [kstB] at F' N' hP
          obtain ⟨hP1, hP2, hP3, hP4, hP5, hP6⟩ := hP
          have hbl := hP1.length
          have hkl := hP2.length
          rw [List.length_map] at hbl hkl
          have hi' : qs.length < 12 := by omega
        have hSm := small_enc qs
      | rename Fr _ _ _ _ => lF'
        rename News _ _ _ _ => lN'
        rename_i lZ hx3 tkx o1 lK hx2 l11 hx1 lD hx0 l10
        have lN2 := news_hd (sub := [(lK, listOf ([] : List Value).toArray 0), (lZ, LCg.lst ys), (lP, listOf wp.toArray np), (lC, listOf wc.toArray nc)]) lN' (by
          intro p hp
          rcases List.mem_cons.mp hp with rfl | hp
          · exact .tail _ (.head _)
          · rcases List.mem_cons.mp hp with rfl | hp
            · exact .tail _ (.tail _ (.head _))
            · rcases List.mem_cons.mp hp with rfl | hp
              · exact .tail _ (.tail _ (.tail _ (.tail _ (.tail _ (.head _)))))
              · rw [List.mem_singleton.mp hp]; exact .tail _ (.tail _ (.tail _ (.tail _ (.tail _ (.tail _ (.head _)))))))
        with_unfolding_all refine' m_wide (σ := List Value × Nat) (ns := [4 + v9, 4 + v9 + 1, 4 + v9 + 3]) (fun i c => [(lK, listOf c.1.toArray c.2), (lZ, LCg.lst ys), (lP, listOf wp.toArray np), (lC, listOf wc.toArray nc)]) (fun i c => []) [Str.ofString "lines"] (fun i c => IntsAre c.1 (([4 + v9, 4 + v9 + 1, 4 + v9 + 3].take i).map fun wd => ((softL wd (qs.map encP)).length : Int))) ([], 0) rfl (.cons _ _ (.cons _ _ (.cons _ _ .nil))) lF' lN2 ?ko ?ko3 ?ko4 ?kt2 ?kd2
        case ko =>
          intro p hp
          rcases List.mem_cons.mp hp with rfl | hp
          · exact neN (by omega)
          · rcases List.mem_cons.mp hp with rfl | hp
            · exact neN (by omega)
            · rcases List.mem_cons.mp hp with rfl | hp
              · exact neN (by omega)
              · rw [List.mem_singleton.mp hp]; exact neN (by omega)
        case ko3 => kst_all
        case ko4 => exact .nil
        all_goals clear lF' lN' lN2
        case' kt2 =>
          intro i wd t c u9 h tk own hki hoff hP F' N'
          obtain ⟨wk, nk⟩ := c
          dsimp only [List.map, kstB] at F' N' hP hoff
          simp only [List.cons_append, List.nil_append] at N'
          have hwd : 4 ≤ wd ∧ wd ≤ 12 := by
            have := List.mem_of_getElem? hki
            simp only [List.mem_cons, List.not_mem_nil, or_false] at this
            omega
          obtain ⟨hw1, hw2⟩ := hwd
          have hi3 : i < 3 := (List.getElem?_eq_some_iff.mp hki).1
          have hkl3 := hP.length
          have hkl4 : wk.length ≤ 3 := by rw [hkl3, List.length_map, List.length_take]; omega
          clear hkl3
          obtain ⟨ls, hls⟩ : ∃ ls, ls = softL wd (qs.map encP) := ⟨_, rfl⟩
          have hSz := enc_sizes qs
          have hA1 := p_len qs hw1
          have hA2 := p_wide qs hw1
          have hA3 := p_ends qs hw1
          have hA4 := p_join qs hw1
          have hA5 := p_few qs hw1
          have hA6 := p_dec qs hw1 hP3
          have hSmL := p_small qs hw1 (by omega)
          rw [← hls] at hA1 hA2 hA3 hA4 hA5 hA6 hSmL
          have hA7 : ((joinedSt ls).flatten).length ≤ 900 := by
            have h1 := joined_len (n := 12) (xs := ls) fun z hz => by have := hA2 z hz; omega
            have h2 : ls.length * (12 + 2) ≤ 12 * 14 := Nat.mul_le_mul_right _ (by omega)
            omega
          have hF1 : ((qs.map encP).flatten).length ≤ 1000000 := enc_flat qs (by omega)
          have hF2 := hF1
          rw [← hA4] at hF2
          have hO6 := enc_ok hP3
        case' kd2 =>
          intro c u9 h tk hP F' N'
          obtain ⟨wk, nk⟩ := c
          dsimp only [kstB] at F' N' hP
          rw [List.take_length] at hP
          simp only [List.map_cons, List.map_nil] at hP
          have hM1 := p_more qs (wd := 4 + v9) (wd' := 4 + v9 + 1) (by omega) (by omega)
          have hM2 := p_more qs (wd := 4 + v9 + 1) (wd' := 4 + v9 + 3) (by omega) (by omega)
          have hkl4 := hP.length
          simp only [List.length_cons, List.length_nil] at hkl4
      all_goals (try k_fold))
  k_with "MYBYTES" =>
    k_here
    rename Fr _ _ _ _ => sF'
    rename News _ _ _ _ => sN'
    k_dflt (
      refine' bytes_K sF' sN' ⟨_, (sN' (lC, listOf wc.toArray nc) (by k_mem)).1, rfl, _, rfl⟩ hP2 hO6 (by rw [sizeLine_eq]; omega) rfl ?_
      intro h' t' k' F' N' _)
  k_with "MYSLICE" =>
    k_here
    rename Fr _ _ _ _ => sF'
    rename News _ _ _ _ => sN'
    first
    | (k_dflt (refine' cut_init sF' sN' ⟨_, (sN' (lL, listOf wl.toArray nl) (by k_mem)).1, rfl, _, rfl⟩ hB9 ?_ (by with_unfolding_all rfl) (by kmk_pure) (by omega)); intro D' h' F' N' l1 hB7; (try k_lt l1))
    | (k_dflt (refine' cut_last sF' sN' ⟨_, (sN' (lL, listOf wl.toArray nl) (by k_mem)).1, rfl, _, rfl⟩ hB9 ?_ (by with_unfolding_all rfl) (by kmk_pure) (by omega)); intro D' h' F' N' l1 hB6; (try k_lt l1))
  k_with "MYADD" =>
    k_here
    rename Fr _ _ _ _ => sF'
    rename News _ _ _ _ => sN'
    k_dflt (refine' add_B sF' sN' ⟨_, (sN' (_, LCg.lst ys6) (by k_mem)).1, rfl, _, rfl⟩ ⟨_, (sN' (_, listOf (wl.drop (wl.length - 1)).toArray 0) (by k_mem)).1, rfl, _, rfl⟩ hB5 hB6 ?_ (by simp only [List.length_map, List.length_take, List.length_drop]; omega))
    intro D' h' F' N' l1 hB4
    try k_lt l1
  k_with "MYEND" =>
    k_dflt (
      (refine' LCg.CompEnd.intro (by assumption) (by assumption) _ (by kcf_all) off9 (by lcg_src) ⟨rfl, ?_⟩)
      first | exact ⟨_, rfl⟩ | exact True.intro | (refine Mine.hold_of ?_))
  k_with "MYCOMP" =>
    k_here
    rename Fr _ _ _ _ => sF'
    rename News _ _ _ _ => sN'
    k_dflt (
      first
      | with_reducible show LCg.CompSrc _ _ _ _ _ _ _ (PySem.Expr.Subscript _ _ _) _ _ _ _ _ _
        refine LCg.CompSrc.ledger (by rfl) sF' sN' (by k_mem) (by rw [sizeLine_eq, List.size_toArray, BsAre.length hB7, List.length_take]; omega) ?_
        intro g'
        refine' b_list (fun x y => ∃ t, y = Value.bytes ((fun (x : List UInt8) => x.take (x.length - 1)) x).toArray t) hB7 (fun z t I oI C oC D m2 ys h tk E' hz hC hx F' N' off9 ne' => ?_) ?_
        have hz2 : z.length ≤ 200 := hSmL z (List.mem_of_mem_take hz)
        have off8 := off9
        simp only [LCg.Off3] at off8
        rotate_left 1
        intro ys6 hR
        have hB5 := R2.bs hR
        have hl5 := hB5.length
        simp only [List.length_map, List.length_take] at hl5
        clear hR
        rotate_right 1
      | refine LCg.CompSrc.ledger (by rfl) sF' sN' (by k_mem) (by rw [sizeLine_eq, List.size_toArray, BsAre.length hP1, List.length_map]; omega) ?_
        intro g'
        refine' b_list (fun x y => ∃ t, y = Value.int ((fun (x : List UInt8) => (x.length : Int)) x) t) hP1 (fun z t I oI C oC D m2 ys h tk E' hz hC hx F' N' off9 ne' => ?_) ?_
        have hz2 : z.length ≤ 200 := hSm z hz
        have off8 := off9
        simp only [LCg.Off3] at off8
        rotate_left 1
        intro ys hR
        have hI7 := R2.ints hR
        have hl7 := hI7.length
        simp only [List.length_map] at hl7
        clear hR
        rotate_right 1
      | refine LCg.CompSrc.ledger (by rfl) sF' sN' (by k_mem) (by rw [sizeLine_eq, List.size_toArray, BsAre.length hB9]; omega) ?_
        intro g'
        refine' b_list (fun x y => ∃ t, y = Value.int ((fun (x : List UInt8) => (x.length : Int)) x) t) hB9 (fun z t I oI C oC D m2 ys4 h tk E' hz hC hx F' N' off9 ne' => ?_) ?_
        have hz2 : z.length ≤ 200 := hSmL z hz
        have off8 := off9
        simp only [LCg.Off3] at off8
        rotate_left 1
        intro ys4 hR
        have hI4 := R2.ints hR
        have hl4 := hI4.length
        simp only [List.length_map] at hl4
        clear hR
        rotate_right 1)
    all_goals (try k_fold)
  k_with "MYMAX" =>
    k_here
    rename Fr _ _ _ _ => sF'
    rename News _ _ _ _ => sN'
    k_dflt (
      refine' kso_max sF' sN' (News.isList sN' (by k_mem)) hI4 (by simp only [List.length_map]; omega) rfl ?_
      intro h' M' t' k' F' N' hm1 hm2
      have hM : M' ≤ wd := by
        obtain ⟨z, hz, e⟩ := List.mem_map.mp hm1
        have := hA2 z hz
        rw [← e]
        exact this
      clear hm1 hm2)
  k_with "MYCOMPT" =>
    k_here
    rename Fr _ _ _ _ => sF'
    rename News _ _ _ _ => sN'
    k_dflt (
      refine LCt.CompSrcT.ledger (by rfl) sF' sN' (by k_mem) (by rw [sizeLine_eq, List.size_toArray, BsAre.length hB7, List.length_take]; omega) ?_
      intro g'
      refine' b_none hB7 (fun z t I oI C oC D m2 h tk E' hz hC hx F' N' off9 ne' => ?_) ?_
      have hz2 : z.length ≤ 200 := hSmL z (List.mem_of_mem_take hz)
      have hz3 := hA3 z hz
      have off8 := off9
      simp only [LCg.Off3] at off8)
    all_goals (try k_fold)
  k_steps
  · rename (_ != _) = true => hne
    rw [hz3] at hne
    exact absurd hne (by decide)
  · rename News _ _ _ _ => N9
    rename Fr _ _ _ _ => F9
    simp only [List.push_toArray] at N9
    refine' m_end ⟨_, _⟩ F9 N9 ?hn ?ho ?ha ?h1 ?h2 ?hp
    case hn => kst_in
    case ho => (intro p hp; kst_mem)
    case ha => rfl
    case h1 => (intro q hq; nomatch hq)
    case h2 => kst_same
    case hp =>
      dsimp only
      rw [List.take_add_one, hki, List.map_append]
      refine hP.append ?_
      show IntsAre _ [((softL wd (qs.map encP)).length : Int)]
      rw [← hls]
      exact .cons _ _ .nil
  · rename News _ _ _ _ => N9
    rename Fr _ _ _ _ => F9
    simp only [List.push_toArray] at N9
    refine' m_end (⟨_, _, _, _, _, _, _, qs ++ [(true, v9.toNat)]⟩ : BS) F9 N9 ?hn ?ho ?ha ?h1 ?h2 ?hp
    case hn => kst_in
    case ho => (intro p hp; kst_mem)
    case ha => rfl
    case h1 => (intro q hq; nomatch hq)
    case h2 => kst_same
    case hp =>
      refine ⟨?_, ?_, ?_, ?_, ?_, ?_⟩
      · dsimp only
        rw [List.map_append]
        refine hP1.append ?_
        show BsAre _ [encP (true, v9.toNat)]
        rw [encQ hv0 hv1]
        exact .one _ _
      · dsimp only
        rw [List.map_append]
        refine hP2.append ?_
        show IntsAre _ [((v9.toNat : Nat) : Int)]
        rw [Int.toNat_of_nonneg hv0]
        exact .cons _ _ .nil
      · intro q hq
        rcases List.mem_append.mp hq with hq | hq
        · exact hP3 q hq
        · rw [List.mem_singleton.mp hq]; exact okQ hv0 hv1
      · dsimp only; rw [List.length_append, hP4]; rfl
      · dsimp only; omega
      · dsimp only; omega
  · rename News _ _ _ _ => N9
    rename Fr _ _ _ _ => F9
    simp only [List.push_toArray] at N9
    refine' m_end (⟨_, _, _, _, _, _, _, qs ++ [(false, (97 + v9).toNat)]⟩ : BS) F9 N9 ?hn ?ho ?ha ?h1 ?h2 ?hp
    case hn => kst_in
    case ho => (intro p hp; kst_mem)
    case ha => rfl
    case h1 => (intro q hq; nomatch hq)
    case h2 => kst_same
    case hp =>
      refine ⟨?_, ?_, ?_, ?_, ?_, ?_⟩
      · dsimp only
        rw [List.map_append]
        refine hP1.append ?_
        show BsAre _ [encP (false, (97 + v9).toNat)]
        exact .one _ _
      · dsimp only
        rw [List.map_append]
        refine hP2.append ?_
        show IntsAre _ [(((97 + v9).toNat : Nat) : Int)]
        rw [Int.toNat_of_nonneg (by omega)]
        exact .cons _ _ .nil
      · intro q hq
        rcases List.mem_append.mp hq with hq | hq
        · exact hP3 q hq
        · rw [List.mem_singleton.mp hq]; exact okA hv0 hv1
      · dsimp only; rw [List.length_append, hP4]; rfl
      · dsimp only; omega
      · dsimp only; omega
  )
end Mine

end PartLaw
set_option maxRecDepth 100000 in
set_option maxHeartbeats 8000000 in
theorem PySem.Challenge.cw_or0024_01_holds : PySem.Challenge.rw_or0024_01.Holds := by
  exact Mine.law_all
