import PyProof.Rows.All
import Wide.All
import OpenK.AllK
import Wide.FinOn
import PySem.Challenge.RW_rh0193_01
set_option Elab.async false
set_option linter.all false

section
open PySem PySem.W PyProof.Rows
namespace Mine
set_option maxRecDepth 100000 in
set_option maxHeartbeats 8000000 in
open_top hd for PySem.Challenge.rw_rh0193_01
end Mine
end

local macro_rules | `(tactic| walk_at $s:str) => `(tactic| k_extra $s)
local macro_rules | `(tactic| k_ne) => `(tactic| k_extra "k_ne")

section
open PySem PySem.W PyProof.Rows PySem.Calls
namespace Mine

abbrev Led := List (Addr × Obj)
def Halt (P : Prop) : Prop := P
theorem halt {P : Prop} (h : Halt P) : P := h
theorem Halt.out {P : Prop} (h : P) : Halt P := h

/-- the end of a turn: the iterator `I` stands as it stood, the rest of the ledger is what `J` says -/
def TEnd (h₀ : Heap) (L I : Addr) (oI : Obj) (J : (PySem.Str → Option Value) → Led → Prop) (s₁ : Shared) (Q : Flow → Shared → Prop) (f : Flow) (s₂ : Shared) : Prop :=
  match f with
  | .ret v => Q (.ret v) s₂
  | .brk => Q .next s₂
  | _ => ∃ h' tk m' nx, s₂ = { s₁ with heap := h', toks := tk } ∧ Fr h₀ L h' m' ∧ News h₀ L h' ((I, oI) :: nx) ∧ (∀ p ∈ nx, p.1 ≠ I) ∧ J m' nx
theorem TEnd.intro {h₀ : Heap} {L I : Addr} {oI : Obj} {J : (PySem.Str → Option Value) → Led → Prop} {s₁ : Shared} {Q : Flow → Shared → Prop} {h' : Heap} {tk : Nat} {m' : PySem.Str → Option Value} {nx : Led}
    (F : Fr h₀ L h' m') (N : News h₀ L h' ((I, oI) :: nx)) (hd : ∀ p ∈ nx, p.1 ≠ I) (j : J m' nx) : TEnd h₀ L I oI J s₁ Q .next { s₁ with heap := h', toks := tk } :=
  ⟨h', tk, m', nx, rfl, F, N, hd, j⟩
theorem TEnd.introC {h₀ : Heap} {L I : Addr} {oI : Obj} {J : (PySem.Str → Option Value) → Led → Prop} {s₁ : Shared} {Q : Flow → Shared → Prop} {h' : Heap} {tk : Nat} {m' : PySem.Str → Option Value} {nx : Led}
    (F : Fr h₀ L h' m') (N : News h₀ L h' ((I, oI) :: nx)) (hd : ∀ p ∈ nx, p.1 ≠ I) (j : J m' nx) : TEnd h₀ L I oI J s₁ Q .cont { s₁ with heap := h', toks := tk } :=
  ⟨h', tk, m', nx, rfl, F, N, hd, j⟩

section
variable {prog : Program} {w : World} {A : Around} {E : Value → Shared → Prop} {s : Shared} {env : Env} {h₀ : Heap} {target : PySem.Expr} {body : List Stmt} {Q : Flow → Shared → Prop}

theorem turns_at {I ax : Addr} {lo : Obj} {n : Nat} {P : Nat → Value → Prop} {St : Nat → Heap → Prop} {m₀ : PySem.Str → Option Value} {news : Led} {hp : Heap} {tk0 : Nat} (J : Nat → (PySem.Str → Option Value) → Led → Prop)
    (W : Walks prog w A I [I, ax] [I] n P St)
    (hgo : ∀ i v (s : Shared) (Q : Unit → Shared → Prop) (E : Value → Shared → Prop), St i s.heap → Q () s → wpAny (model prog w) A (letOwnedTupleGo target (.ref I) v) Q E s)
    (hI : ∀ i h, St i h → ∃ o, h.get? I = some o) (hax : ∀ i h, St i h → ∀ o, h.get? ax = some o → hp.get? ax = some lo → Fr h₀ env.locals h (fun _ => none) ∨ True)
    (hlo : hp.get? ax = some lo) (hsrc : h₀.get? ax = some lo ∨ ∀ i m nx, J i m nx → (ax, lo) ∈ nx)
    (hI0 : h₀.get? I = none) (hIL : I ≠ env.locals) (haxL : ax ≠ env.locals)
    (hnw : ∀ p ∈ news, p.1 ≠ I) (hst : St 0 hp) (F : Fr h₀ env.locals hp m₀) (N : News h₀ env.locals hp news) (hj : J 0 m₀ news)
    (turn : ∀ i v m₁ nx oI h tk, i < n → P i v → (∀ p ∈ nx, p.1 ≠ I) → J i m₁ nx → Fr h₀ env.locals h m₁ → News h₀ env.locals h ((I, oI) :: nx) →
      wpAny (model prog w) A (assign target env v) (fun _ s₃ => wpAny (model prog w) A (execs body env) (TEnd h₀ env.locals I oI (J (i + 1)) { s with heap := h, toks := tk } Q) E s₃) E { s with heap := h, toks := tk })
    (done : ∀ m₁ nx h tk, J n m₁ nx → Fr h₀ env.locals h m₁ → News h₀ env.locals h nx → Q .next { s with heap := h, toks := tk }) :
    TurnsAt prog w A h₀ env target body Q E (.ref I) { s with heap := hp, toks := tk0 } := by
  clear hax
  refine ⟨I, _, _, n, _, _, St, m₀, news, J, rfl, KTurns.ofWalks W hgo, ?_, ?_, ?_, hst, F, N, hj, ?_, ?_⟩
  · intro hm
    rcases List.mem_cons.mp hm with e | hm
    · exact hIL e.symm
    · exact haxL (List.mem_singleton.mp hm).symm
  · intro b hb
    rw [List.mem_singleton.mp hb]
    exact hI0
  · intro p hp' hI'
    exact hnw p hp' (List.mem_singleton.mp hI')
  · intro i v m₁ nx h₁ tk₁ own hin hP hJ hoff hown hget hall hst₁ F₁ N₁
    obtain ⟨oI, hoI⟩ := hI _ _ hst₁
    have hIown : (I, oI) ∈ own := hall I (by simp) hI0 oI hoI
    have N₂ : News h₀ env.locals h₁ ((I, oI) :: nx) := fun p hp => by
      rcases List.mem_cons.mp hp with rfl | hp
      · exact N₁ _ (List.mem_append_left _ hIown)
      · exact N₁ _ (List.mem_append_right _ hp)
    have hnx : ∀ p ∈ nx, p.1 ≠ I := fun p hp e => hoff p hp (List.mem_singleton.mpr e)
    refine wpAny_mono (turn i v m₁ nx oI h₁ tk₁ hin hP hnx hJ F₁ N₂) (fun _ s₂ h₂ => wpAny_mono h₂ (fun f s₃ p => ?_) fun _ _ e => e) fun _ _ e => e
    have fin : TEnd h₀ env.locals I oI (J (i + 1)) { s with heap := h₁, toks := tk₁ } Q .next s₃ → LoopStepU h₀ env.locals [I] own (J (i + 1)) { s with heap := h₁, toks := tk₁ } .next s₃ := by
      rintro ⟨h', tk, m', nx', e, F', N', hd, j⟩
      refine ⟨rfl, h', tk, m', nx', e, F', ?_, fun p hp hq => hd p hp (List.mem_singleton.mp hq), j⟩
      rintro ⟨pa, po⟩ hp
      rcases List.mem_append.mp hp with hp | hp
      · have hg := hget _ hp
        rcases List.mem_cons.mp (hown _ hp) with e1 | e1
        · have e2 : pa = I := e1
          subst e2
          have e3 : po = oI := Option.some.inj (hg.symm.trans hoI)
          subst e3
          exact N' _ (.head _)
        · have e2 : pa = ax := List.mem_singleton.mp e1
          subst e2
          have h0 := (N₁ _ (List.mem_append_left _ hp)).2.2
          rcases hsrc with hs | hs
          · rw [hs] at h0; cases h0
          · have hm := hs _ _ _ hJ
            have e3 : h₁.get? pa = some lo := (N₁ _ (List.mem_append_right _ hm)).1
            have e4 : po = lo := Option.some.inj (hg.symm.trans e3)
            subst e4
            exact N' _ (List.mem_cons_of_mem _ (hs _ _ _ j))
      · exact N' _ (List.mem_cons_of_mem _ hp)
    cases f with
    | ret v => exact .ret p
    | brk => exact .brk p
    | next => exact .next (fin p)
    | cont => exact .cont (fin p)
  · intro h' tk m' nx F' N' _ hJ
    exact done m' nx h' tk hJ F' N'

/-- over a list that stands still -/
theorem turns_list {ax : Addr} {lo : Obj} {vs : List Value} {e : Nat} {m₀ : PySem.Str → Option Value} {news : Led} (J : Nat → (PySem.Str → Option Value) → Led → Prop)
    (hh : A.handled = none) (hlo : s.heap.get? ax = some lo) (hc : lo.cls = .type "list") (hd : lo.data = .seq vs.toArray e)
    (hsrc : h₀.get? ax = some lo ∨ ∀ i m nx, J i m nx → (ax, lo) ∈ nx) (haxL : ax ≠ env.locals)
    (F : Fr h₀ env.locals s.heap m₀) (N : News h₀ env.locals s.heap news) (hj : J 0 m₀ news)
    (turn : ∀ I i v m₁ nx oI h tk, vs[i]? = some v → (∀ p ∈ nx, p.1 ≠ I) → J i m₁ nx → Fr h₀ env.locals h m₁ → News h₀ env.locals h ((I, oI) :: nx) →
      wpAny (model prog w) A (assign target env v) (fun _ s₃ => wpAny (model prog w) A (execs body env) (TEnd h₀ env.locals I oI (J (i + 1)) { s with heap := h, toks := tk } Q) E s₃) E { s with heap := h, toks := tk })
    (done : ∀ m₁ nx h tk, J vs.length m₁ nx → Fr h₀ env.locals h m₁ → News h₀ env.locals h nx → Q .next { s with heap := h, toks := tk }) :
    wpAny (model prog w) A (pyIter (.ref ax)) (fun it s₂ => TurnsAt prog w A h₀ env target body Q E it s₂) E s := by
  have hl : s.heap.IsList ax vs.toArray := ⟨lo, hlo, hc, e, hd⟩
  have hlt : ax < s.heap.objs.size := Heap.lt_size hlo
  have hne : ax ≠ s.heap.objs.size := Nat.ne_of_lt hlt
  refine wpAny_pyIter_list hl ?_
  have W := Walks.list (prog := prog) (w := w) hh s.heap.objs.size ax hne vs.toArray
  have hlen : vs.toArray.size = vs.length := by simp
  rw [hlen] at W
  refine turns_at (tk0 := s.toks) (lo := lo) J W (fun i v s Q E st q => letGo_listiter st.1 q) (fun i h st => by obtain ⟨o, e, _⟩ := st.1; exact ⟨o, e⟩) (fun _ _ _ _ _ _ => .inr trivial)
    (Heap.get?_push_of_some _ hlo) hsrc (next_is_new F) (Nat.ne_of_gt F.ns.lt) haxL (fun p hp => Nat.ne_of_lt (Heap.lt_size (N p hp).1)) ⟨⟨_, Heap.get?_push_size _ rfl, rfl, rfl⟩, hl.at fun o e => Heap.get?_push_of_some _ e⟩ (F.push _)
    (fun p hp => ⟨Heap.get?_push_of_some _ (N p hp).1, (N p hp).2⟩) hj ?_ done
  intro i v m₁ nx oI h tk hi hP hd' hJ F₁ N₁
  exact turn _ i v m₁ nx oI h tk (by simpa using hP) hd' hJ F₁ N₁
end
end Mine

end

section
open PySem PySem.W PyProof.Rows PySem.Calls
namespace Mine

/-- an object that stands: in what was before, or in the ledger -/
def Has (h₀ : Heap) (news : Led) (a : Addr) (o : Obj) : Prop := h₀.get? a = some o ∨ (a, o) ∈ news
theorem Has.at {h₀ h : Heap} {L : Addr} {m : PySem.Str → Option Value} {news : Led} {a : Addr} {o : Obj} (H : Has h₀ news a o) (F : Fr h₀ L h m) (N : News h₀ L h news) : h.get? a = some o :=
  H.elim (fun e => F.keep _ _ e) fun e => (N _ e).1
theorem Has.mono {h₀ : Heap} {news news' : Led} {a : Addr} {o : Obj} (H : Has h₀ news a o) (hs : ∀ p ∈ news, p ∈ news') : Has h₀ news' a o := H.imp id fun e => hs _ e

abbrev tupO (vs : List Value) (n : Nat := 0) : Obj := { cls := .type "tuple", data := .seq vs.toArray n }
abbrev lstO (vs : List Value) (n : Nat := 0) : Obj := { cls := .type "list", data := .seq vs.toArray n }

section
variable {prog : Program} {w : World}

abbrev tKnd (prog : Program) (w : World) : HeapKind prog w (List Int) := tupleKind (PySem.intKind prog w)

/-- a tuple object that holds just these ints -/
def KObj (o : Obj) (ks : List Int) : Prop := o.cls = .type "tuple" ∧ ∃ vs n, o.data = .seq vs n ∧ ∃ l, vs.toList = l ∧ IntsAre l ks
theorem KObj.two {o : Obj} {a b : Int} {t u : Tok} {n : Nat} (h : o = tupO [.int a t, .int b u] n) : KObj o [a, b] := by
  subst h
  exact ⟨rfl, _, n, rfl, _, rfl, .cons a t (.cons b u .nil)⟩
theorem itemsAre_of {prog : Program} {w : World} : ∀ {vs : List Value} {ks : List Int}, IntsAre vs ks → ItemsAre (PySem.intKind prog w) ks vs
  | _, _, .nil => .nil
  | _, _, .cons n t r => .cons (intKind_is prog w n t) (itemsAre_of r)
theorem KObj.key {h : Heap} {a : Addr} {o : Obj} {ks : List Int} (K : KObj o ks) (e : h.get? a = some o) : (tKnd prog w).is h ks a := by
  obtain ⟨hc, vs, n, hd, l, hl, hi⟩ := K
  subst hl
  exact ⟨o, vs, n, e, hc, hd, itemsAre_of hi⟩

/-- a dict object: these keys (tuples of ints), at these addresses, these values -/
def DObj (prog : Program) (w : World) (o : Obj) (xs : List (List Int × Addr × Value)) : Prop :=
  o.ExactDict ∧ ∃ es ep, o.data = .dict es ep ∧ es.toList = xs.map (entryOfKey (tKnd prog w)) ∧ (xs.map (·.1)).Nodup
def KeysIn (h₀ : Heap) (news : Led) (xs : List (List Int × Addr × Value)) : Prop := ∀ x ∈ xs, ∃ o, Has h₀ news x.2.1 o ∧ KObj o x.1
theorem KeysIn.mono {h₀ : Heap} {news news' : Led} {xs : List (List Int × Addr × Value)} (K : KeysIn h₀ news xs) (hs : ∀ p ∈ news, p ∈ news') : KeysIn h₀ news' xs := fun x hx => let ⟨o, H, k⟩ := K x hx; ⟨o, H.mono hs, k⟩
theorem KeysIn.nil {h₀ : Heap} {news : Led} : KeysIn h₀ news [] := fun _ hx => (nomatch hx)
/-- the keys stand in this ledger -/
def KeysTl (tl : Led) (xs : List (List Int × Addr × Value)) : Prop := ∀ x ∈ xs, ∃ o, (x.2.1, o) ∈ tl ∧ KObj o x.1
theorem KeysTl.led {h₀ : Heap} {tl : Led} {xs : List (List Int × Addr × Value)} (K : KeysTl tl xs) : KeysIn h₀ tl xs := fun x hx => let ⟨o, H, k⟩ := K x hx; ⟨o, .inr H, k⟩
theorem KeysTl.mono {tl tl' : Led} {xs : List (List Int × Addr × Value)} (K : KeysTl tl xs) (hs : ∀ p ∈ tl, p ∈ tl') : KeysTl tl' xs := fun x hx => let ⟨o, H, k⟩ := K x hx; ⟨o, hs _ H, k⟩
theorem KeysTl.nil {tl : Led} : KeysTl tl [] := fun _ hx => (nomatch hx)
theorem KeysTl.store {tl : Led} {xs : List (List Int × Addr × Value)} {k : List Int} {a : Addr} {v : Value} {ok : Obj} (K : KeysTl tl xs) (ha : (a, ok) ∈ tl) (ka : KObj ok k) : KeysTl tl (storedH xs k a v) := by
  intro x hx
  unfold storedH at hx
  split at hx
  · obtain ⟨y, hy, rfl⟩ := List.mem_map.mp hx
    obtain ⟨o, H, ko⟩ := K y hy
    unfold putAt
    split
    · exact ⟨o, H, ko⟩
    · exact ⟨o, H, ko⟩
  · rcases List.mem_append.mp hx with hx | hx
    · exact K x hx
    · rw [List.mem_singleton.mp hx]
      exact ⟨ok, ha, ka⟩
/-- new objects of a call -/
def Fresh (h h' : Heap) (nw : Led) : Prop := ∀ p ∈ nw, h'.get? p.1 = some p.2 ∧ h.get? p.1 = none
theorem after {h₀ h h' : Heap} {L : Addr} {m : PySem.Str → Option Value} {news nw : Led} (F : Fr h₀ L h m) (N : News h₀ L h news) (st : h.StaysIn h') (fr : Fresh h h' nw) : Fr h₀ L h' m ∧ News h₀ L h' (nw ++ news) := by
  refine ⟨F.keeps fun b o e => st b o e, fun p hp => ?_⟩
  rcases List.mem_append.mp hp with hp | hp
  · obtain ⟨a, b⟩ := fr p hp
    refine ⟨a, fun q => ?_, ?_⟩
    · obtain ⟨o, _, _, hL, _⟩ := F.ns
      rw [q, hL] at b; cases b
    · cases e : h₀.get? p.1 with
      | none => rfl
      | some o => rw [F.keep _ _ e] at b; cases b
  · exact ⟨st _ _ (N p hp).1, (N p hp).2⟩
theorem fresh_of {h g h' : Heap} {L : Addr} {nw : Led} (g0 : h.StaysIn g) (N : News g L h' nw) : Fresh h h' nw := fun p hp => by
  refine ⟨(N p hp).1, ?_⟩
  cases e : h.get? p.1 with
  | none => rfl
  | some o => have := (N p hp).2.2; rw [g0 _ _ e] at this; cases this
theorem DObj.at {h₀ h : Heap} {L d : Addr} {m : PySem.Str → Option Value} {news : Led} {o : Obj} {xs : List (List Int × Addr × Value)} (D : DObj prog w o xs) (K : KeysIn h₀ news xs) (e : h.get? d = some o) (F : Fr h₀ L h m) (N : News h₀ L h news) :
    h.DictOfH (tKnd prog w) d xs := by
  obtain ⟨hx, es, ep, hd, he, hn⟩ := D
  exact ⟨o, es, ep, e, hx, hd, he, fun x hx' => let ⟨o', H, k⟩ := K x hx'; k.key (H.at F N), hn⟩
theorem DObj.nil {o : Obj} (h : o.IsDictOf (PySem.intKind prog w) []) : DObj prog w o [] := by
  obtain ⟨es, ep, hx, hd, hk, hp, hn⟩ := h
  refine ⟨hx, es, ep, hd, ?_, List.nodup_nil⟩
  have hl := hp.length
  simpa using hl
theorem DObj.of {h : Heap} {d : Addr} {xs : List (List Int × Addr × Value)} (D : h.DictOfH (tKnd prog w) d xs) : ∃ o, h.get? d = some o ∧ DObj prog w o xs := by
  obtain ⟨o, es, ep, e, hx, hd, he, _, hn⟩ := D
  exact ⟨o, e, hx, es, ep, hd, he, hn⟩

section
variable {A : Around} {E : Value → Shared → Prop} {s : Shared} {h₀ : Heap} {L d a : Addr} {m : PySem.Str → Option Value} {news : Led} {g : Obj → Led} {o ok : Obj} {xs : List (List Int × Addr × Value)} {k : List Int} {v : Value}

theorem News.sub {news' : Led} {h : Heap} (N : News h₀ L h news) (hs : ∀ p ∈ news', p ∈ news) : News h₀ L h news' := fun p hp => N p (hs p hp)
theorem sys_of {d : Addr} (h : d ≠ sysModules) : (d == sysModules) = false := by simpa using h

theorem in_tup {Q : Value → Shared → Prop} (hu : A.units + 1 < cLine) (F : Fr h₀ L s.heap m) (N : News h₀ L s.heap news) (hd : (d == sysModules) = false) (he : Has h₀ news d o) (D : DObj prog w o xs) (K : KeysIn h₀ news xs) (ha : Has h₀ news a ok) (ka : KObj ok k)
    (h : Q (.bool (atKey xs k).isSome) { s with toks := s.toks + (tKnd prog w).draws k }) : wpAny (model prog w) A (compareOp .In (.ref a) (.ref d)) Q E s :=
  wpAny_in_heap (knd := tKnd prog w) (tupleKind_room_in1 hu) (ka.key (ha.at F N)) hd (D.at K (he.at F N) F N) h

theorem notin_tup {Q : Value → Shared → Prop} (hu : A.units + 1 < cLine) (F : Fr h₀ L s.heap m) (N : News h₀ L s.heap news) (hd : (d == sysModules) = false) (he : Has h₀ news d o) (D : DObj prog w o xs) (K : KeysIn h₀ news xs) (ha : Has h₀ news a ok) (ka : KObj ok k)
    (h : Q (.bool (!(atKey xs k).isSome)) { s with toks := s.toks + (tKnd prog w).draws k }) : wpAny (model prog w) A (compareOp .NotIn (.ref a) (.ref d)) Q E s :=
  wpAny_notIn_heap (knd := tKnd prog w) (tupleKind_room_in1 hu) (ka.key (ha.at F N)) hd (D.at K (he.at F N) F N) h

theorem notin_new {Q : Value → Shared → Prop} (hu : A.units + 1 < cLine) (F : Fr h₀ L s.heap m) (N : News h₀ L s.heap news) (hd : (d == sysModules) = false) (he : Has h₀ news d o) (D : DObj prog w o xs) (K : KeysIn h₀ news xs) (ha : Has h₀ news a ok) (ka : KObj ok k)
    (hn : atKey xs k = none) (h : Q (.bool true) { s with toks := s.toks + (tKnd prog w).draws k }) : wpAny (model prog w) A (compareOp .NotIn (.ref a) (.ref d)) Q E s :=
  notin_tup hu F N hd he D K ha ka (by rw [hn]; exact h)

theorem get_tup {p : Addr × Value} {Q : Value → Shared → Prop} (hu : A.units + 1 < cLine) (F : Fr h₀ L s.heap m) (N : News h₀ L s.heap news) (he : Has h₀ news d o) (D : DObj prog w o xs) (K : KeysIn h₀ news xs) (ha : Has h₀ news a ok) (ka : KObj ok k)
    (hp : atKey xs k = some p) (h : Q p.2 { s with toks := s.toks + (tKnd prog w).draws k }) : wpAny (model prog w) A (getItem (.ref d) (.ref a)) Q E s :=
  wpAny_getItem_heap (knd := tKnd prog w) (tupleKind_room_in1 hu) (ka.key (ha.at F N)) (D.at K (he.at F N) F N) hp h

theorem set_tup {Q : Unit → Shared → Prop} (hu : A.units + 1 < cLine) (F : Fr h₀ L s.heap m) (N : News h₀ L s.heap news) (U : UpdF d o news g) (D : DObj prog w o xs) (K : KeysIn h₀ news xs) (ha : Has h₀ news a ok) (ka : KObj ok k)
    (hsz : xs.length ≤ sizeLine)
    (h : ∀ h' o', Fr h₀ L h' m → News h₀ L h' (g o') → DObj prog w o' (storedH xs k a v) → Q () { s with heap := h', toks := s.toks + (tKnd prog w).draws k }) :
    wpAny (model prog w) A (setItem (.ref d) (.ref a) v) Q E s := by
  obtain ⟨pre, post, e0, hg, x1, x2⟩ := U.split
  have hmem : (d, o) ∈ news := by rw [e0]; exact List.mem_append_right _ (.head _)
  refine wpAny_setItem_heap (knd := tKnd prog w) (hsz := hsz) (tupleKind_room_in1 hu) (ka.key (ha.at F N)) (D.at K (N _ hmem).1 F N) fun h' hD hs => ?_
  obtain ⟨o', ho', D'⟩ := DObj.of hD
  refine h h' o' ⟨F.ns.sameBut hs (Ne.symm (N _ hmem).2.1), fun b ob e => (hs.2 b (fun q => ?_)).trans (F.keep b ob e), F.above⟩ ?_ D'
  · have := (N _ hmem).2.2
    rw [q] at e
    have e' : h₀.get? d = some ob := e
    rw [this] at e'; cases e'
  · rw [hg o']
    rw [e0] at N
    exact N.setAt x1 x2 hs ho'

theorem KeysIn.store {k : List Int} {a : Addr} (K : KeysIn h₀ news xs) (ha : Has h₀ news a ok) (ka : KObj ok k) : KeysIn h₀ news (storedH xs k a v) := by
  intro x hx
  unfold storedH at hx
  split at hx
  · obtain ⟨y, hy, rfl⟩ := List.mem_map.mp hx
    obtain ⟨o, H, ko⟩ := K y hy
    unfold putAt
    split
    · exact ⟨o, H, ko⟩
    · exact ⟨o, H, ko⟩
  · rcases List.mem_append.mp hx with hx | hx
    · exact K x hx
    · rw [List.mem_singleton.mp hx]
      exact ⟨ok, ha, ka⟩
end
end
end Mine

end

section
open PySem PySem.W PyProof.Rows PySem.Calls
namespace Mine
section
variable {prog : Program} {w : World} {A : Around} {E : Value → Shared → Prop} {s : Shared} {h₀ : Heap} {L : Addr} {m : PySem.Str → Option Value} {news : Led}

theorem new_tup {vs : List Value} {Q : Value → Shared → Prop} (F : Fr h₀ L s.heap m) (N : News h₀ L s.heap news)
    (h : ∀ D h', Fr h₀ L h' m → News h₀ L h' ((D, tupO vs) :: news) → (∀ p ∈ news, p.1 < D) → Q (.ref D) { s with heap := h' }) (hsz : vs.length ≤ sizeLine) :
    wpAny (model prog w) A (newTuple vs) Q E s := newTuple_N (hsz := hsz) F N fun h' F' N' => h _ h' F' N' fun p hp => Heap.lt_size (N p hp).1
theorem part_is {v : Value} {p : Option Int} {Q : Option Int → Shared → Prop} (hp : IsPart v p) (h : Q p s) : wpAny (model prog w) A (Builtin.Slice.slicePartIndex v) Q E s := by
  cases hp with
  | none => exact slicePart_none h
  | int i t => exact slicePart_int h

def cutN (n : Nat) (lo hi : Option Int) : Nat := Builtin.Slice.slicePlaces (Builtin.Slice.sliceAdjust lo hi 1 (n : Int)).1 (Builtin.Slice.sliceAdjust lo hi 1 (n : Int)).2 1
def cutL (items : List Value) (lo hi : Option Int) : List Value := (List.range (cutN items.length lo hi)).filterMap fun (k : Nat) => items[((Builtin.Slice.sliceAdjust lo hi 1 (items.length : Int)).1 + (k : Int) * 1).toNat]?

/-- a cut of a tuple between two written places: never the whole -/
theorem cut_tup {value slice : PySem.Expr} {t : Addr} {items : List Value} {vl vu : Value} {lo hi : Option Int} {zs : List Value} {Q : Value → Shared → Prop}
    (F : Fr h₀ L s.heap m) (N : News h₀ L s.heap news) (ht : IsTup s.heap t items.toArray) (pl : IsPart vl lo) (pu : IsPart vu hi)
    (hne : (cutN items.length lo hi == items.length) = false) (hz : cutL items lo hi = zs) (hsz : zs.length ≤ sizeLine)
    (h : ∀ D h', Fr h₀ L h' m → News h₀ L h' ((D, tupO zs) :: news) → (∀ p ∈ news, p.1 < D) → Q (.ref D) { s with heap := h' })
    (hs : subscripted slice false (.ref t) (.ref s.heap.objs.size) = operate [.ref s.heap.objs.size, .ref t] (getItem (.ref t) (.ref s.heap.objs.size)))
    (hg : ∀ r, letTemporaryGo value (.ref t) r = pure ()) :
    wpAny (model prog w) A (subscriptTail value slice (.ref t) (.ref s.heap.objs.size)) Q E { s with heap := s.heap.push { cls := .type "slice", data := .fields #[vl, vu, .none] } } := by
  have ht' : IsTup (s.heap.push { cls := .type "slice", data := .fields #[vl, vu, .none] }) t items.toArray := ht.keeps fun _ _ e => Heap.get?_push_of_some _ e
  have hsl := Heap.IsSliceOf.new s.heap vl vu .none
  refine subscriptTail_ops (s := { s with heap := s.heap.push { cls := .type "slice", data := .fields #[vl, vu, .none] } }) ht'.typeIs slot_tuple_getitem.lookup ?_ hs hg
  obtain ⟨os, hos, hcs, hds⟩ := id hsl
  have hTs : Shared.TypeIs { s with heap := s.heap.push { cls := .type "slice", data := .fields #[vl, vu, .none] } } (.ref s.heap.objs.size) "slice" := ⟨os, hos, hcs⟩
  unfold getItem
  try with_reducible refine wpAny_holding ?_
  refine wpAny_bind (wpAny_sequenceKey ht'.typeIs (by decide) ?_)
  refine wpAny_bind (wpAny_callSpecial?_slot (name := PySem.Str.ofString "__getitem__") ht'.typeIs slot_tuple_getitem
    (wpAny_call_entry slot_tuple_getitem ht'.typeIs entry_tuple_getitem ?_ (args_tuple_getitem _ _)))
  show wpAny _ _ (Builtin.Tuple.tupleItemsOf (.ref t) >>= _) _ _ _
  refine wpAny_bind (tupleItemsOf_ ht' ?_)
  refine wpAny_bind (wpAny_typeOf hTs ?_)
  rw [if_pos (by decide)]
  refine wpAny_bind ?_
  unfold Builtin.Slice.sliceApplied Builtin.Slice.sliceFields
  refine wpAny_bind (wpAny_bind (wpAny_field hos hds (x := vl) rfl (wpAny_bind (wpAny_field hos hds (x := vu) rfl (wpAny_bind (wpAny_field hos hds (x := .none) rfl (wpAny_pure ?_)))))))
  refine wpAny_bind (slicePart_none ?_)
  show wpAny _ _ (if ((1 : Int) == 0) = true then _ else _) _ _ _
  rw [if_neg (by decide)]
  refine wpAny_bind (part_is pl (wpAny_bind (part_is pu (wpAny_bind (wpAny_pure ?_)))))
  show wpAny _ _ (match Builtin.Slice.sliceAdjust lo hi 1 (items.toArray.size : Int) with | (lo, hi) => pure (lo, (1 : Int), Builtin.Slice.slicePlaces lo hi 1)) _ _ _
  rw [List.size_toArray]
  refine wpAny_pure ?_
  have hno : ¬ (((Builtin.Slice.sliceAdjust lo hi 1 (items.length : Int)).1 == 0 && (1 : Int) == 1 && cutN items.length lo hi == items.toArray.size) = true) := by
    rw [List.size_toArray, hne]; simp
  show wpAny _ _ (if ((Builtin.Slice.sliceAdjust lo hi 1 (items.length : Int)).1 == 0 && (1 : Int) == 1 && cutN items.length lo hi == items.toArray.size) = true then _ else _) _ _ _
  rw [if_neg hno]
  have hpick : (List.range (cutN items.length lo hi)).filterMap (fun (k : Nat) => items.toArray[((Builtin.Slice.sliceAdjust lo hi 1 (items.length : Int)).1 + (k : Int) * 1).toNat]?) = zs := by
    rw [← hz]
    unfold cutL
    congr 1
    funext k
    simp
  have fin := h (s.heap.objs.size + 1) ((s.heap.push { cls := .type "slice", data := .fields #[vl, vu, .none] }).push (tupO zs)) ((F.push _).push _)
    (by
      have N1 := News.push (F.push { cls := .type "slice", data := .fields #[vl, vu, .none] }) (N.grown fun _ _ e => Heap.get?_push_of_some _ e) (tupO zs)
      rw [Heap.size_push] at N1
      exact N1) (fun p hp => Nat.lt_succ_of_lt (Heap.lt_size (N p hp).1))
  have hsize : (s.heap.push { cls := .type "slice", data := .fields #[vl, vu, .none] }).objs.size = s.heap.objs.size + 1 := Heap.size_push ..
  rw [← hsize] at fin
  show wpAny _ _ (Builtin.Tuple.tupleExact (((List.range (cutN items.length lo hi)).filterMap (fun (k : Nat) => items.toArray[((Builtin.Slice.sliceAdjust lo hi 1 (items.length : Int)).1 + (k : Int) * 1).toNat]?)).toArray) >>= _) _ _ _
  rw [hpick]
  exact wpAny_bind (m := Builtin.Tuple.tupleExact _) (wpAny_newObj_type (wpAny_pure ⟨_, rfl, wpAny_pure fin⟩) (by show zs.toArray.size ≤ _; rw [List.size_toArray]; exact hsz))
end
end Mine

end

section
open PySem PySem.W PyProof.Rows PySem.Calls
namespace Mine
section
variable {prog : Program} {w : World}

/-- a dict of whatever entries, exactly so -/
def DRaw (h : Heap) (d : Addr) (es : Array DictEntry) (ep : Nat) : Prop := ∃ o, h.get? d = some o ∧ o.ExactDict ∧ o.data = .dict es ep
theorem DRaw.at {h h' : Heap} {d : Addr} {es : Array DictEntry} {ep : Nat} (x : DRaw h d es ep) (e : ∀ o, h.get? d = some o → h'.get? d = some o) : DRaw h' d es ep := let ⟨o, a, r⟩ := x; ⟨o, e _ a, r⟩
theorem DRaw.typeIs {s : Shared} {d : Addr} {es : Array DictEntry} {ep : Nat} (x : DRaw s.heap d es ep) : s.TypeIs (.ref d) "dict" := let ⟨o, a, b, _⟩ := x; ⟨o, a, b.1⟩
theorem DRaw.lt {h : Heap} {d : Addr} {es : Array DictEntry} {ep : Nat} (x : DRaw h d es ep) : d < h.objs.size := let ⟨_, a, _⟩ := x; Heap.lt_size a

variable {A : Around} {E : Value → Shared → Prop} {s : Shared}

/-- what a turn over a dict's keys hands on: the key at hand, or the end -/
def RawNext (it d : Addr) (i ep : Nat) (es : Array DictEntry) (s : Shared) (Q : Option Value → Shared → Prop) : Option DictEntry → Prop
  | some e => ∀ h', h'.IsKeyIter it d (i + 1) es.size ep → Heap.SameBut it s.heap h' → Q (some e.key) { s with heap := h' }
  | none => ∀ h', Heap.ExtBut it s.heap h' → Q none { s with heap := h' }

/-- one turn, the item there or not -/
theorem raw_turn {it d : Addr} {i ep : Nat} {es : Array DictEntry} {Q : Option Value → Shared → Prop} (hh : A.handled = none) (hit : s.heap.IsKeyIter it d i es.size ep) (hm : DRaw s.heap d es ep)
    (hQ : RawNext it d i ep es s Q es[i]?) : wpAny (model prog w) A (pyNext (.ref it)) Q E s := by
  have hT := hit.typeIs
  obtain ⟨oi, hi1, hi2, hi3⟩ := hit
  obtain ⟨od, hd1, -, hd2⟩ := hm
  have neg : ¬ ((i : Int) < 0) := by omega
  unfold pyNext
  refine wpAny_bind (wpAny_attempt (wpAny_callSpecial?_slot (name := PySem.Str.ofString "__next__") hT F.slot_dict_keyiterator_next (wpAny_call_entry F.slot_dict_keyiterator_next hT F.entry_dict_keyiterator_next ?_ (F.args_dict_keyiterator_next_1 _))))
  repeat' first
    | exact hd1
    | refine wpAny_typeNameOfWhole_keyiter hT ?_
    | refine wpAny_fieldsOf hi1 hi3 ?_
    | refine wpAny_dictEntries hd1 hd2 ?_
    | refine wpAny_dictEpoch hd1 hd2 ?_
    | refine wpAny_pure ?_
    | refine wpAny_bind ?_
    | (rw [if_neg (by simp)])
  simp only [neg, if_false, Int.toNat_natCast]
  have own0 : (if Builtin.Dict_items.ownsTuple "dict_keyiterator" = true then 2 else 0) = 0 := by decide
  cases hx : es[i]? with
  | some e =>
    rw [hx] at hQ
    have stp : ∀ h', h' = s.heap.update it (Obj.mapFields fun fs => fs.setIfInBounds 1 (rawInt ((i : Int) + 1))) → h'.IsKeyIter it d (i + 1) es.size ep := by
      rintro _ rfl
      refine ⟨_, Heap.get?_update_self _ hi1 (Obj.isFreed_of_fields (Obj.data_mapFields hi3 _)), ?_, ?_⟩
      · rw [Obj.cls_mapFields]; exact hi2
      · rw [Obj.data_mapFields hi3]; rfl
    have hit' := stp _ rfl
    refine wpAny_bind (wpAny_bind (wpAny_typeNameOfWhole_keyiter hT (wpAny_pure ?_)))
    refine wpAny_bind (wpAny_isOneOf_keyiter hT ?_)
    refine wpAny_bind (wpAny_setField hi1 hi3 (by rw [own0]; exact (by decide : 0 + 1 < 4)) ?_)
    refine wpAny_bind (wpAny_holding (wpAny_bind (wpAny_isOneOf_keyiter (s := { s with heap := s.heap.update it _ }) hit'.typeIs ?_)))
    exact wpAny_pure (wpAny_pure ⟨_, rfl, wpAny_pure (hQ _ hit' (Heap.SameBut.update ..))⟩)
  | none =>
    rw [hx] at hQ
    refine wpAny_bind (wpAny_bind (wpAny_typeNameOfWhole_keyiter hT (wpAny_pure ?_)))
    refine wpAny_bind (wpAny_setField hi1 hi3 (by rw [own0]; exact (by decide : 0 < 4)) (wpAny_bind ?_))
    -- the exception: its (empty) arguments, the object, the raise
    refine wpAny_bind (wpAny_newObj_type (wpAny_bind (wpAny_of_eq (a := Value.none) (by simp only [firstArgMember]; rfl) (wpAny_newObj_type ?_ (by size_fits)))) (by size_fits))
    refine wpAny_raiseNew_none hh (wpAny_bind (wpAny_isInstance (T := "StopIteration") (b := true) ⟨_, Heap.get?_push_size _ rfl, rfl⟩ isSubtype_stop (wpAny_pure (hQ _ ?_))))
    exact ((Heap.SameBut.update ..).extBut.push _).push _

/-- the iterator of a dict -/
theorem raw_iter {d : Addr} {es : Array DictEntry} {ep : Nat} {Q : Value → Shared → Prop} (hs : (d == sysModules) = false) (hm : DRaw s.heap d es ep)
    (hQ : Q (.ref s.heap.objs.size) { s with heap := s.heap.push { cls := .type "dict_keyiterator", data := .fields #[.ref d, .int 0 0, .int es.size 0, .int ep 0] } }) :
    wpAny (model prog w) A (pyIter (.ref d)) Q E s := by
  have hT := hm.typeIs
  obtain ⟨o, h1, -, h2⟩ := hm
  refine wpAny_pyIter_slot hT F.slot_dict_iter (wpAny_call_entry F.slot_dict_iter hT F.entry_dict_iter ?_ (F.args_dict_iter_1 _))
  unfold Builtin.«dict.__iter__» Builtin.Dict.dictSlotNone
  refine wpAny_bind (wpAny_bind ?_)
  repeat' first
    | refine wpAny_notOrdered_dict hT ?_
    | refine wpAny_dictEntries h1 h2 ?_
    | refine wpAny_dictEpoch h1 h2 ?_
    | refine wpAny_pure ?_
    | refine wpAny_bind ?_
  have shows : Builtin.Dict.showsAll d = pure () := by
    unfold Builtin.Dict.showsAll
    simp [hs]
  rw [shows]
  refine wpAny_pure (wpAny_bind (wpAny_dictEntries h1 h2 (wpAny_bind (wpAny_dictEpoch h1 h2 (wpAny_bind ?_)))))
  refine wpAny_newObj_type (wpAny_pure ⟨_, rfl, _, _, ⟨_, Heap.get?_push_size _ rfl, rfl⟩, F.slot_dict_keyiterator_next.lookup, hQ⟩)

theorem raw_walks (hh : A.handled = none) (I d : Addr) (hne : d ≠ I) (es : Array DictEntry) (ep : Nat) :
    Walks prog w A I [I, d] [I] es.size (fun i v => ∃ e, es[i]? = some e ∧ v = e.key) (fun i h => h.IsKeyIter I d i es.size ep ∧ DRaw h d es ep) where
  sub := fun b hb => by simp at hb; simp [hb]
  frame := fun _ _ _ st hk => ⟨st.1.at fun o e => hk I (by simp) o e, st.2.at fun o e => hk d (by simp) o e⟩
  item := fun i s Q E hi st hQ => by
    have hx : es[i]? = some es[i] := Array.getElem?_eq_getElem hi
    refine raw_turn hh st.1 st.2 (by
      rw [hx]
      intro h' it' same
      have k := same.extBut
      exact hQ _ h' s.toks ⟨_, hx, rfl⟩ ⟨it', st.2.at fun o e => k d o hne e⟩ fun b o hb e => k b o (fun q => hb (q ▸ .head _)) e)
  done := fun s Q E st hQ => raw_turn hh st.1 st.2 (by
    rw [Array.getElem?_eq_none (Nat.le_refl _)]
    exact fun h' ext => hQ h' s.toks fun b o hb e => ext b o (fun q => hb (q ▸ .head _)) e)
  self := fun _ _ _ _ st hQ => wpAny_pyIter_keyiter st.1 hQ

theorem raw_src {d : Addr} {es : Array DictEntry} {ep : Nat} (lo : (d == sysModules) = false) : KdlSrc prog w "dict" d d es.size (fun i v => ∃ e, es[i]? = some e ∧ v = e.key) (fun h => DRaw h d es ep) where
  type := fun _ hm => hm.typeIs
  there := fun _ hm => ⟨hm.lt, hm.lt⟩
  keep := fun _ _ hm hk => hm.at fun o e => hk d (.inl rfl) o e
  notList := by decide
  notTuple := by decide
  hint := fun _ _ _ _ hm hq => kdl_hint_dict hm.typeIs hq
  iter := fun _ _ hh hm => ⟨_, _, (fun _ _ hq => raw_iter lo hm hq), raw_walks hh _ d (Nat.ne_of_lt hm.lt) es ep, ⟨⟨_, Heap.get?_push_size _ rfl, rfl, rfl⟩, hm.at fun o e => Heap.get?_push_of_some _ e⟩⟩
end
end Mine

end

section
open PySem PySem.W PyProof.Rows PySem.Calls
namespace Mine

def KAll {α : Type} (n : Nat) (P : α → Prop) : KasT α → Prop
  | .ret a => P a
  | .ask i j k => i < n ∧ j < n ∧ ∀ b, KAll n P (k b)
theorem KAll.bind {α β : Type} {n : Nat} {P : α → Prop} {R : β → Prop} {f : α → KasT β} : ∀ {t : KasT α}, KAll n P t → (∀ a, P a → KAll n R (f a)) → KAll n R (t.bind f)
  | .ret _, h, hf => hf _ h
  | .ask _ _ _, h, hf => ⟨h.1, h.2.1, fun b => KAll.bind (h.2.2 b) hf⟩
theorem KAll.mono {α : Type} {n : Nat} {P R : α → Prop} : ∀ {t : KasT α}, KAll n P t → (∀ a, P a → R a) → KAll n R t
  | .ret _, h, hf => hf _ h
  | .ask _ _ _, h, hf => ⟨h.1, h.2.1, fun b => KAll.mono (h.2.2 b) hf⟩
theorem KAll.use {α : Type} {n : Nat} {P : α → Prop} {cmp : Nat → Nat → (Bool → Shared → Prop) → Shared → Prop} {Q : α → Shared → Prop} {s : Shared}
    (hc : ∀ i j (C : Bool → Shared → Prop), i < n → j < n → (∀ b, C b s) → cmp i j C s) (hq : ∀ a, P a → Q a s) : ∀ {t : KasT α}, KAll n P t → t.kasWp cmp Q s
  | .ret _, h => hq _ h
  | .ask i j k, h => hc i j _ h.1 h.2.1 fun b => KAll.use hc hq (h.2.2 b)

def Pm (n : Nat) (p : Array Nat) : Prop := p.Perm (List.range n).toArray
theorem Pm.at {n : Nat} {p : Array Nat} (h : Pm n p) (h0 : 0 < n) (i : Nat) : p.getD i 0 < n := by
  by_cases hi : i < p.size
  · have e : p.getD i 0 = p[i] := by simp [Array.getD, hi]
    rw [e]
    have hm : p[i] ∈ p := Array.getElem_mem hi
    have hm' : p[i] ∈ (List.range n).toArray := h.mem_iff.mp hm
    simpa using hm'
  · have e : p.getD i 0 = 0 := by simp [Array.getD, hi]
    rw [e]; exact h0
theorem Pm.mirror {n : Nat} {p : Array Nat} (h : Pm n p) (i j : Nat) : Pm n (kas_rev p i j) := (mirror_perm ..).trans h
theorem Pm.bubble {n : Nat} {p : Array Nat} (h : Pm n p) (i j : Nat) : Pm n (bubble p i j) := (bubble_perm ..).trans h

section
variable {n : Nat} (h0 : 0 < n)
include h0
theorem all_asc {p : Array Nat} (hp : Pm n p) : ∀ f k, KAll n (fun _ => True) (kas_asc p f k)
  | 0, _ => trivial
  | f + 1, k => ⟨hp.at h0 _, hp.at h0 _, fun b => by
    cases b
    · exact all_asc hp f (k + 1)
    · exact trivial⟩
theorem all_desc : ∀ f (p : Array Nat) k q, Pm n p → KAll n (fun r => Pm n r.1) (kas_desc f p k q)
  | 0, _, _, _, hp => hp
  | f + 1, p, k, q, hp => ⟨hp.at h0 _, hp.at h0 _, fun b => by
    cases b
    · refine ⟨hp.at h0 _, hp.at h0 _, fun c => ?_⟩
      cases c
      · exact all_desc f p (k + 1) (q + 1) hp
      · exact hp
    · show KAll n _ (if q > 0 then _ else _)
      split
      · exact all_desc f _ _ _ (hp.mirror _ _)
      · exact all_desc f _ _ _ hp⟩
theorem all_tail3 {p : Array Nat} (hp : Pm n p) (k m : Nat) : KAll n (fun r => Pm n r.2) (kas_tail3 k m p) :=
  KAll.bind (all_asc h0 (hp.mirror _ _) _ _) fun _ _ => hp.mirror _ _
theorem all_descPart {p : Array Nat} (hp : Pm n p) (k m : Nat) : KAll n (fun r => Pm n r.2) (kas_descPart k m p) :=
  KAll.bind (all_desc h0 _ _ _ _ hp) fun r hr => by
    show KAll n _ (if r.2.2 > 0 then _ else _)
    split
    · exact all_tail3 h0 (hr.mirror _ _) _ _
    · exact all_tail3 h0 hr _ _
theorem all_count {p : Array Nat} (hp : Pm n p) (m : Nat) : KAll n (fun r => Pm n r.2) (kas_count m p) :=
  KAll.bind (all_asc h0 hp _ _) fun k _ => by
    show KAll n _ (if (k == m) = true then _ else if k > 1 then _ else _)
    split
    · exact hp
    · split
      · refine ⟨hp.at h0 _, hp.at h0 _, fun b => ?_⟩
        cases b
        · exact all_descPart h0 (hp.mirror _ _) _ _
        · exact hp
      · exact all_descPart h0 hp _ _
theorem all_place {p : Array Nat} (hp : Pm n p) (k : Nat) : ∀ f l r, KAll n (fun _ => True) (kas_place p k f l r)
  | 0, _, _ => trivial
  | f + 1, l, r => by
    show KAll n _ (if l ≥ r then _ else _)
    split
    · exact trivial
    · refine ⟨hp.at h0 _, hp.at h0 _, fun b => ?_⟩
      cases b
      · exact all_place hp k f _ _
      · exact all_place hp k f _ _
theorem all_bin : ∀ f (p : Array Nat) k, Pm n p → KAll n (fun r => Pm n r) (kas_bin f p k)
  | 0, _, _, hp => hp
  | f + 1, p, k, hp => KAll.bind (all_place h0 hp k k 0 k) fun l _ => all_bin f _ _ (hp.bubble _ _)
theorem all_sort : KAll n (fun r => Pm n r) (kas_sort n) :=
  KAll.bind (all_count h0 (Array.Perm.refl _) n) fun r hr => by
    show KAll n _ (if r.1 < n then _ else _)
    split
    · exact all_bin h0 _ _ _ hr
    · exact hr
end

theorem map_range_getD (vs : List Value) : (List.range vs.length).map (fun i => vs.getD i Value.none) = vs := by
  apply List.ext_getElem
  · simp
  · intro i h1 h2
    simp at h1 ⊢
    simp [h1]
theorem Pm.vals {vs : List Value} {p : Array Nat} (h : Pm vs.length p) : (p.toList.map fun i => vs.getD i Value.none).Perm vs := by
  have h1 : p.toList.Perm (List.range vs.length) := Array.perm_iff_toList_perm.mp h
  have h2 := h1.map fun i => vs.getD i Value.none
  rw [map_range_getD] at h2
  exact h2

section
variable {prog : Program} {w : World} {A : Around} {E : Value → Shared → Prop} {s : Shared}

/-- a value that is a tuple of ints, one at least -/
def TInts (h : Heap) (v : Value) : Prop := ∃ a o vs n i t l ns, v = .ref a ∧ h.get? a = some o ∧ o.cls = .type "tuple" ∧ o.data = .seq vs n ∧ vs.toList = .int i t :: l ∧ IntsAre l ns
theorem lex_go {Q : Bool → Shared → Prop} {fin : Bool} (hq : ∀ b, Q b s) : ∀ (xs ys : List Value) (ns ms : List Int), IntsAre xs ns → IntsAre ys ms → ∀ i, KatLex prog w A true fin Q (xs.zip ys) i s
  | _, _, _, _, .nil, _, _ => kat_nil (hq _)
  | _, _, _, _, .cons .., .nil, _ => kat_nil (hq _)
  | _, _, _, _, .cons a t r, .cons b u r', i => by
    rw [List.zip_cons_cons]
    refine kat_cons (SeqAt.EqAt.int_int a t b u prog w _ _ ?_)
    refine kat_go (fun _ => kat_yes (lex_go hq _ _ _ _ r r' (i + 1))) fun _ => kat_no ?_
    by_cases hi : i = 0
    · subst hi
      exact oneLt_int (hq _)
    · have e : (true && i == 0) = false := by simp [hi]
      rw [e]
      exact kat_one _ _ (PySem.P.lt_int (hq _))
theorem lt_ints {x y : Value} {C : Bool → Shared → Prop} (hx : TInts s.heap x) (hy : TInts s.heap y) (hc : ∀ b, C b s) : wpAny (model prog w) A (keyLt' (tuples' true) x y) C E s := by
  obtain ⟨a, o, vs, n, i, t, l, ns, rfl, ho, _, hd, hl, hi⟩ := hx
  obtain ⟨a', o', vs', n', i', t', l', ns', rfl, ho', _, hd', hl', hi'⟩ := hy
  refine kat_lt ho hd ho' hd' ?_
  rw [hl, hl']
  exact lex_go hc _ _ _ _ (.cons i t hi) (.cons i' t' hi') 0

theorem firsts_of {h : Heap} : ∀ {vs : List Value}, (∀ v ∈ vs, TInts h v) → ∃ fs, KatTups h vs fs ∧ fs.length = vs.length ∧ ∀ f ∈ fs, ∃ i t, f = .int i t
  | [], _ => ⟨[], KatTups.nil, rfl, fun _ hf => (nomatch hf)⟩
  | v :: r, hv => by
    obtain ⟨fs, h1, h2, h3⟩ := firsts_of fun u hu => hv u (.tail _ hu)
    obtain ⟨a, o, vs, n, i, t, l, ns, rfl, ho, hc, hd, hl, _⟩ := hv v (.head _)
    refine ⟨.int i t :: fs, KatTups.cons ho hc hd ?_ h1, by simp [h2], fun f hf => ?_⟩
    · rw [← Array.getElem?_toList, hl]; rfl
    · rcases List.mem_cons.mp hf with rfl | hf
      · exact ⟨i, t, rfl⟩
      · exact h3 f hf
theorem kind_ints {ks : List Value} {Q : SortKind → Shared → Prop} (hk : ∀ v ∈ ks, TInts s.heap v) (h0 : 0 < ks.length) (hq : Q (tuples' true) s) : wpAny (model prog w) A (keyKind' ks.toArray) Q E s := by
  obtain ⟨fs, h1, h2, h3⟩ := firsts_of hk
  refine kat_kind (T := .type "int") h1 (by omega) (fun f hf => ?_) (by decide) ?_
  · obtain ⟨i, t, rfl⟩ := h3 f hf
    exact Looks.of_pure rfl
  · exact hq
end
end Mine

end

section
open PySem PySem.W PyProof.Rows PySem.Calls
namespace Mine

/-- a tuple object of ints, one at least -/
def TObj (o : Obj) : Prop := o.cls = .type "tuple" ∧ ∃ vs n i t l ns, o.data = .seq vs n ∧ vs.toList = .int i t :: l ∧ IntsAre l ns
def TLed (h₀ : Heap) (news : Led) (v : Value) : Prop := ∃ a o, v = .ref a ∧ Has h₀ news a o ∧ TObj o
theorem TLed.mono {h₀ : Heap} {news news' : Led} {v : Value} (T : TLed h₀ news v) (hs : ∀ p ∈ news, p ∈ news') : TLed h₀ news' v := let ⟨a, o, e, H, t⟩ := T; ⟨a, o, e, H.mono hs, t⟩
theorem TLed.at {h₀ h : Heap} {L : Addr} {m : PySem.Str → Option Value} {news : Led} {v : Value} (T : TLed h₀ news v) (F : Fr h₀ L h m) (N : News h₀ L h news) : TInts h v := by
  obtain ⟨a, o, rfl, H, hc, vs, n, i, t, l, ns, hd, hl, hi⟩ := T
  exact ⟨a, o, vs, n, i, t, l, ns, rfl, H.at F N, hc, hd, hl, hi⟩
theorem KObj.tobj {o : Obj} {a : Int} {ks : List Int} (K : KObj o (a :: ks)) : TObj o := by
  obtain ⟨hc, vs, n, hd, l, hl, hi⟩ := K
  cases hi with
  | cons i t r => exact ⟨hc, vs, n, _, _, _, _, hd, hl, r⟩

section
variable {prog : Program} {w : World} {A : Around} {E : Value → Shared → Prop} {s : Shared}

/-- a list of one item at most: nothing is asked -/
theorem sort_short {a : Addr} {vs : List Value} {n : Nat} {P : PySem.Fin → Shared → Prop} (ho : s.heap.get? a = some (seqObj "list" vs.toArray n)) (h1 : vs.length < 2)
    (h : P (.done (.ret .none)) { s with heap := sortedHeap s.heap a vs vs.toArray }) : wpAny (model prog w) A (Builtin.«list.sort» ⟨[.ref a], []⟩) P E s := by
  rw [list_sort_plain]
  have small : vs.toArray.size < 2 := by simpa using h1
  have line : vs.length ≤ sizeLine := by rw [sizeLine_eq]; omega
  have same : (vs.toArray.zip vs.toArray).map Prod.snd = vs.toArray := Array.ext' (by simp [List.map_snd_zip])
  have hc := get?_update_seq ho fun _ => #[]
  have hc2 := fun x y => Heap.get?_push_of_some y (Heap.get?_push_of_some x hc)
  refine wpAny_bind (listItems_at ho rfl (wpAny_bind (listUpdate_at ho rfl (wpAny_bind (seqEpoch_at hc rfl (wpAny_bind (wpAny_newTuple (wpAny_bind (wpAny_newList (wpAny_holding ?_) (Nat.zero_le _))) line)))) (by simpa using line) (Nat.zero_le _))))
  rw [if_pos small, if_pos small]
  refine wpAny_bind (wpAny_pure ?_)
  dsimp only
  rw [StateT.run_pure]
  refine wpAny_bind (wpAny_pure ?_)
  dsimp only
  refine wpAny_bind (seqEpoch_at (hc2 _ _) rfl (wpAny_bind (listUpdate_at (hc2 _ _) rfl ?_ (Nat.zero_le _) ?_)))
  · rw [bne_self_eq_false]
    have z := wpAny_pure (M := model prog w) (A := A) (E := E) h
    rw [← same] at z
    exact z
  · rw [show ((arrOf _).map fun x : Value × Value => x.2) = vs.toArray from same]
    simpa using Nat.le_succ_of_le line

section
variable {h₀ : Heap} {L D : Addr} {m : PySem.Str → Option Value} {news : Led} {vs : List Value}

theorem sort_fin {e1 : Nat} {p : Array Nat} {C : Shared → Prop} (hp : Pm vs.length p) (F : Fr h₀ L s.heap m) (N : News h₀ L s.heap ((D, seqObj "list" #[] e1) :: news)) (hD : ∀ q ∈ news, q.1 ≠ D)
    (h : ∀ h' out c, Fr h₀ L h' m → News h₀ L h' ((D, listOf (List.toArray out) c) :: news) → out.Perm vs → C { s with heap := h' }) : KasFin h₀ L m D e1 (p.toList.map fun i => vs.getD i Value.none) C s :=
  KasFin.intro F N (UpdF.head hD) fun h' c F' N' => h h' _ c F' N' hp.vals

theorem lsort_tup {n : Nat} {Q : Value → Shared → Prop} (F : Fr h₀ L s.heap m) (N : News h₀ L s.heap ((D, listOf vs.toArray n) :: news)) (hD : ∀ p ∈ news, p.1 ≠ D) (hT : ∀ v ∈ vs, TLed h₀ news v) (h64 : vs.length < 64)
    (h : ∀ h' tk out c, Fr h₀ L h' m → News h₀ L h' ((D, listOf (List.toArray out) c) :: news) → out.Perm vs → Q .none { s with heap := h', toks := tk }) :
    wpAny (model prog w) A (call (.builtin "list.sort") [.ref D]) Q E s := by
  by_cases h2 : 2 ≤ vs.length
  · refine kat_lsort F N (UpdF.head hD) (by simp) h2 h64 fun e1 h' F' N' => ?_
    have N1 : News h₀ L h' news := News.sub N' fun p hp => .tail _ hp
    refine kind_ints (fun v hv => (hT v hv).at F' N1) (by omega) ?_
    refine KAll.use (fun i j C hi hj hc => ?_) (fun p hp => ?_) (all_sort (n := vs.length) (by omega))
    · unfold kas_ask
      refine lt_ints ?_ ?_ hc
      · rw [List.getD_eq_getElem?_getD, List.getElem?_eq_getElem hi]
        exact (hT _ (List.getElem_mem hi)).at F' N1
      · rw [List.getD_eq_getElem?_getD, List.getElem?_eq_getElem hj]
        exact (hT _ (List.getElem_mem hj)).at F' N1
    · exact sort_fin hp F' N' hD fun h'' out c F'' N'' hp' => h h'' _ out c F'' N'' hp'
  · have hz := N (D, listOf vs.toArray n) (.head _)
    refine wpAny_call_entry slot_list_sort ⟨_, hz.1, rfl⟩ entry_list_sort (sort_short hz.1 (by omega) ⟨_, rfl, ?_⟩) (args_list_sort _)
    obtain ⟨c, hc⟩ := sortedHeap_at (out := vs.toArray) hz.1
    have old : ∀ b o, b ≠ D → s.heap.get? b = some o → (sortedHeap s.heap D vs vs.toArray).get? b = some o := fun b o hb e => (sortedHeap_old hb (Heap.lt_size e)).trans e
    refine h _ _ vs c ⟨F.ns.at' fun o e => old L o (Ne.symm hz.2.1) e, fun b o e => old b o (fun q => by rw [q, hz.2.2] at e; cases e) (F.keep b o e), F.above⟩ (fun p hp => ?_) (List.Perm.refl _)
    rcases List.mem_cons.mp hp with rfl | hp
    · exact ⟨hc, hz.2⟩
    · have z := N p (.tail _ hp)
      exact ⟨old _ _ (hD p hp) z.1, z.2⟩

theorem sorted_dict {d : Addr} {es : Array DictEntry} {ep : Nat} {Q : Value → Shared → Prop} (hh : A.handled = none) (F : Fr h₀ L s.heap m) (N : News h₀ L s.heap news) (lo : (d == sysModules) = false) (hm : DRaw s.heap d es ep)
    (hT : ∀ e ∈ es.toList, TLed h₀ news e.key) (h64 : es.size < 64)
    (h : ∀ D h' tk out c, Fr h₀ L h' m → News h₀ L h' ((D, listOf (List.toArray out) c) :: news) → (∀ q ∈ news, q.1 < D) → out.Perm (es.toList.map (·.key)) → Q (.ref D) { s with heap := h', toks := tk }) :
    wpAny (model prog w) A (call (.builtin "sorted") [.ref d]) Q E s := by
  refine kdu_sorted (raw_src lo) hh F N hm (by rw [sizeLine_eq]; omega) fun D h' tk vs F' N' l1 hl hv => ?_
  have e : vs = es.toList.map (·.key) := by
    apply List.ext_getElem?
    intro j
    by_cases hj : j < vs.length
    · obtain ⟨en, he, hk⟩ := hv j vs[j] (List.getElem?_eq_getElem hj)
      rw [List.getElem?_eq_getElem hj, hk, List.getElem?_map, Array.getElem?_toList, he]
      rfl
    · rw [List.getElem?_eq_none (by omega), List.getElem?_eq_none (by rw [List.length_map, Array.length_toList]; omega)]
  refine lsort_tup (s := { s with heap := h', toks := tk }) F' N' (fun p hp => Nat.ne_of_lt (l1 p hp)) (fun v hv' => ?_) (by omega) fun h'' tk' out c F'' N'' hp => h D h'' tk' out c F'' N'' l1 (e ▸ hp)
  rw [e] at hv'
  obtain ⟨en, hen, rfl⟩ := List.mem_map.mp hv'
  exact hT en hen

/-- the keys, asked one by one -/
theorem keys_go {f : Value} {kS : Addr} {e1 : Nat} {Fin : List Value → Nat → Shared → Prop} (hkD : kS ≠ D)
    (turn : ∀ v ∈ vs, ∀ (s' : Shared) (Q : Value → Shared → Prop) (tl : Led), (∃ h tk, s' = { s with heap := h, toks := tk }) → Fr h₀ L s'.heap m → News h₀ L s'.heap (tl ++ news) →
      (∀ a o h' tk, (∀ b ob, s'.heap.get? b = some ob → h'.get? b = some ob) → s'.heap.get? a = none → h'.get? a = some o → TObj o → Q (.ref a) { s' with heap := h', toks := tk }) → wpAny (model prog w) A (call f [v]) Q (fun _ _ => False) s')
    (fin : ∀ ks e h' tk tl, ks.length = vs.length → Fr h₀ L h' m → News h₀ L h' ((kS, seqObj "list" ks.toArray e) :: (D, seqObj "list" #[] e1) :: (tl ++ news)) → (∀ k ∈ ks, TLed h₀ tl k) → (∀ p ∈ tl ++ news, p.1 ≠ kS ∧ p.1 ≠ D) → Fin ks e { s with heap := h', toks := tk }) :
    ∀ (r : List Value), (∀ v ∈ r, v ∈ vs) → ∀ (ks : List Value) (e : Nat) (h : Heap) (tk : Nat) (tl : Led), ks.length + r.length = vs.length → Fr h₀ L h m → News h₀ L h ((kS, seqObj "list" ks.toArray e) :: (D, seqObj "list" #[] e1) :: (tl ++ news)) →
      (∀ k ∈ ks, TLed h₀ tl k) → (∀ p ∈ tl ++ news, p.1 ≠ kS ∧ p.1 ≠ D) → KatKeys prog w A h₀ L m kS f Fin r ks e { s with heap := h, toks := tk }
  | [], _, ks, e, h, tk, tl, hl, F, N, hk, off => KatKeys.nil (fin ks e h tk tl (by simpa using hl) F N hk off)
  | v :: r, hv, ks, e, h, tk, tl, hl, F, N, hk, off => by
    refine KatKeys.cons (turn v (hv v (.head _)) _ _ (tl) ⟨h, tk, rfl⟩ F (News.sub N fun p hp => .tail _ (.tail _ hp)) fun a o h' tk' keep fresh ho hT => ?_)
    have hnew : ∀ p ∈ (kS, seqObj "list" ks.toArray e) :: (D, seqObj "list" #[] e1) :: (tl ++ news), a ≠ p.1 := fun p hp q => by
      have z := (N p hp).1
      have fr : h.get? a = none := fresh
      rw [q] at fr
      rw [fr] at z; cases z
    have N' : News h₀ L h' ((kS, seqObj "list" ks.toArray e) :: (a, o) :: (D, seqObj "list" #[] e1) :: (tl ++ news)) := fun p hp => by
      have up : ∀ p ∈ (kS, seqObj "list" ks.toArray e) :: (D, seqObj "list" #[] e1) :: (tl ++ news), h'.get? p.1 = some p.2 ∧ p.1 ≠ L ∧ h₀.get? p.1 = none := fun p hp => ⟨keep _ _ (N p hp).1, (N p hp).2⟩
      rcases List.mem_cons.mp hp with rfl | hp
      · exact up _ (.head _)
      · rcases List.mem_cons.mp hp with rfl | hp
        · refine ⟨ho, fun q => ?_, ?_⟩
          · obtain ⟨oL, _, _, hL, _⟩ := F.ns
            have fr : h.get? a = none := fresh
            have q' : a = L := q
            rw [q', hL] at fr; cases fr
          · cases q : h₀.get? a with
            | none => rfl
            | some ob =>
              have fr : h.get? a = none := fresh
              rw [F.keep _ _ q] at fr; cases fr
        · exact up p (.tail _ hp)
    have off' : ∀ p ∈ (a, o) :: (D, seqObj "list" #[] e1) :: (tl ++ news), p.1 ≠ kS := fun p hp => by
      rcases List.mem_cons.mp hp with rfl | hp
      · exact hnew _ (.head _)
      · rcases List.mem_cons.mp hp with rfl | hp
        · exact Ne.symm hkD
        · exact (off p hp).1
    refine KatBack.intro (F.keeps keep) N' (UpdF.head off') fun h'' c F'' N'' => ?_
    refine keys_go hkD turn fin r (fun u hu => hv u (.tail _ hu)) (ks ++ [.ref a]) c h'' tk' ((a, o) :: tl) (by rw [List.length_append, List.length_singleton]; rw [List.length_cons] at hl; omega) F'' (News.sub N'' fun p hp => ?_) (fun k hk' => ?_) fun p hp => ?_
    · simp only [List.mem_cons, List.cons_append] at hp ⊢
      rcases hp with h1 | h1 | h1 | h1
      · exact .inl h1
      · exact .inr (.inr (.inl h1))
      · exact .inr (.inl h1)
      · exact .inr (.inr (.inr h1))
    · rcases List.mem_append.mp hk' with h1 | h1
      · exact (hk k h1).mono fun p hp => .tail _ hp
      · rw [List.mem_singleton.mp h1]
        exact ⟨a, o, rfl, .inr (.head _), hT⟩
    · rw [List.cons_append] at hp
      rcases List.mem_cons.mp hp with rfl | hp
      · exact ⟨hnew _ (.head _), hnew _ (.tail _ (.head _))⟩
      · exact off p hp

theorem sorted_key {l q : Addr} {Q : Value → Shared → Prop} (F : Fr h₀ L s.heap m) (N : News h₀ L s.heap news) (hl : s.heap.IsList l vs.toArray) (h2 : 2 ≤ vs.length) (h64 : vs.length < 64)
    (turn : ∀ v ∈ vs, ∀ (s' : Shared) (Q : Value → Shared → Prop) (tl : Led), (∃ h tk, s' = { s with heap := h, toks := tk }) → Fr h₀ L s'.heap m → News h₀ L s'.heap (tl ++ news) →
      (∀ a o h' tk, (∀ b ob, s'.heap.get? b = some ob → h'.get? b = some ob) → s'.heap.get? a = none → h'.get? a = some o → TObj o → Q (.ref a) { s' with heap := h', toks := tk }) → wpAny (model prog w) A.in1.in1 (call (.ref q) [v]) Q (fun _ _ => False) s')
    (h : ∀ D h' tk out c, Fr h₀ L h' m → News h₀ L h' ((D, listOf (List.toArray out) c) :: news) → (∀ q ∈ news, q.1 < D) → out.Perm vs → Q (.ref D) { s with heap := h', toks := tk }) :
    wpAny (model prog w) A (call (.builtin "sorted") [.ref l] [(PySem.Str.ofString "key", .ref q)]) Q E s := by
  refine kat_sortedK (b := false) F N hl h2 h64 (ksk_s1 _ _) (fun x => ksk_l1 _ _) (fun x => ksk_t1 q x) fun D kS e1 h' F' N' l0 l1 => ?_
  refine keys_go (s := { s with heap := h' }) (news := news) (Nat.ne_of_gt l0) (fun v hv s' Q' tl hs' => turn v hv s' Q' tl hs') (fun ks e h'' tk tl hkl F'' N'' hk off => ?_) vs (fun _ hv => hv) [] 0 h' s.toks [] (by simp) F' (News.sub N' fun p hp => hp) (fun _ hk => (nomatch hk))
    fun p hp => ⟨Nat.ne_of_lt (Nat.lt_trans (l1 p (by simpa using hp)) l0), Nat.ne_of_lt (l1 p (by simpa using hp))⟩
  have N1 : News h₀ L h'' tl := News.sub N'' fun p hp => .tail _ (.tail _ (List.mem_append_left _ hp))
  refine kind_ints (fun v hv => (hk v hv).at F'' N1) (by omega) ?_
  refine KAll.use (fun i j C hi hj hc => ?_) (fun p hp => ?_) (all_sort (n := vs.length) (by omega))
  · unfold kas_ask
    show wpAny _ _ (keyLt' (tuples' true) (ks.getD i Value.none) (ks.getD j Value.none)) C _ _
    have hi' : i < ks.length := by omega
    have hj' : j < ks.length := by omega
    refine lt_ints ?_ ?_ hc
    · rw [List.getD_eq_getElem?_getD, List.getElem?_eq_getElem hi']
      exact (hk _ (List.getElem_mem hi')).at F'' N1
    · rw [List.getD_eq_getElem?_getD, List.getElem?_eq_getElem hj']
      exact (hk _ (List.getElem_mem hj')).at F'' N1
  · refine KatFin.intro F'' N'' (UpdF.head fun p hp => ?_) fun h3 c F3 N3 => ?_
    · rcases List.mem_cons.mp hp with rfl | hp
      · exact Nat.ne_of_lt l0
      · exact (off p hp).1
    · refine sort_fin (news := news) hp F3 (News.sub N3 fun p hp => ?_) (fun p hp => Nat.ne_of_lt (l1 p hp)) fun h4 out c' F4 N4 hp' => h D h4 _ out c' F4 N4 l1 hp'
      rcases List.mem_cons.mp hp with rfl | hp
      · exact .tail _ (.head _)
      · exact .tail _ (.tail _ (List.mem_append_right _ hp))
end
end
end Mine

end

section
open PySem PySem.W PyProof.Rows PySem.Calls
open PyProof.Rows.LCg (NsObj ns_obj lst lst_snoc fr_but news_but)
namespace Mine

section
variable {prog : Program} {w : World} {A : Around} {E : Value → Shared → Prop} {s : Shared}

/-- a comprehension's test, if it has one: behind it `X`, past it `Y` -/
def Tested (prog : Program) (w : World) (A : Around) (ifs : List PySem.Expr) (env : Env) (X Y : Shared → Prop) (E : Value → Shared → Prop) (s : Shared) : Prop :=
  match ifs with
  | [c] => wpAny (model prog w) A (isTrue c env (eval c env)) (fun ok s' => if ok = true then X s' else Y s') E s
  | _ => X s

/-- what one turn of a comprehension's loop asks -/
def CTurn (prog : Program) (w : World) (A : Around) (elt target : PySem.Expr) (ifs : List PySem.Expr) (it acc : Value) (env : Env) (Err : Value → Shared → Prop) (End Next : Shared → Prop) (s : Shared) : Prop :=
  wpAny (model prog w) A (pyNext it) (fun r s₁ => match r with
    | none => End s₁
    | some v => wpAny (model prog w) A (letOwnedTupleGo target it v) (fun _ s₂ => wpAny (model prog w) A (assign target env v) (fun _ s₃ =>
        Tested prog w A ifs env (fun s₄ => wpAny (model prog w) A (eval elt env) (fun x s₅ => wpAny (model prog w) A (call (.builtin "list.append") [acc, x]) (fun _ => Next) Err s₅) Err s₄) Next Err s₃) Err s₂) Err s₁) Err s

theorem comp_loop {elt target iter : PySem.Expr} {ifs : List PySem.Expr} {scope : PySem.Scope} {pos : Pos} {it acc : Value} {env : Env} {R : Result → Shared → Prop} (hifs : ifs.length ≤ 1) (I : Nat → Shared → Prop)
    (turn : ∀ n s, I n s → CTurn prog w A elt target ifs it acc env (notedBy (model prog w) A env fun e s' => R (.error e) s') (R (.ok .next)) (fun s' => ∃ k, k < n ∧ I k s') s) (n : Nat) (h : I n s) :
    codeAny (model prog w) A (.compLoop (.ListComp elt [⟨target, iter, ifs, 0⟩] scope pos) 0 it acc env) R s := by
  match ifs, hifs with
  | [], _ => exact kcp_loop I turn n h
  | [c], _ => exact kct_loop I turn n h

theorem Tested.mono {ifs : List PySem.Expr} {env : Env} {X Y X' Y' : Shared → Prop} (h : Tested prog w A ifs env X Y E s) (hX : ∀ s', X s' → X' s') (hY : ∀ s', Y s' → Y' s') : Tested prog w A ifs env X' Y' E s := by
  unfold Tested at h ⊢
  split at h
  · refine wpAny_mono h (fun b s' z => ?_) fun _ _ e => e
    cases b with
    | true => exact hX _ z
    | false => exact hY _ z
  · exact hX _ h

/-- the end of a comprehension's turn -/
def CEnd (h₀ : Heap) (L : Addr) (m : PySem.Str → Option Value) (I : Addr) (oI : Obj) (C : Addr) (oC : Obj) (D : Addr) (oD : Obj) (s₁ : Shared) (R : Led → Prop) (s₂ : Shared) : Prop :=
  ∃ h' tk nx, s₂ = { s₁ with heap := h', toks := tk } ∧ Fr h₀ L h' m ∧ News h₀ L h' ((I, oI) :: (C, oC) :: (D, oD) :: nx) ∧ (∀ p ∈ nx, p.1 ≠ I ∧ p.1 ≠ C ∧ p.1 ≠ D) ∧ R nx

/-- the addresses of a comprehension's own things: its iterator, its frame, its list; `ax` is gone over -/
structure COwn (h₀ : Heap) (L ax I C D : Addr) : Prop where
  ic : @Ne Nat I C
  id : @Ne Nat I D
  cd : @Ne Nat C D
  il : @Ne Nat I L
  cl : @Ne Nat C L
  dl : @Ne Nat D L
  ac : @Ne Nat ax C
  ad : @Ne Nat ax D
  i0 : h₀.get? I = none
  c0 : h₀.get? C = none
  d0 : h₀.get? D = none

/-- what stands ahead of a turn -/
structure CHere (h₀ : Heap) (L : Addr) (m : PySem.Str → Option Value) (I C D : Addr) (St : Nat → Heap → Prop) (J : Nat → List Value → Led → Prop) (i : Nat) (ys : List Value) (nx : Led) (h : Heap) : Prop where
  few : ys.length ≤ i
  st : St i h
  fr : Fr h₀ L h m
  ns : ∃ mC, h.Ns C mC
  led : News h₀ L h ((D, lst ys) :: nx)
  off : ∀ p ∈ nx, p.1 ≠ I ∧ p.1 ≠ C ∧ p.1 ≠ D
  inv : J i ys nx

section
variable {h₀ : Heap} {L : Addr} {m : PySem.Str → Option Value} {env : Env} {I C D ax : Addr} {lo : Obj} {n : Nat} {P : Nat → Value → Prop} {St : Nat → Heap → Prop} {J : Nat → List Value → Led → Prop}

/-- the thing that is gone over lies where it lay -/
theorem src_lies {i : Nat} {ys : List Value} {nx pre : Led} {h : Heap} (src : h₀.get? ax = some lo ∨ ∀ (i : Nat) (ys : List Value) (nx : Led), J i ys nx → (ax, lo) ∈ nx) (F : Fr h₀ L h m) (N : News h₀ L h (pre ++ nx)) (j : J i ys nx) : h.get? ax = some lo := by
  cases src with
  | inl e => exact F.keep _ _ e
  | inr f => exact (N _ (List.mem_append_right _ (f _ _ _ j))).1

theorem src_still {i j k : Nat} {ys ys' : List Value} {nx nx' pre pre' : Led} {h h' : Heap} {oI : Obj} (W : Walks prog w A I [I, ax] [I] n P St) (src : h₀.get? ax = some lo ∨ ∀ (i : Nat) (ys : List Value) (nx : Led), J i ys nx → (ax, lo) ∈ nx)
    (st : St k h) (F : Fr h₀ L h m) (N : News h₀ L h (pre ++ nx)) (j₁ : J i ys nx) (hI : h.get? I = some oI) (F' : Fr h₀ L h' m) (N' : News h₀ L h' (pre' ++ nx')) (j₂ : J j ys' nx') (hI' : h'.get? I = some oI) : St k h' := by
  refine W.frame _ _ _ st fun b hb o e => ?_
  have hb' : b = I ∨ b = ax := by simpa using hb
  rcases hb' with q | q <;> subst q
  · rwa [hI', ← hI]
  · rw [src_lies src F' N' j₂, ← src_lies src F N j₁, e]

/-- one turn -/
theorem comp_step {elt target : PySem.Expr} {ifs : List PySem.Expr} {scope : PySem.Scope} {cl : List (PySem.Str × Addr)} {s₂ : Shared} {i : Nat} {ys : List Value} {nx : Led} {h : Heap} {tk : Nat} {Err : Value → Shared → Prop} {End Next : Shared → Prop} {bnd : Nat → Value → (PySem.Str → Option Value) → Prop}
    (own : COwn h₀ L ax I C D) (W : Walks prog w A I [I, ax] [I] n P St) (hsz : n ≤ sizeLine)
    (hgo : ∀ i v (s : Shared) (Q : Unit → Shared → Prop) (E : Value → Shared → Prop), St i s.heap → Q () s → wpAny (model prog w) A (letOwnedTupleGo target (.ref I) v) Q E s)
    (hIo : ∀ i h, St i h → ∃ o, h.get? I = some o) (src : h₀.get? ax = some lo ∨ ∀ (i : Nat) (ys : List Value) (nx : Led), J i ys nx → (ax, lo) ∈ nx)
    (asg : ∀ i v C mC ys nx (s' : Shared) (Q : Unit → Shared → Prop) (E : Value → Shared → Prop), i < n → P i v → J i ys nx → Fr h₀ L s'.heap m → News h₀ L s'.heap nx → s'.heap.Ns C mC → (∀ b o, h₀.get? b = some o → b ≠ C) → (∀ p ∈ nx, p.1 ≠ C) →
      (∀ h' m' tk, h'.Ns C m' → bnd i v m' → Heap.ExtBut C s'.heap h' → Q () { s' with heap := h', toks := tk }) → wpAny (model prog w) A (assign target (compEnvC scope cl C env) v) Q E s')
    (turn : ∀ i v ys nx oI C oC D m₂ h tk (E' : Value → Shared → Prop), i < n → P i v → J i ys nx → NsObj oC m₂ → bnd i v m₂ → Fr h₀ L h m → News h₀ L h ((I, oI) :: (C, oC) :: (D, lst ys) :: nx) → (∀ p ∈ nx, p.1 ≠ I ∧ p.1 ≠ C ∧ p.1 ≠ D) →
      ((@Ne Nat I C) ∧ (@Ne Nat I D) ∧ (@Ne Nat C D)) → ys.length ≤ i →
      Tested prog w A ifs (compEnvC scope cl C env) (fun s' => wpAny (model prog w) A (eval elt (compEnvC scope cl C env)) (fun y => CEnd h₀ L m I oI C oC D (lst ys) { s₂ with heap := h, toks := tk } (fun nx' => J (i + 1) (ys ++ [y]) nx')) E' s')
        (CEnd h₀ L m I oI C oC D (lst ys) { s₂ with heap := h, toks := tk } (fun nx' => J (i + 1) ys nx')) E' { s₂ with heap := h, toks := tk })
    (hi : i ≤ n) (H : CHere h₀ L m I C D St J i ys nx h) (fin : ∀ h' tk' mC, i = n → Fr h₀ L h' m → News h₀ L h' ((D, lst ys) :: nx) → h'.Ns C mC → End { s₂ with heap := h', toks := tk' })
    (nxt : ∀ ys' nx' h' tk', i < n → CHere h₀ L m I C D St J (i + 1) ys' nx' h' → Next { s₂ with heap := h', toks := tk' }) :
    CTurn prog w A elt target ifs (.ref I) (.ref D) (compEnvC scope cl C env) Err End Next { s₂ with heap := h, toks := tk } := by
  obtain ⟨mC, ns⟩ := H.ns
  have offI : ∀ p ∈ (D, lst ys) :: nx, p.1 ≠ I := List.forall_mem_cons.mpr ⟨Ne.symm own.id, fun p hp => (H.off p hp).1⟩
  -- what the iterator's turn leaves
  have past : ∀ h', (∀ b o, b ∉ [I] → h.get? b = some o → h'.get? b = some o) → Fr h₀ L h' m ∧ News h₀ L h' ((D, lst ys) :: nx) ∧ h'.Ns C mC := fun h' k =>
    ⟨fr_but H.fr k (Ne.symm own.il) own.i0, news_but H.led k offI, ns.at' fun o e => k C o (by simpa using Ne.symm own.ic) e⟩
  by_cases hlt : i < n
  · refine W.item i _ _ _ hlt H.st fun v h₁ tk₁ hP st₁ k₁ => hgo (i + 1) v _ _ _ st₁ ?_
    obtain ⟨F₁, N₁, ns₁⟩ := past h₁ k₁
    have low : ∀ b o, h₀.get? b = some o → b ≠ C := fun b o e q => by rw [q, own.c0] at e; cases e
    refine asg i v C mC ys nx _ _ _ hlt hP H.inv F₁ (News.sub N₁ fun p hp => .tail _ hp) ns₁ low (fun p hp => (H.off p hp).2.1) fun h₂ mC₂ tk₂ ns₂ b₂ k₂ => ?_
    have F₂ : Fr h₀ L h₂ m := ⟨F₁.ns.at' fun o e => k₂ L o (Ne.symm own.cl) e, fun b o e => k₂ b o (low b o e) (F₁.keep b o e), F₁.above⟩
    have st₂ : St (i + 1) h₂ := W.frame _ _ _ st₁ fun b hb o e => k₂ b o (by
      have hb' : b = I ∨ b = ax := by simpa using hb
      rcases hb' with q | q <;> subst q
      · exact own.ic
      · exact own.ac) e
    have N₂ : News h₀ L h₂ ((D, lst ys) :: nx) := fun p hp => ⟨k₂ _ _ (by
      rcases List.mem_cons.mp hp with q | q
      · rw [q]; exact Ne.symm own.cd
      · exact (H.off p q).2.1) (N₁ p hp).1, (N₁ p hp).2⟩
    obtain ⟨oI, gI⟩ := hIo _ _ st₂
    obtain ⟨oC, gC, hC⟩ := ns_obj ns₂
    have N₃ : News h₀ L h₂ ((I, oI) :: (C, oC) :: (D, lst ys) :: nx) := List.forall_mem_cons.mpr ⟨⟨gI, own.il, own.i0⟩, List.forall_mem_cons.mpr ⟨⟨gC, own.cl, own.c0⟩, N₂⟩⟩
    refine (turn i v ys nx oI C oC D mC₂ h₂ tk₂ _ hlt hP H.inv hC b₂ F₂ N₃ H.off ⟨own.ic, own.id, own.cd⟩ H.few).mono (fun s' z => wpAny_mono z (fun y s₅ e₅ => ?_) fun _ _ e => e) fun s' e₅ => ?_
    · obtain ⟨h₃, tk₃, nx₃, rfl, F₃, N₄, off₃, j₃⟩ := e₅
      have st₃ : St (i + 1) h₃ := src_still (pre := [(I, oI), (C, oC), (D, lst ys)]) (pre' := [(I, oI), (C, oC), (D, lst ys)]) W src st₂ F₂ N₃ H.inv gI F₃ N₄ j₃ (N₄ _ (.head _)).1
      refine append_at (hsz := by rw [List.size_toArray]; exact Nat.le_trans H.few (Nat.le_trans hi hsz)) (N₄ (D, lst ys) (.tail _ (.tail _ (.head _)))).1 fun h₄ sb gD => ?_
      have k₄ := sb.extBut
      refine nxt (ys ++ [y]) nx₃ h₄ tk₃ hlt ⟨by simpa using H.few, W.frame _ _ _ st₃ fun b hb o e => k₄ b o ?_ e, F₃.change sb own.dl own.d0, ⟨_, (hC.ns (N₄ (C, oC) (.tail _ (.head _))).1).sameBut sb own.cd⟩, ?_, off₃, j₃⟩
      · have hb' : b = I ∨ b = ax := by simpa using hb
        rcases hb' with q | q <;> subst q
        · exact own.id
        · exact own.ad
      · refine List.forall_mem_cons.mpr ⟨⟨gD.trans (congrArg some (lst_snoc ys y)), own.dl, own.d0⟩, fun p hp => ?_⟩
        have z := N₄ p (.tail _ (.tail _ (.tail _ hp)))
        exact ⟨k₄ _ _ (off₃ p hp).2.2 z.1, z.2⟩
    · obtain ⟨h₃, tk₃, nx₃, rfl, F₃, N₄, off₃, j₃⟩ := e₅
      exact nxt ys nx₃ h₃ tk₃ hlt ⟨Nat.le_succ_of_le H.few, src_still (pre := [(I, oI), (C, oC), (D, lst ys)]) (pre' := [(I, oI), (C, oC), (D, lst ys)]) W src st₂ F₂ N₃ H.inv gI F₃ N₄ j₃ (N₄ _ (.head _)).1, F₃,
        ⟨_, hC.ns (N₄ (C, oC) (.tail _ (.head _))).1⟩, News.sub N₄ fun p hp => .tail _ (.tail _ hp), off₃, j₃⟩
  · obtain rfl : i = n := by omega
    refine W.done _ _ _ H.st fun h₁ tk₁ k₁ => ?_
    obtain ⟨F₁, N₁, ns₁⟩ := past h₁ k₁
    exact fin h₁ tk₁ mC rfl F₁ N₁ ns₁

/-- the whole of it, its source being iterated: the list, the frame, the turns -/
theorem comp_block {elt target iter : PySem.Expr} {ifs : List PySem.Expr} {scope : PySem.Scope} {cl : List (PySem.Str × Addr)} {pos : Pos} {s₂ : Shared} {news : Led} {bnd : Nat → Value → (PySem.Str → Option Value) → Prop} {RR : Value → Addr → Result → Shared → Prop}
    (hifs : ifs.length ≤ 1) (W : Walks prog w A I [I, ax] [I] n P St) (hsz : n ≤ sizeLine)
    (hgo : ∀ i v (s : Shared) (Q : Unit → Shared → Prop) (E : Value → Shared → Prop), St i s.heap → Q () s → wpAny (model prog w) A (letOwnedTupleGo target (.ref I) v) Q E s)
    (hIo : ∀ i h, St i h → ∃ o, h.get? I = some o) (hlo : s₂.heap.get? ax = some lo) (src : h₀.get? ax = some lo ∨ ∀ (i : Nat) (ys : List Value) (nx : Led), J i ys nx → (ax, lo) ∈ nx)
    (hcell : ∀ y ∈ scope.names, y.2 ≠ .cell) (hkind : scope.kind = .function) (hst : St 0 s₂.heap) (hIlt : I < s₂.heap.objs.size)
    (F : Fr h₀ L s₂.heap m) (N : News h₀ L s₂.heap news) (hIL : L ≠ I) (hI₀ : h₀.get? I = none) (off : ∀ p ∈ news, p.1 ≠ I) (hj : J 0 [] news)
    (asg : ∀ i v C mC ys nx (s' : Shared) (Q : Unit → Shared → Prop) (E : Value → Shared → Prop), i < n → P i v → J i ys nx → Fr h₀ L s'.heap m → News h₀ L s'.heap nx → s'.heap.Ns C mC → (∀ b o, h₀.get? b = some o → b ≠ C) → (∀ p ∈ nx, p.1 ≠ C) →
      (∀ h' m' tk, h'.Ns C m' → bnd i v m' → Heap.ExtBut C s'.heap h' → Q () { s' with heap := h', toks := tk }) → wpAny (model prog w) A (assign target (compEnvC scope cl C env) v) Q E s')
    (turn : ∀ i v ys nx oI C oC D m₂ h tk (E' : Value → Shared → Prop), i < n → P i v → J i ys nx → NsObj oC m₂ → bnd i v m₂ → Fr h₀ L h m → News h₀ L h ((I, oI) :: (C, oC) :: (D, lst ys) :: nx) → (∀ p ∈ nx, p.1 ≠ I ∧ p.1 ≠ C ∧ p.1 ≠ D) →
      ((@Ne Nat I C) ∧ (@Ne Nat I D) ∧ (@Ne Nat C D)) → ys.length ≤ i →
      Tested prog w A ifs (compEnvC scope cl C env) (fun s' => wpAny (model prog w) A (eval elt (compEnvC scope cl C env)) (fun y => CEnd h₀ L m I oI C oC D (lst ys) { s₂ with heap := h, toks := tk } (fun nx' => J (i + 1) (ys ++ [y]) nx')) E' s')
        (CEnd h₀ L m I oI C oC D (lst ys) { s₂ with heap := h, toks := tk } (fun nx' => J (i + 1) ys nx')) E' { s₂ with heap := h, toks := tk })
    (hRR : ∀ D C h tk m' ys nx, Fr h₀ L h m → News h₀ L h ((D, lst ys) :: nx) → (∀ p ∈ nx, p.1 ≠ D) → h.Ns C m' → h₀.get? C = none → h₀.get? D = none → C ≠ L → D ≠ L → C ≠ D → (∀ p ∈ nx, p.1 ≠ C) → J n ys nx → RR (.ref D) C (.ok .next) { s₂ with heap := h, toks := tk }) :
    wpAny (model prog w) A (newList []) (fun acc s₃ => wpAny (model prog w) A (newFunctionEnv scope env.globals cl [] env.qual none .none (some env)) (fun cenv s₄ =>
      codeAny (model prog w) A (.compStart (.ListComp elt [⟨target, iter, ifs, 0⟩] scope pos) 0 (.ref I) acc { cenv with scope := relabel scope env }) (RR acc cenv.locals) s₄) E s₃) E s₂ := by
  refine wpAny_newObj_type (wpAny_newFunctionEnv hcell (fun y hy => absurd hy (by simp)) (fun h₁ ns₁ sb₁ => ?_) hkind)
  dsimp only at ns₁ sb₁ ⊢
  have k₁ := sb₁.extBut
  have sz : (s₂.heap.push { cls := Value.type "list", data := Data.seq #[] }).objs.size = s₂.heap.objs.size + 1 := Heap.size_push ..
  have lt : ∀ b o, s₂.heap.get? b = some o → @LT.lt Nat _ b s₂.heap.objs.size := fun _ _ e => Heap.lt_size e
  -- what was there is there; what is new lies above all of it
  have old : ∀ b o, s₂.heap.get? b = some o → h₁.get? b = some o := fun b o e => k₁ b o (by have := lt b o e; show @Ne Nat _ _; omega) (Heap.get?_push_of_some _ (Heap.get?_push_of_some _ e))
  have gD : h₁.get? s₂.heap.objs.size = some (lst []) := k₁ _ _ (by show @Ne Nat _ _; omega) (Heap.get?_push_of_some _ (Heap.get?_push_size _ rfl))
  have no : ∀ a, @LE.le Nat _ s₂.heap.objs.size a → h₀.get? a = none := fun a ha => by
    cases e : h₀.get? a with
    | none => rfl
    | some o => have := lt a o (F.keep a o e); omega
  obtain ⟨oL, gL, _⟩ := ns_obj F.ns
  have ltL := lt L oL gL
  have ltA := lt ax lo hlo
  have ltI : @LT.lt Nat _ I s₂.heap.objs.size := hIlt
  have own : COwn h₀ L ax I (s₂.heap.push { cls := Value.type "list", data := Data.seq #[] }).objs.size s₂.heap.objs.size := by
    refine ⟨?_, ?_, ?_, Ne.symm hIL, ?_, ?_, ?_, ?_, hI₀, no _ ?_, no _ (Nat.le_refl _)⟩ <;> omega
  have here : CHere h₀ L m I (s₂.heap.push { cls := Value.type "list", data := Data.seq #[] }).objs.size s₂.heap.objs.size St J 0 [] news h₁ := by
    refine ⟨Nat.le_refl 0, W.frame _ _ _ hst fun b _ o e => old b o e, F.keeps old, ⟨_, ns₁⟩, List.forall_mem_cons.mpr ⟨⟨gD, own.dl, own.d0⟩, fun p hp => ⟨old _ _ (N p hp).1, (N p hp).2⟩⟩, fun p hp => ?_, hj⟩
    have := lt _ _ (N p hp).1
    exact ⟨off p hp, by show @Ne Nat _ _; omega, by show @Ne Nat _ _; omega⟩
  have loop : ∀ s₃ : Shared, s₃ = { s₂ with heap := h₁, toks := s₂.toks + ([] : List (PySem.Str × Value)).length } →
      codeAny (model prog w) A (.compLoop (.ListComp elt [⟨target, iter, ifs, 0⟩] scope pos) 0 (.ref I) (.ref s₂.heap.objs.size) (compEnvC scope cl (s₂.heap.push { cls := Value.type "list", data := Data.seq #[] }).objs.size env))
        (RR (.ref s₂.heap.objs.size) (s₂.heap.push { cls := Value.type "list", data := Data.seq #[] }).objs.size) s₃ := by
    rintro _ rfl
    generalize (s₂.heap.push { cls := Value.type "list", data := Data.seq #[] }).objs.size = C at own here
    generalize s₂.heap.objs.size = D at own here
    refine comp_loop hifs (fun k s' => ∃ i ys nx h tk, k + i = n ∧ s' = { s₂ with heap := h, toks := tk } ∧ CHere h₀ L m I C D St J i ys nx h) ?_ n ⟨0, [], news, h₁, _, rfl, rfl, here⟩
    rintro k _ ⟨i, ys, nx, h, tk, hk, rfl, H⟩
    refine comp_step own W hsz hgo hIo src asg turn (by omega) H (fun h' tk' mC e F' N' n' => ?_) fun ys' nx' h' tk' hi H' => ⟨k - 1, by omega, i + 1, ys', nx', h', tk', by omega, rfl, H'⟩
    exact hRR D C h' tk' mC ys nx F' N' (fun p hp => (H.off p hp).2.2) n' own.c0 own.d0 own.cl own.dl own.cd (fun p hp => (H.off p hp).2.1) (e ▸ H.inv)
  exact codeAny_compStart_list (loop _ rfl) (W.self 0 _ _ _ here.st (loop _ rfl))
end
end
end Mine

end

section
open PySem PySem.W PyProof.Rows PySem.Calls
open PyProof.Rows.LCg (NsObj ns_obj lst lst_snoc fr_but news_but)
open PyProof.Rows.LCg
namespace Mine

/-- what a loop or a comprehension goes over -/
def Src (prog : Program) (w : World) (A : Around) (target : PySem.Expr) (s : Shared) (r : Addr) (ax : Addr) (lo : Obj) (n : Nat) (P : Nat → Value → Prop) : Prop :=
  ∃ (oI : Obj) (St : Nat → Heap → Prop), (∀ (E Q : Value → Shared → Prop), Q (.ref s.heap.objs.size) { s with heap := s.heap.push oI } → wpAny (model prog w) A (pyIter (.ref r)) Q E s) ∧
    Walks prog w A s.heap.objs.size [s.heap.objs.size, ax] [s.heap.objs.size] n P St ∧ St 0 (s.heap.push oI) ∧ s.heap.get? ax = some lo ∧ (∀ i h, St i h → ∃ o, h.get? s.heap.objs.size = some o) ∧
    ∀ i v (s' : Shared) (Q : Unit → Shared → Prop) (E : Value → Shared → Prop), St i s'.heap → Q () s' → wpAny (model prog w) A (letOwnedTupleGo target (.ref s.heap.objs.size) v) Q E s'

section
variable {prog : Program} {w : World} {A : Around} {E : Value → Shared → Prop} {s : Shared} {target : PySem.Expr}
theorem Src.list {ax : Addr} {lo : Obj} {vs : List Value} {e : Nat} (hh : A.handled = none) (hlo : s.heap.get? ax = some lo) (hc : lo.cls = .type "list") (hd : lo.data = .seq vs.toArray e) :
    Src prog w A target s ax ax lo vs.length (fun i v => vs[i]? = some v) := by
  have hl : s.heap.IsList ax vs.toArray := ⟨lo, hlo, hc, e, hd⟩
  have W := Walks.list (prog := prog) (w := w) hh s.heap.objs.size ax (Nat.ne_of_lt (Heap.lt_size hlo)) vs.toArray
  have hlen : vs.toArray.size = vs.length := by simp
  rw [hlen] at W
  refine ⟨_, fun i h => h.IsListIter s.heap.objs.size ax i ∧ h.IsList ax vs.toArray, fun E Q hq => wpAny_pyIter_list hl hq, ?_, ⟨⟨_, Heap.get?_push_size _ rfl, rfl, rfl⟩, hl.push _⟩, hlo, fun i h st => by obtain ⟨o, e, _⟩ := st.1; exact ⟨o, e⟩, fun i v s' Q E st q => letGo_listiter st.1 q⟩
  simpa using W
theorem Src.tuple {ax : Addr} {lo : Obj} {vs : List Value} {e : Nat} (hh : A.handled = none) (hlo : s.heap.get? ax = some lo) (hc : lo.cls = .type "tuple") (hd : lo.data = .seq vs.toArray e) :
    Src prog w A target s ax ax lo vs.length (fun i v => vs[i]? = some v) := by
  have hl : s.heap.IsTuple ax vs.toArray := ⟨lo, hlo, hc, e, hd⟩
  have W := Walks.tuple (prog := prog) (w := w) hh s.heap.objs.size ax (Nat.ne_of_lt (Heap.lt_size hlo)) vs.toArray
  have hlen : vs.toArray.size = vs.length := by simp
  rw [hlen] at W
  refine ⟨_, fun i h => h.IsTupleIter s.heap.objs.size ax i ∧ h.IsTuple ax vs.toArray, fun E Q hq => wpAny_pyIter_tuple hl hq, ?_, ⟨⟨_, Heap.get?_push_size _ rfl, rfl, rfl⟩, hl.push _⟩, hlo, fun i h st => by obtain ⟨o, e, _⟩ := st.1; exact ⟨o, e⟩, fun i v s' Q E st q => letGo_tupleiter st.1 q⟩
  simpa using W
theorem Src.raw {d : Addr} {lo : Obj} {es : Array DictEntry} {ep : Nat} (hh : A.handled = none) (sys : (d == sysModules) = false) (hlo : s.heap.get? d = some lo) (hx : lo.ExactDict) (hd : lo.data = .dict es ep) :
    Src prog w A target s d d lo es.size (fun i v => ∃ e, es[i]? = some e ∧ v = e.key) := by
  have hm : DRaw s.heap d es ep := ⟨lo, hlo, hx, hd⟩
  refine ⟨_, _, fun E Q hq => raw_iter sys hm hq, raw_walks hh _ d (Nat.ne_of_lt hm.lt) es ep, ⟨⟨_, Heap.get?_push_size _ rfl, rfl, rfl⟩, hm.at fun o e => Heap.get?_push_of_some _ e⟩, hlo, fun i h st => by obtain ⟨o, e, _⟩ := st.1; exact ⟨o, e⟩, fun i v s' Q E st q => letGo_keyiter st.1 q⟩
theorem Src.range {r : Addr} {lo : Obj} {a b : Int} {t u v : Tok} {n : Nat} {x : PySem.Str} {px : Pos} (hh : A.handled = none) (hlo : s.heap.get? r = some lo) (hr : IsRange s.heap r a b 1 t u v) (hsm : Builtin.Range.small a b 1 = true) (hn : Builtin.Range.rangeSize a b 1 = ((n : Nat) : Int)) :
    Src prog w A (.Name x px) s r r lo n (fun i v => ∃ t, v = .int (a + (i : Int)) t) := by
  have W := range_walks (prog := prog) (w := w) (I := s.heap.objs.size) hh a n
  refine ⟨_, _, fun E Q hq => wpAny_pyIter_range hr hsm hq, ⟨fun b hb => by rw [List.mem_singleton.mp hb]; exact .head _, fun i h h' st hk => W.frame i h h' st fun b hb o e => hk b (by rw [List.mem_singleton.mp hb]; exact .head _) o e, W.item, W.done, W.self⟩, ?_, hlo, fun i h st => ⟨_, st⟩, fun i v s' Q E st q => wpAny_pure q⟩
  show IsRangeIter _ _ _ _ _
  rw [hn]; simpa using Heap.get?_push_size _ rfl

section
variable {h₀ : Heap} {env : Env} {body : List Stmt} {Q : Flow → Shared → Prop}
theorem turns_src {r ax : Addr} {lo : Obj} {n : Nat} {P : Nat → Value → Prop} {m₀ : PySem.Str → Option Value} {news : Led} (J : Nat → (PySem.Str → Option Value) → Led → Prop)
    (S : Src prog w A target s r ax lo n P) (hsrc : h₀.get? ax = some lo ∨ ∀ i m nx, J i m nx → (ax, lo) ∈ nx) (haxL : ax ≠ env.locals)
    (F : Fr h₀ env.locals s.heap m₀) (N : News h₀ env.locals s.heap news) (hj : J 0 m₀ news)
    (turn : ∀ I i v m₁ nx oI h tk, i < n → P i v → (∀ p ∈ nx, p.1 ≠ I) → J i m₁ nx → Fr h₀ env.locals h m₁ → News h₀ env.locals h ((I, oI) :: nx) →
      wpAny (model prog w) A (assign target env v) (fun _ s₃ => wpAny (model prog w) A (execs body env) (TEnd h₀ env.locals I oI (J (i + 1)) { s with heap := h, toks := tk } Q) E s₃) E { s with heap := h, toks := tk })
    (done : ∀ m₁ nx h tk, J n m₁ nx → Fr h₀ env.locals h m₁ → News h₀ env.locals h nx → Q .next { s with heap := h, toks := tk }) :
    wpAny (model prog w) A (pyIter (.ref r)) (fun it s₂ => TurnsAt prog w A h₀ env target body Q E it s₂) E s := by
  obtain ⟨oI, St, it, W, st, hlo, hIo, hgo⟩ := S
  refine it _ _ ?_
  exact turns_at J W hgo hIo (fun _ _ _ _ _ _ => .inr trivial) (Heap.get?_push_of_some _ hlo) hsrc (next_is_new F) (Ne.symm (Nat.ne_of_lt F.ns.lt)) haxL
    (fun p hp => Nat.ne_of_lt (Heap.lt_size (N p hp).1)) st (F.push _) (fun p hp => ⟨Heap.get?_push_of_some _ (N p hp).1, (N p hp).2⟩) hj
    (fun i v m₁ nx oI h tk hi hp hn hJ F N => turn _ i v m₁ nx oI h tk hi hp hn hJ F N) done
end

section
variable {h₀ : Heap} {L : Addr} {m : PySem.Str → Option Value} {env : Env} {scope : PySem.Scope} {cl : List (PySem.Str × Addr)} {elt : PySem.Expr} {ifs : List PySem.Expr}

/-- what a comprehension asks, its source being at hand -/
def CompOk (prog : Program) (w : World) (A : Around) (h₀ : Heap) (L : Addr) (m : PySem.Str → Option Value) (env : Env) (scope : PySem.Scope) (cl : List (PySem.Str × Addr)) (elt target : PySem.Expr) (ifs : List PySem.Expr)
    (FIN : Shared → Addr → Led → Prop) (xv : Value) (s₁ : Shared) : Prop :=
  ∃ (r ax : Addr) (lo : Obj) (n : Nat) (P : Nat → Value → Prop) (news : Led) (J : Nat → List Value → Led → Prop) (bnd : Nat → Value → (PySem.Str → Option Value) → Prop), xv = .ref r ∧ Src prog w A target s₁ r ax lo n P ∧ n ≤ sizeLine ∧ (h₀.get? ax = some lo ∨ ∀ (i : Nat) (ys : List Value) (nx : Led), J i ys nx → (ax, lo) ∈ nx) ∧ ax ≠ L ∧ Fr h₀ L s₁.heap m ∧ News h₀ L s₁.heap news ∧ J 0 [] news ∧
    (∀ i v C mC ys nx (s' : Shared) (Q : Unit → Shared → Prop) (E : Value → Shared → Prop), i < n → P i v → J i ys nx → Fr h₀ L s'.heap m → News h₀ L s'.heap nx → s'.heap.Ns C mC → (∀ b o, h₀.get? b = some o → b ≠ C) → (∀ p ∈ nx, p.1 ≠ C) →
      (∀ h' m' tk, h'.Ns C m' → bnd i v m' → Heap.ExtBut C s'.heap h' → Q () { s' with heap := h', toks := tk }) → wpAny (model prog w) A (assign target (compEnvC scope cl C env) v) Q E s') ∧
    (∀ i v ys nx I oI C oC D m₂ h tk (E' : Value → Shared → Prop), i < n → P i v → J i ys nx → NsObj oC m₂ → bnd i v m₂ → Fr h₀ L h m → News h₀ L h ((I, oI) :: (C, oC) :: (D, lst ys) :: nx) → (∀ p ∈ nx, p.1 ≠ I ∧ p.1 ≠ C ∧ p.1 ≠ D) →
      ((@Ne Nat I C) ∧ (@Ne Nat I D) ∧ (@Ne Nat C D)) → ys.length ≤ i →
      Tested prog w A ifs (compEnvC scope cl C env) (fun s' => wpAny (model prog w) A (eval elt (compEnvC scope cl C env)) (fun y => CEnd h₀ L m I oI C oC D (lst ys) { s₁ with heap := h, toks := tk } (fun nx' => J (i + 1) (ys ++ [y]) nx')) E' s')
        (CEnd h₀ L m I oI C oC D (lst ys) { s₁ with heap := h, toks := tk } (fun nx' => J (i + 1) ys nx')) E' { s₁ with heap := h, toks := tk }) ∧
    (∀ D ys nx, (∀ p ∈ nx, p.1 ≠ D) → J n ys nx → FIN s₁ D ((D, lst ys) :: nx))

theorem CompOk.intro {FIN : Shared → Addr → Led → Prop} {s₁ : Shared} {r ax : Addr} {lo : Obj} {n : Nat} {P : Nat → Value → Prop} {news : Led} (J : Nat → List Value → Led → Prop) (bnd : Nat → Value → (PySem.Str → Option Value) → Prop)
    (S : Src prog w A target s₁ r ax lo n P) (hsz : n ≤ sizeLine) (hsrc : h₀.get? ax = some lo ∨ ∀ (i : Nat) (ys : List Value) (nx : Led), J i ys nx → (ax, lo) ∈ nx) (haxL : ax ≠ L) (F : Fr h₀ L s₁.heap m) (N : News h₀ L s₁.heap news) (hj : J 0 [] news)
    (asg : ∀ i v C mC ys nx (s' : Shared) (Q : Unit → Shared → Prop) (E : Value → Shared → Prop), i < n → P i v → J i ys nx → Fr h₀ L s'.heap m → News h₀ L s'.heap nx → s'.heap.Ns C mC → (∀ b o, h₀.get? b = some o → b ≠ C) → (∀ p ∈ nx, p.1 ≠ C) →
      (∀ h' m' tk, h'.Ns C m' → bnd i v m' → Heap.ExtBut C s'.heap h' → Q () { s' with heap := h', toks := tk }) → wpAny (model prog w) A (assign target (compEnvC scope cl C env) v) Q E s')
    (turn : ∀ i v ys nx I oI C oC D m₂ h tk (E' : Value → Shared → Prop), i < n → P i v → J i ys nx → NsObj oC m₂ → bnd i v m₂ → Fr h₀ L h m → News h₀ L h ((I, oI) :: (C, oC) :: (D, lst ys) :: nx) → (∀ p ∈ nx, p.1 ≠ I ∧ p.1 ≠ C ∧ p.1 ≠ D) →
      ((@Ne Nat I C) ∧ (@Ne Nat I D) ∧ (@Ne Nat C D)) → ys.length ≤ i →
      Tested prog w A ifs (compEnvC scope cl C env) (fun s' => wpAny (model prog w) A (eval elt (compEnvC scope cl C env)) (fun y => CEnd h₀ L m I oI C oC D (lst ys) { s₁ with heap := h, toks := tk } (fun nx' => J (i + 1) (ys ++ [y]) nx')) E' s')
        (CEnd h₀ L m I oI C oC D (lst ys) { s₁ with heap := h, toks := tk } (fun nx' => J (i + 1) ys nx')) E' { s₁ with heap := h, toks := tk })
    (fin : ∀ D ys nx, (∀ p ∈ nx, p.1 ≠ D) → J n ys nx → FIN s₁ D ((D, lst ys) :: nx)) : CompOk prog w A h₀ L m env scope cl elt target ifs FIN (.ref r) s₁ :=
  ⟨r, ax, lo, n, P, news, J, bnd, rfl, S, hsz, hsrc, haxL, F, N, hj, asg, turn, fin⟩
theorem CEnd.intro {I C D : Addr} {oI oC oD : Obj} {s₁ : Shared} {R : Led → Prop} {h' : Heap} {tk : Nat} {nx : Led} (F : Fr h₀ L h' m) (N : News h₀ L h' ((I, oI) :: (C, oC) :: (D, oD) :: nx)) (off : ∀ p ∈ nx, p.1 ≠ I ∧ p.1 ≠ C ∧ p.1 ≠ D) (hR : R nx) :
    CEnd h₀ L m I oI C oC D oD s₁ R { s₁ with heap := h', toks := tk } := ⟨h', tk, nx, rfl, F, N, off, hR⟩

/-- the source iterated, the list built -/
theorem CompOk.run {iter : PySem.Expr} {pos : Pos} {FIN : Shared → Addr → Led → Prop} {s₁ : Shared} {xv : Value} {RR : Value → Addr → Result → Shared → Prop} (hifs : ifs.length ≤ 1) (hcell : ∀ y ∈ scope.names, y.2 ≠ .cell) (hkind : scope.kind = .function)
    (ok : CompOk prog w A h₀ L m env scope cl elt target ifs FIN xv s₁)
    (past : ∀ D C h tk mC nw, Fr h₀ L h m → News h₀ L h nw → h.Ns C mC → h₀.get? C = none → C ≠ L → (∀ p ∈ nw, p.1 ≠ C) → FIN s₁ D nw → RR (.ref D) C (.ok .next) { s₁ with heap := h, toks := tk }) :
    wpAny (model prog w) A (pyIter xv) (fun it s₂ => wpAny (model prog w) A (newList []) (fun acc s₃ => wpAny (model prog w) A (newFunctionEnv scope env.globals cl [] env.qual none .none (some env)) (fun cenv s₄ =>
      codeAny (model prog w) A (.compStart (.ListComp elt [⟨target, iter, ifs, 0⟩] scope pos) 0 it acc { cenv with scope := relabel scope env }) (RR acc cenv.locals) s₄) E s₃) E s₂) E s₁ := by
  obtain ⟨r, ax, lo, n, P, news, J, bnd, rfl, S, hsz, src, axL, F, N, hj, asg, turn, fin⟩ := ok
  obtain ⟨oI, St, it, W, st, gA, hIo, hgo⟩ := S
  have grow : ∀ b o, s₁.heap.get? b = some o → (s₁.heap.push oI).get? b = some o := fun _ _ e => Heap.get?_push_of_some _ e
  have lt : ∀ p ∈ news, p.1 ≠ s₁.heap.objs.size := fun p hp => Nat.ne_of_lt (Heap.lt_size (N p hp).1)
  refine it _ _ (comp_block (s₂ := { s₁ with heap := s₁.heap.push oI }) hifs W hsz hgo hIo (grow _ _ gA) src hcell hkind st (by simp [Heap.size_push]) (F.push _) (fun p hp => ⟨grow _ _ (N p hp).1, (N p hp).2⟩) (Nat.ne_of_lt F.ns.lt) (next_is_new F) lt hj asg
    (fun i v ys nx oI C oC D m₂ h tk E' => turn i v ys nx _ oI C oC D m₂ h tk E') fun D C h tk mC ys nx F' N' offD n' c0 d0 cL dL cd offC j' => ?_)
  exact past D C h tk mC _ F' N' n' c0 cL (List.forall_mem_cons.mpr ⟨Ne.symm cd, offC⟩) (fin D ys nx offD j')

theorem comp_eval {iter : PySem.Expr} {pos : Pos} {Q : Value → Shared → Prop} (_F₀ : Fr h₀ L s.heap m)
    (hclos : closureFor scope env = pure cl) (hcell : ∀ y ∈ scope.names, y.2 ≠ .cell) (hkind : scope.kind = .function)
    (hnames : ∀ y ∈ scope.names, y.2 = .local → scope.names.lookup y.1 = some .local) (hs : ∀ x, foldedSetIterable iter env x = pure x)
    (h : wpAny (model prog w) A (eval iter env) (CompOk prog w A h₀ L m env scope cl elt target ifs (fun s₁ D nw => ∀ h tk, Fr h₀ L h m → News h₀ L h nw → Q (.ref D) { s₁ with heap := h, toks := tk })) E s)
    (hifs : ifs.length ≤ 1 := by first | exact Nat.zero_le _ | exact Nat.le_refl _) :
    wpAny (model prog w) A (eval (.ListComp elt [⟨target, iter, ifs, 0⟩] scope pos) env) Q E s := by
  rw [eval_ListComp]
  exact wpAny_comprehension_free (use := none) rfl hs hclos hkind hnames (wpAny_mono h (fun _ s₁ ok => ok.run hifs hcell hkind fun D C h tk mC nw F N n c0 cL off f =>
    ⟨mC, n, fun h' sb => f h' tk (F.change sb cL c0) fun p hp => ⟨sb.extBut _ _ (off p hp) (N p hp).1, (N p hp).2⟩⟩) fun _ _ e => e)

theorem comp_assign {iter : PySem.Expr} {pos spos py : Pos} {y : PySem.Str} {Q : Flow → Shared → Prop} (_F₀ : Fr h₀ L s.heap m) (hLe : env.locals = L)
    (hsw : swapsWith (.ListComp elt [⟨target, iter, ifs, 0⟩] scope pos) (some (.Name y py)) spos.line env = pure true)
    (hclos : closureFor scope env = pure cl) (hcell : ∀ y ∈ scope.names, y.2 ≠ .cell) (hkind : scope.kind = .function)
    (hnames : ∀ y ∈ scope.names, y.2 = .local → scope.names.lookup y.1 = some .local) (hs : ∀ x, foldedSetIterable iter env x = pure x)
    (hy : env.kindOf y = some .local) (hfr : (env.scope.kind == .class || (env.scope.kind == .module && env.locals != env.globals)) = false)
    (h : wpAny (model prog w) A (eval iter env) (CompOk prog w A h₀ L m env scope cl elt target ifs (fun s₁ D nw => ∀ h tk, Fr h₀ L h (fun z => if z = y then some (.ref D) else m z) → News h₀ L h nw → Q .next { s₁ with heap := h, toks := tk })) E s)
    (hifs : ifs.length ≤ 1 := by first | exact Nat.zero_le _ | exact Nat.le_refl _) :
    wpAny (model prog w) A (exec (.Assign [.Name y py] (.ListComp elt [⟨target, iter, ifs, 0⟩] scope pos) spos) env) Q E s := by
  subst hLe
  -- the frame of the caller, the list's name stored, then the comprehension's own frame gone
  have named : ∀ (s₁ : Shared) D C h tk mC nw, Fr h₀ env.locals h m → News h₀ env.locals h nw → h.Ns C mC → h₀.get? C = none → C ≠ env.locals → (∀ p ∈ nw, p.1 ≠ C) →
      (∀ h tk, Fr h₀ env.locals h (fun z => if z = y then some (.ref D) else m z) → News h₀ env.locals h nw → Q .next { s₁ with heap := h, toks := tk }) →
      wpAny (model prog w) A (assign (.Name y py) env (.ref D)) (fun _ s' => ∃ m', s'.heap.Ns C m' ∧ ∀ h', Heap.SameBut C s'.heap h' → Q .next { s' with heap := h' }) E { s₁ with heap := h, toks := tk } := by
    intro s₁ D C h tk mC nw F N n c0 cL off f
    refine wpAny_assign_Name (wpAny_storeName_local hy F.ns (fun h₂ n₂ sb₂ => ⟨mC, n.sameBut sb₂ cL, fun h' sb => ?_⟩) hfr)
    have k₂ := sb₂.extBut
    refine f h' _ (Fr.change ⟨n₂, fun b o e => k₂ b o (fun q => ?_) (F.keep b o e), F.above⟩ sb cL c0) fun p hp => ⟨sb.extBut _ _ (off p hp) (k₂ _ _ (N p hp).2.1 (N p hp).1), (N p hp).2⟩
    rw [q, Heap.get?_none_of_le F.above] at e
    cases e
  rw [exec_Assign_Name_used _ _ _ _ hsw]
  refine wpAny_bind (wpAny_standAt (wpAny_bind ?_))
  change wpAny _ _ (comprehension _ scope env _ _ false (eval iter env) (some (assign (.Name y py) env)) >>= _) _ _ _
  refine wpAny_bind (wpAny_mono (Q := fun _ s' => Q .next s') (wpAny_comprehension_free (use := some (assign (.Name y py) env)) rfl hs hclos hkind hnames (wpAny_mono h (fun _ s₁ ok => ?_) fun _ _ e => e)) (fun _ _ q => wpAny_pure (wpAny_pure q)) fun _ _ e => e)
  exact ok.run hifs hcell hkind fun D C h tk mC nw F N n c0 cL off f => named s₁ D C h tk mC nw F N n c0 cL off f

theorem asg_Name {x : PySem.Str} {px : Pos} {C : Addr} {mC : PySem.Str → Option Value} {v : Value} {Q : Unit → Shared → Prop} (hkind : scope.kind = .function) (hx : scope.names.lookup x = some .local) (hn : s.heap.Ns C mC)
    (h : ∀ h' m' tk, h'.Ns C m' → m' x = some v → Heap.ExtBut C s.heap h' → Q () { s with heap := h', toks := tk }) : wpAny (model prog w) A (assign (.Name x px) (compEnvC scope cl C env) v) Q E s :=
  wpAny_assign_Name (wpAny_storeName_local (lookup_relabel_local hx) hn (fun h' hn' hs => h h' _ _ hn' (by simp) hs.extBut) (by simp [compEnvC, relabel, hkind]))

theorem names_go {ns : List (PySem.Str × Pos)} (hkind : scope.kind = .function) : ∀ {vs : List Value} {mC : PySem.Str → Option Value} {s : Shared} {C : Addr} {Q : Unit → Shared → Prop}, (∀ n ∈ ns, scope.names.lookup n.1 = some .local) → ns.length = vs.length → s.heap.Ns C mC →
    (∀ h' tk, h'.Ns C ((ns.zip vs).foldl (fun m p z => if z = p.1.1 then some p.2 else m z) mC) → Heap.ExtBut C s.heap h' → Q () { s with heap := h', toks := tk }) →
    wpAny (model prog w) A (assignInOrder (ns.map fun n => assign (.Name n.1 n.2) (compEnvC scope cl C env)) vs) Q E s := by
  induction ns with
  | nil =>
    intro vs mC s C Q _ hl hn h
    match vs, hl with
    | [], _ => exact assignInOrder_nil (h s.heap s.toks hn fun _ _ _ e => e)
  | cons n r ih =>
    intro vs mC s C Q hx hl hn h
    match vs, hl with
    | v :: vs, hl =>
      refine assignInOrder_cons (wpAny_assign_Name (wpAny_storeName_local (lookup_relabel_local (hx n (.head _))) hn (fun h' hn' hs => ?_) (by simp [compEnvC, relabel, hkind])))
      exact ih (fun n' h' => hx n' (.tail _ h')) (by simpa using hl) hn' fun h'' tk hn'' he => h h'' tk hn'' fun b o hb e => he b o hb (hs.extBut b o hb e)

theorem asg_Names {ns : List (PySem.Str × Pos)} {kk : Nat} {tp : Pos} {C T : Addr} {mC : PySem.Str → Option Value} {vs : List Value} {Q : Unit → Shared → Prop} (hh : A.handled = none) (hkind : scope.kind = .function) (hx : ∀ n ∈ ns, scope.names.lookup n.1 = some .local)
    (hl : ns.length = vs.length) (ht : s.heap.IsTuple T vs.toArray) (hn : s.heap.Ns C mC)
    (h : ∀ h' m' tk, h'.Ns C m' → m' = (ns.zip vs).foldl (fun m p z => if z = p.1.1 then some p.2 else m z) mC → Heap.ExtBut C s.heap h' → Q () { s with heap := h', toks := tk }) :
    wpAny (model prog w) A (assign (.Tuple (ns.map fun n => .Name n.1 n.2) kk tp) (compEnvC scope cl C env) (.ref T)) Q E s := by
  have each : assignEach (ns.map fun n => PySem.Expr.Name n.1 n.2) (compEnvC scope cl C env) = ns.map fun n => (false, assign (.Name n.1 n.2) (compEnvC scope cl C env)) := by
    clear hx hl h
    induction ns with
    | nil => rfl
    | cons n r ih => exact congrArg _ ih
  refine wpAny_assign_Tuple hh ht (by rw [each]; simpa using hl) (by rw [each]; induction ns with | nil => rfl | cons n r ih => simp) fun h₁ he₁ => ?_
  rw [each]
  have hL : C ≠ s.heap.objs.size := Nat.ne_of_lt hn.lt
  have up₁ : ∀ c o, s.heap.get? c = some o → h₁.get? c = some o := fun c o e => he₁ c o (Nat.ne_of_lt (Heap.lt_size e)) e
  rw [List.map_map]
  exact names_go hkind hx hl (hn.at' fun o e => up₁ _ o e) fun h' tk hn' he => h h' _ tk hn' rfl fun b o hb e => he b o hb (up₁ b o e)
end
end
end Mine

end

section
open PySem PySem.W PyProof.Rows PySem.Calls
namespace Mine

structure RowD where
  age : Int
  ls : Int
  adv : Int
  body : Value

def RowAt (h : Heap) (v : Value) (r : RowD) : Prop :=
  ∃ a hd t1 t2 t3 t4 t5 t6 t7, v = .ref a ∧ IsTup h a #[.ref hd, r.body] ∧ IsTup h hd #[.int r.age t1, .int 2 t2, .int 1 t3, .int r.ls t4, .int r.adv t5, .int 9 t6, .int 0 t7]
structure RowsAt (h : Heap) (vs : List Value) (R : List RowD) : Prop where
  len : vs.length = R.length
  get : ∀ (i : Nat) (v : Value) (r : RowD), vs[i]? = some v → R[i]? = some r → RowAt h v r
def RowD.live (r : RowD) : Bool := decide (r.age < 3600) && decide (r.ls = r.adv)

theorem take_live {R : List RowD} {i : Nat} {r : RowD} (hr : R[i]? = some r) : (R.take (i + 1)).filter RowD.live = (R.take i).filter RowD.live ++ (if r.live then [r] else []) := by
  rw [List.take_add_one, hr, List.filter_append]
  congr 1
  by_cases h : r.live = true <;> simp [h]
theorem fresh_key {R : List RowD} {i : Nat} {r : RowD} {xs : List (List Int × Addr × Value)} (hr : R[i]? = some r) (hl : r.live = true) (hn : ((R.filter RowD.live).map RowD.adv).Nodup)
    (hx : xs.map (fun x => (x.1, x.2.2)) = ((R.take i).filter RowD.live).map (fun r => ([1, r.adv], r.body))) : atKey xs [1, r.adv] = none := by
  have e : R = R.take i ++ r :: R.drop (i + 1) := by
    have h9 := List.take_append_drop (i + 1) R
    rw [List.take_add_one, hr, List.append_assoc] at h9
    exact h9.symm
  unfold atKey
  rw [Option.map_eq_none_iff, List.find?_eq_none]
  intro x hxm hk
  have hk' : x.1 = [1, r.adv] := of_decide_eq_true hk
  have hm : (x.1, x.2.2) ∈ xs.map (fun x => (x.1, x.2.2)) := List.mem_map.mpr ⟨x, hxm, rfl⟩
  rw [hx] at hm
  obtain ⟨q, hq, he⟩ := List.mem_map.mp hm
  have h1 : [1, q.adv] = x.1 := congrArg Prod.fst he
  rw [hk'] at h1
  have h2 : q.adv = r.adv := by simpa using h1
  rw [e, List.filter_append, List.filter_cons, if_pos hl, List.map_append, List.map_cons] at hn
  have h3 := (List.nodup_append.mp hn).2.2 q.adv (List.mem_map.mpr ⟨q, hq, rfl⟩) r.adv (.head _)
  exact h3 h2

theorem frame2 {m : PySem.Str → Option Value} {x y : PySem.Str} {a b : Option Value} (h1 : m x = a) (h2 : m y = b) : m = fun z => if z = x then a else if z = y then b else m z := by
  funext z
  by_cases e1 : z = x
  · rw [if_pos e1, e1, h1]
  · by_cases e2 : z = y
    · rw [if_neg e1, if_pos e2, e2, h2]
    · rw [if_neg e1, if_neg e2]

/-- what stands between two turns of area_vertices -/
def AvJ (w : World) (g' : Heap) (R : List RowD) (d1 d2 : Addr) (i : Nat) (m : PySem.Str → Option Value) (nx : Led) : Prop :=
  ∃ xs ys o1 o2 tl, ∃ u : PySem.Str → Option Value, nx = (d1, o1) :: (d2, o2) :: tl ∧ OwnOff tl [d1, d2] ∧ DObj PySem.Challenge.rw_rh0193_01.row.prog w o1 xs ∧ DObj PySem.Challenge.rw_rh0193_01.row.prog w o2 ys ∧ KeysTl tl xs ∧ KeysTl tl ys ∧ ys.length ≤ i ∧
    xs.map (fun x => (x.1, x.2.2)) = ((R.take i).filter RowD.live).map (fun r => ([1, r.adv], r.body)) ∧ m = fun y => if y = PySem.Str.ofString "found" then some (.ref d1) else if y = PySem.Str.ofString "senders" then some (.ref d2) else u y

theorem av_dead {w : World} {g' : Heap} {R : List RowD} {d1 d2 : Addr} {i : Nat} {m : PySem.Str → Option Value} {o1 o2 : Obj} {tl : Led} {xs ys : List (List Int × Addr × Value)} {r : RowD}
    (hr : R[i]? = some r) (hl : r.live = false) (off : OwnOff tl [d1, d2]) (D1 : DObj PySem.Challenge.rw_rh0193_01.row.prog w o1 xs) (D2 : DObj PySem.Challenge.rw_rh0193_01.row.prog w o2 ys) (K1 : KeysTl tl xs) (K2 : KeysTl tl ys) (hys : ys.length ≤ i)
    (hxs : xs.map (fun x => (x.1, x.2.2)) = ((R.take i).filter RowD.live).map (fun r => ([1, r.adv], r.body))) (h1 : m (PySem.Str.ofString "found") = some (.ref d1)) (h2 : m (PySem.Str.ofString "senders") = some (.ref d2)) :
    AvJ w g' R d1 d2 (i + 1) m ((d1, o1) :: (d2, o2) :: tl) :=
  ⟨xs, ys, o1, o2, tl, m, rfl, off, D1, D2, K1, K2, Nat.le_succ_of_le hys, by rw [take_live hr, hl, hxs]; simp, frame2 h1 h2⟩

theorem av_live {w : World} {g' : Heap} {L' I : Addr} {oI : Obj} {s₁ : Shared} {Q : Flow → Shared → Prop} {h' : Heap} {tk : Nat} {R : List RowD} {d1 d2 ak : Addr} {i : Nat} {m : PySem.Str → Option Value} {o1 o2 ko : Obj} {tl rest : Led} {xs ys : List (List Int × Addr × Value)} {r : RowD} {v : Value}
    (hr : R[i]? = some r) (hl : r.live = true) (hn : atKey xs [1, r.adv] = none) (off : OwnOff tl [d1, d2]) (D1 : DObj PySem.Challenge.rw_rh0193_01.row.prog w o1 (storedH xs [1, r.adv] ak r.body)) (D2 : DObj PySem.Challenge.rw_rh0193_01.row.prog w o2 (storedH ys [1, r.adv] ak v))
    (K1 : KeysTl tl xs) (K2 : KeysTl tl ys) (hys : ys.length ≤ i)
    (hxs : xs.map (fun x => (x.1, x.2.2)) = ((R.take i).filter RowD.live).map (fun r => ([1, r.adv], r.body))) (h1 : m (PySem.Str.ofString "found") = some (.ref d1)) (h2 : m (PySem.Str.ofString "senders") = some (.ref d2))
    (hd0 : ∀ p ∈ tl, p.1 ≠ I) (F : Fr g' L' h' m) (N : News g' L' h' rest) (mI : (I, oI) ∈ rest) (m1 : (d1, o1) ∈ rest) (m2 : (d2, o2) ∈ rest) (mk : (ak, ko) ∈ rest) (mt : ∀ p ∈ tl, p ∈ rest) (kk : KObj ko [1, r.adv])
    (n1 : @Ne Nat d1 I) (n2 : @Ne Nat d2 I) (nk : @Ne Nat ak I) (a1 : @Ne Nat ak d1) (a2 : @Ne Nat ak d2) :
    TEnd g' L' I oI (AvJ w g' R d1 d2 (i + 1)) s₁ Q .next { s₁ with heap := h', toks := tk } := by
  have mono : ∀ p ∈ tl, p ∈ (ak, ko) :: tl := fun p hp => .tail _ hp
  refine TEnd.intro (nx := (d1, o1) :: (d2, o2) :: (ak, ko) :: tl) F (News.sub N ?_) ?_ ⟨storedH xs [1, r.adv] ak r.body, storedH ys [1, r.adv] ak v, o1, o2, _, m, rfl, ?_, D1, D2, (K1.mono mono).store (.head _) kk, (K2.mono mono).store (.head _) kk, ?_, ?_, frame2 h1 h2⟩
  · intro p hp
    simp only [List.mem_cons] at hp
    rcases hp with rfl | rfl | rfl | rfl | hp
    · exact mI
    · exact m1
    · exact m2
    · exact mk
    · exact mt p hp
  · intro p hp
    simp only [List.mem_cons] at hp
    rcases hp with rfl | rfl | rfl | hp
    · exact n1
    · exact n2
    · exact nk
    · exact hd0 p hp
  · intro p hp b hb
    rcases List.mem_cons.mp hp with rfl | hp
    · rcases List.mem_cons.mp hb with rfl | hb
      · exact a1
      · rw [List.mem_singleton.mp hb]; exact a2
    · exact off p hp b hb
  · unfold storedH
    split
    · rw [List.length_map]; omega
    · rw [List.length_append, List.length_singleton]; omega
  · rw [storedH_new hn, take_live hr, hl, List.map_append, hxs, List.map_append]
    rfl


set_option maxRecDepth 100000 in
set_option maxHeartbeats 8000000 in
theorem av_call {w : World} {p : Program} {loose : List PySem.Str} {mg mb : PySem.Str → Option Value} {mean : ExcName → Option Value} {A₀ : Around} {base h₀ : Heap} {outer : List Env} {L : Addr} {m : PySem.Str → Option Value} {s : Shared} {Q E : Value → Shared → Prop}
   {dp un : Nat} {gd : Option (List Code)} {cn : PySem.Str} {cs : PySem.Scope} {a : Addr} {ccd : Value} {cl : List (PySem.Str × Addr)}
   (B : Below A₀ base outer h₀) (F : Fr h₀ L s.heap m) (X : (hd.heap_39 w.params).In h₀)
   (T : Top p loose mean mg mb h₀) (hk : cs.kind = .function) (hd1 : dp + 5 < recursionLimit) (hu : un + 50 < cLine)
   {rows : Addr} {vs : List Value} {R : List RowD} (hl : s.heap.IsList rows vs.toArray) (hR : RowsAt s.heap vs R) (hn : ((R.filter RowD.live).map RowD.adv).Nodup) (hz : R.length ≤ 1000)
   (ret : ∀ d o tl h' tk' xs, s.heap.StaysIn h' → Fresh s.heap h' ((d, o) :: tl) → DObj PySem.Challenge.rw_rh0193_01.row.prog w o xs → KeysTl tl xs → (∀ p ∈ tl, p.1 ≠ d) → d ≠ sysModules → xs.map (fun x => (x.1, x.2.2)) = (R.filter RowD.live).map (fun r => ([1, r.adv], r.body)) → Q (.ref d) { s with heap := h', toks := tk' }) :
   wpAny (model PySem.Challenge.rw_rh0193_01.row.prog w) (ktrTop dp un gd cn cs L a ccd cl outer) (call (.ref 29) [.ref rows]) Q E s := by
  k_with_none
  k_with "k_ne" => (refine neN ?_; (try dsimp only); first | (with_reducible first | assumption | exact Ne.symm (by assumption) | exact Nat.ne_of_gt (And.left (by assumption)) | exact Nat.ne_of_lt (And.left (by assumption)) | exact Nat.ne_of_gt (And.left (And.right (by assumption))) | exact Nat.ne_of_lt (And.left (And.right (by assumption))) | exact Nat.ne_of_gt (And.left (And.right (And.right (by assumption)))) | exact Nat.ne_of_lt (And.left (And.right (And.right (by assumption)))) | exact Nat.ne_of_gt (And.left (And.right (And.right (And.right (by assumption))))) | exact Nat.ne_of_lt (And.left (And.right (And.right (And.right (by assumption))))) | exact Nat.ne_of_gt (And.left (And.right (And.right (And.right (And.right (by assumption)))))) | exact Nat.ne_of_lt (And.left (And.right (And.right (And.right (And.right (by assumption)))))) | exact Nat.ne_of_gt (And.left (And.right (And.right (And.right (And.right (And.right (by assumption))))))) | exact Nat.ne_of_lt (And.left (And.right (And.right (And.right (And.right (And.right (by assumption))))))) | exact Nat.ne_of_gt (And.left (And.right (And.right (And.right (And.right (And.right (And.right (by assumption)))))))) | exact Nat.ne_of_lt (And.left (And.right (And.right (And.right (And.right (And.right (And.right (by assumption)))))))) | exact Nat.ne_of_gt (And.left (And.right (And.right (And.right (And.right (And.right (And.right (And.right (by assumption))))))))) | exact Nat.ne_of_lt (And.left (And.right (And.right (And.right (And.right (And.right (And.right (And.right (by assumption))))))))) | exact Nat.ne_of_gt (And.left (And.right (And.right (And.right (And.right (And.right (And.right (And.right (And.right (by assumption)))))))))) | exact Nat.ne_of_lt (And.left (And.right (And.right (And.right (And.right (And.right (And.right (And.right (And.right (by assumption)))))))))) | exact Nat.ne_of_gt (And.left (And.right (And.right (And.right (And.right (And.right (And.right (And.right (And.right (And.right (by assumption))))))))))) | exact Nat.ne_of_lt (And.left (And.right (And.right (And.right (And.right (And.right (And.right (And.right (And.right (And.right (by assumption))))))))))) | exact Nat.ne_of_gt (And.left (And.right (And.right (And.right (And.right (And.right (And.right (And.right (And.right (And.right (And.right (by assumption)))))))))))) | exact Nat.ne_of_lt (And.left (And.right (And.right (And.right (And.right (And.right (And.right (And.right (And.right (And.right (And.right (by assumption)))))))))))) | exact Nat.ne_of_gt (And.left (And.right (And.right (And.right (And.right (And.right (And.right (And.right (And.right (And.right (And.right (And.right (by assumption))))))))))))) | exact Nat.ne_of_lt (And.left (And.right (And.right (And.right (And.right (And.right (And.right (And.right (And.right (And.right (And.right (And.right (by assumption))))))))))))) | exact Nat.ne_of_gt (And.left (And.right (And.right (And.right (And.right (And.right (And.right (And.right (And.right (And.right (And.right (And.right (And.right (by assumption)))))))))))))) | exact Nat.ne_of_lt (And.left (And.right (And.right (And.right (And.right (And.right (And.right (And.right (And.right (And.right (And.right (And.right (And.right (by assumption)))))))))))))) | exact Nat.ne_of_gt (And.left (And.right (And.right (And.right (And.right (And.right (And.right (And.right (And.right (And.right (And.right (And.right (And.right (And.right (by assumption))))))))))))))) | exact Nat.ne_of_lt (And.left (And.right (And.right (And.right (And.right (And.right (And.right (And.right (And.right (And.right (And.right (And.right (And.right (And.right (by assumption))))))))))))))) | exact Nat.ne_of_gt (And.left (And.right (And.right (And.right (And.right (And.right (And.right (And.right (And.right (And.right (And.right (And.right (And.right (And.right (And.right (by assumption)))))))))))))))) | exact Nat.ne_of_lt (And.left (And.right (And.right (And.right (And.right (And.right (And.right (And.right (And.right (And.right (And.right (And.right (And.right (And.right (And.right (by assumption)))))))))))))))) | exact Nat.ne_of_gt (by assumption) | exact Nat.ne_of_lt (by assumption)) | omega)
  k_with "compareOp NotIn ref ref" => (k_here; (with_reducible show wpAny _ _ (compareOp CmpOp.NotIn (Value.ref _) (Value.ref _)) _ _ _); k_dflt (refine' notin_new ?mu ?mF ?mN ?md ?me ?mD ?mK ?ma ?mk ?mn ?_; (case mF => k_asm); (case mN => k_asm); (case me => exact .inr (by k_mem)); (case mD => assumption); (case mK => exact KeysIn.mono (KeysTl.led (by assumption)) (by intro p hp; repeat (first | exact hp | refine List.Mem.tail _ ?_))); (case ma => exact .inr (by k_mem)); (case mk => exact KObj.two rfl); (case md => assumption); (case mn => assumption); (case mu => ktr_units)))
  k_with "setItem ref ref" => (k_here; (with_reducible show wpAny _ _ (setItem (Value.ref _) (Value.ref _) _) _ _ _); k_dflt (refine' set_tup ?mu ?mF ?mN ?mU ?mD ?mK ?ma ?mk ?mz ?_; (case mF => k_asm); (case mN => k_asm); (case mU => k_updF); (case mD => assumption); (case mK => exact KeysIn.mono (KeysTl.led (by assumption)) (by intro p hp; repeat (first | exact hp | refine List.Mem.tail _ ?_))); (case ma => exact .inr (by k_mem)); (case mk => exact KObj.two rfl); (case mz => (rw [sizeLine_eq]; omega)); (case mu => ktr_units)); intro _ _ _ N9 D9; (try dsimp only at N9); revert N9 D9; intro _ _; (try k_sweep))
  k_with "setItem" => (k_here; (with_reducible show wpAny _ _ (setItem (Value.ref _) (Value.ref _) _) _ _ _); k_dflt (refine' set_tup ?mu ?mF ?mN ?mU ?mD ?mK ?ma ?mk ?mz ?_; (case mF => k_asm); (case mN => k_asm); (case mU => k_updF); (case mD => assumption); (case mK => exact KeysIn.mono (KeysTl.led (by assumption)) (by intro p hp; repeat (first | exact hp | refine List.Mem.tail _ ?_))); (case ma => exact .inr (by k_mem)); (case mk => exact KObj.two rfl); (case mz => (rw [sizeLine_eq]; omega)); (case mu => ktr_units)); intro _ _ _ N9 D9; (try dsimp only at N9); revert N9 D9; intro _ _; (try k_sweep))
  k_with "newTuple" => (k_here; k_dflt (refine' new_tup ?mF ?mN ?_ ?mz; (case mF => k_asm); (case mN => k_asm); (case mz => exact Nat.le_of_ble_eq_true rfl)); intro _ _ _ _ L9; (try k_lt L9); (try (revert L9; intro _)); (try k_sweep))
  k_with "exec For Tuple Name cons nil" => (k_here; refine halt ?_)
  k_with "subscriptTail Name Slice ref ref" => (k_here; k_dflt (refine' cut_tup ?mF ?mN ?mt ?mp ?mq ?ma ?mz ?my ?_ ?ms ?mg; (case mF => k_asm); (case mN => k_asm); (case mt => exact IsTup.keeps (by assumption) (Fr.keep (by k_asm))); (case mp => first | exact IsPart.none | exact IsPart.int _ _); (case mq => first | exact IsPart.none | exact IsPart.int _ _); (case ma => exact rfl); (case mz => kl_lit); (case my => exact Nat.le_of_ble_eq_true rfl); (case ms => with_unfolding_all rfl); (case mg => (intro _; with_unfolding_all rfl))); intro _ _ _ _ L9; (try k_lt L9); (try (revert L9; intro _)); (try k_sweep))
  k_with "pyIter ref" => (k_here; refine halt ?_)
  w_top off
  revert X; k_fill; intro X
  refine wpAny_call ?_
  (k_dflt (refine' code_defG ?k1 ?k2 ?k3 ?k4 ?k5 ?kA ?kF ?kK ?k6 ?k7 ?k8 ?k9 ?kB ?_ ?c2 ?c3 ?c4 ?c5; (case kA => exact rfl); (case kF => exact rfl); (case kK => assumption); (case k1 => k_asm); (case k2 => k_asm); (case k3 => k_asm); (case k4 => exact News.nil); (case k5 => k_asm); (case k6 => k_is); (case k7 => k_is); (case k8 => ktr_room); (case k9 => exact BindsTo.of_eq rfl); (case c5 => decide); (case kB => exact locs rfl); (case c2 => exact rfl); (case c3 => exact rfl); (case c4 => exact rfl)))
  intro g' L' h' FG' F' N' B' X' T' GS
  dsimp only
  (try k_fold)
  k_steps
  unfold Halt
  (rename Fr _ _ _ _ => F1)
  refine For_turns F1 ?_
  k_steps
  unfold Halt
  rename_i d1 _ o1 lo1 _ _ hi1 _ _ d2 _ o2 lo2 _ _ hi2 _ l12 D' _ lD _ _ _ N1
  obtain ⟨lo, hlo, hlc, hle, hld⟩ := id hl
  have g0 : ∀ b o, s.heap.get? b = some o → g'.get? b = some o := fun b o e => GS b o e (by simp)
  refine turns_list (e := hle) (fun i m nx => AvJ w g' R d1 d2 i m nx)
    rfl (F1.keep _ _ (g0 _ _ hlo)) hlc hld (.inl (g0 _ _ hlo)) ?_ F1 (news := [(d1, o1), (d2, o2)]) ?_ ⟨[], [], o1, o2, [], _, rfl, fun _ h => (nomatch h), DObj.nil hi1, DObj.nil hi2, KeysTl.nil, KeysTl.nil, Nat.le_refl _, rfl, rfl⟩ ?_ ?_
  · exact Nat.ne_of_lt (Nat.lt_of_lt_of_le (Heap.lt_size (g0 _ _ hlo)) F1.above)
  · exact fun p hp => N1 p (by
      rcases List.mem_cons.mp hp with rfl | hp
      · exact .tail _ (.tail _ (.head _))
      · exact .tail _ (List.mem_singleton.mp hp ▸ .head _))
  · clear F1 N1
    rintro I i v m₁ nx oI h tk hv hd0 ⟨xs, ys, o1, o2, tl, u, rfl, off, D1, D2, K1, K2, hys, hxs, rfl⟩ F1 N1
    have hi : i < R.length := by
      have h1 := hR.len
      have h2 := (List.getElem?_eq_some_iff.mp hv).1
      omega
    obtain ⟨r, hr⟩ : ∃ r, R[i]? = some r := ⟨_, List.getElem?_eq_getElem hi⟩
    obtain ⟨a, ha, t1, t2, t3, t4, t5, t6, t7, rfl, ht1, ht2⟩ := hR.get i v r hv hr
    have it1 : IsTup g' a #[.ref ha, r.body] := ht1.keeps g0
    have it2 := ht2.keeps g0
    have hxl : xs.length ≤ i := by
      have h1 := congrArg List.length hxs
      rw [List.length_map, List.length_map] at h1
      have h2 := List.length_filter_le RowD.live (R.take i)
      rw [List.length_take] at h2
      omega
    have hI1 : @Ne Nat d1 I := hd0 (d1, o1) (.head _)
    have hI2 : @Ne Nat d2 I := hd0 (d2, o2) (.tail _ (.head _))
    by_cases hA : 3600 ≤ r.age
    · k_steps
      all_goals try (exfalso; omega)
      dsimp only
      (rename Fr _ _ _ _ => F2)
      (rename News _ _ _ _ => N2)
      exact TEnd.introC F2 (News.sub N2 (by intro p hp; repeat (first | exact hp | refine List.Mem.tail _ ?_))) hd0 (av_dead hr (by unfold RowD.live; simp; omega) off D1 D2 K1 K2 hys hxs rfl rfl)
    · by_cases hB : r.ls = r.adv
      · have hlv : r.live = true := by unfold RowD.live; simp [hB]; omega
        have hnk := fresh_key hr hlv hn hxs
        k_steps
        all_goals try (exfalso; omega)
        dsimp only
        (rename Fr _ _ _ _ => F2)
        (rename News _ _ _ _ => N2)
        (rename DObj _ _ _ (storedH xs _ _ _) => Da)
        (rename DObj _ _ _ (storedH ys _ _ _) => Db)
        exact av_live hr hlv hnk off Da Db K1 K2 hys hxs rfl rfl (fun p hp => hd0 p (.tail _ (.tail _ hp))) F2 N2 (by k_mem) (by k_mem) (by k_mem) (by k_mem) (by intro p hp; repeat (first | exact hp | refine List.Mem.tail _ ?_)) (KObj.two rfl) hI1 hI2 (by omega) (by omega) (by omega)
      · k_steps
        all_goals try (exfalso; omega)
        dsimp only
        (rename Fr _ _ _ _ => F2)
        (rename News _ _ _ _ => N2)
        exact TEnd.introC F2 (News.sub N2 (by intro p hp; repeat (first | exact hp | refine List.Mem.tail _ ?_))) hd0 (av_dead hr (by unfold RowD.live; simp [hB]) off D1 D2 K1 K2 hys hxs rfl rfl)
  · rintro m₁ nx h tk ⟨xs, ys, o1, o2, tl, u, rfl, off, D1, D2, K1, K2, hys, hxs, rfl⟩ F1 N1
    k_steps
    have hlen : R.take vs.length = R := List.take_of_length_le (by rw [hR.len]; exact Nat.le_refl _)
    rw [hlen] at hxs
    exact ret d1 o1 tl h tk xs (fun b o e => F1.keep b o (g0 b o e)) (fresh_of g0 (News.sub N1 fun p hp => by
      rcases List.mem_cons.mp hp with rfl | hp
      · exact .head _
      · exact .tail _ (.tail _ hp))) D1 K1 (fun p hp => off p hp d1 (.head _)) (by simpa using lo1) hxs
end Mine

end

section
open PySem PySem.W PyProof.Rows PySem.Calls
open PyProof.Rows.LCg
namespace Mine

structure LnkD where
  id : Int
  data : Int
  metric : Int

def LinkTl (news : Led) (v : Value) (l : LnkD) : Prop := ∃ a k t1 t2 t3 t4, v = .ref a ∧ (a, tupO [.ref k, .int l.metric t1, .int l.data t2]) ∈ news ∧ (k, tupO [.int 1 t3, .int l.id t4]) ∈ news
theorem LinkTl.mono {news news' : Led} {v : Value} {l : LnkD} (K : LinkTl news v l) (hs : ∀ p ∈ news, p ∈ news') : LinkTl news' v l := let ⟨a, k, t1, t2, t3, t4, e, H, H'⟩ := K; ⟨a, k, t1, t2, t3, t4, e, hs _ H, hs _ H'⟩
def LnJ (G : List LnkD) (d : Addr) (i : Nat) (m : PySem.Str → Option Value) (nx : Led) : Prop :=
  ∃ (ys : List Value) (e : Nat) (tl : Led) (u : PySem.Str → Option Value), nx = (d, listOf ys.toArray e) :: tl ∧ OwnOff tl [d] ∧ ys.length = i ∧ (∀ (j : Nat) (v : Value) (l : LnkD), ys[j]? = some v → G[j]? = some l → LinkTl tl v l) ∧ m = fun y => if y = PySem.Str.ofString "found" then some (.ref d) else u y

theorem ln_step {g' : Heap} {G : List LnkD} {d I D1 D2 L' : Addr} {i e : Nat} {m : PySem.Str → Option Value} {tl : Led} {ys : List Value} {l : LnkD} {t1 t2 t3 t4 : Tok} {oI : Obj} {s₁ : Shared} {Q : Flow → Shared → Prop} {h' : Heap} {tk : Nat}
    (off : OwnOff tl [d]) (hyl : ys.length = i) (hys : ∀ (j : Nat) (v : Value) (l : LnkD), ys[j]? = some v → G[j]? = some l → LinkTl tl v l) (hgl : G[i]? = some l) (hd0 : ∀ p ∈ tl, p.1 ≠ I) (hm : m (PySem.Str.ofString "found") = some (.ref d))
    (F : Fr g' L' h' m) (N : News g' L' h' ((D2, tupO [.ref D1, .int l.metric t1, .int l.data t2]) :: (D1, tupO [.int 1 t3, .int l.id t4]) :: (I, oI) :: (d, listOf (ys.toArray.push (.ref D2)) (e + 1)) :: tl))
    (n0 : @Ne Nat d I) (n1 : @Ne Nat D1 I) (n2 : @Ne Nat D2 I) (n3 : @Ne Nat D1 d) (n4 : @Ne Nat D2 d) :
    TEnd g' L' I oI (LnJ G d (i + 1)) s₁ Q .next { s₁ with heap := h', toks := tk } := by
  have hs : ys.toArray.push (.ref D2) = (ys ++ [Value.ref D2]).toArray := by simp
  rw [hs] at N
  refine TEnd.intro (nx := (d, listOf (ys ++ [Value.ref D2]).toArray (e + 1)) :: (D2, tupO [.ref D1, .int l.metric t1, .int l.data t2]) :: (D1, tupO [.int 1 t3, .int l.id t4]) :: tl) F (News.sub N ?_) ?_ ⟨ys ++ [.ref D2], e + 1, _, m, rfl, ?_, by simp [hyl], ?_, ?_⟩
  · intro p hp
    simp only [List.mem_cons] at hp ⊢
    rcases hp with h | h | h | h | h <;> simp [h]
  · intro p hp
    simp only [List.mem_cons] at hp
    rcases hp with rfl | rfl | rfl | h
    · exact n0
    · exact n2
    · exact n1
    · exact hd0 p h
  · intro p hp b hb
    rw [List.mem_singleton.mp hb]
    simp only [List.mem_cons] at hp
    rcases hp with rfl | rfl | h
    · exact n4
    · exact n3
    · exact off p h d (.head _)
  · intro j v l' hv hl'
    by_cases hj : j < ys.length
    · rw [List.getElem?_append_left hj] at hv
      exact (hys j v l' hv hl').mono fun p hp => .tail _ (.tail _ hp)
    · have hj' : j = ys.length := by
        have := (List.getElem?_eq_some_iff.mp hv).1
        rw [List.length_append, List.length_singleton] at this
        omega
      subst hj'
      rw [List.getElem?_append_right (Nat.le_refl _)] at hv
      simp at hv
      rw [hyl, hgl] at hl'
      cases hl'
      exact ⟨D2, D1, t1, t2, t3, t4, hv.symm, .head _, .tail _ (.head _)⟩
  · funext y
    split
    · next q => rw [q]; exact hm
    · rfl

/-- a link as links_of tells it -/
def LinkOut (h : Heap) (v : Value) (l : LnkD) : Prop := ∃ a k t1 t2 t3 t4, v = .ref a ∧ IsTup h a #[.ref k, .int l.metric t1, .int l.data t2] ∧ IsTup h k #[.int 1 t3, .int l.id t4]
theorem LinkTl.out {h₀ h : Heap} {L : Addr} {news : Led} {v : Value} {l : LnkD} (K : LinkTl news v l) (N : News h₀ L h news) : LinkOut h v l := by
  obtain ⟨a, k, t1, t2, t3, t4, e, H, H'⟩ := K
  exact ⟨a, k, t1, t2, t3, t4, e, ⟨_, (N _ H).1, rfl, _, rfl⟩, ⟨_, (N _ H').1, rfl, _, rfl⟩⟩
theorem LinkOut.keeps {h h' : Heap} {v : Value} {l : LnkD} (K : LinkOut h v l) (st : h.StaysIn h') : LinkOut h' v l := by
  obtain ⟨a, k, t1, t2, t3, t4, e, H, H'⟩ := K
  exact ⟨a, k, t1, t2, t3, t4, e, H.keeps st, H'.keeps st⟩
/-- a list of links -/
def LinksOut (h : Heap) (d : Addr) (G : List LnkD) : Prop := ∃ vs, h.IsList d (List.toArray vs) ∧ vs.length = G.length ∧ ∀ (j : Nat) (v : Value) (l : LnkD), vs[j]? = some v → G[j]? = some l → LinkOut h v l
theorem LinksOut.keeps {h h' : Heap} {d : Addr} {G : List LnkD} (K : LinksOut h d G) (st : h.StaysIn h') : LinksOut h' d G := let ⟨vs, ⟨o, e, r⟩, hl, k⟩ := K; ⟨vs, ⟨o, st _ _ e, r⟩, hl, fun j v l a b => (k j v l a b).keeps st⟩

def LinkSrc (h : Heap) (v : Value) (l : LnkD) : Prop := ∃ a t1 t2 t3 t4, v = .ref a ∧ IsTup h a #[.int l.id t1, .int l.data t2, .int 1 t3, .int l.metric t4]


set_option maxRecDepth 100000 in
set_option maxHeartbeats 8000000 in
theorem links_call {w : World} {p : Program} {loose : List PySem.Str} {mg mb : PySem.Str → Option Value} {mean : ExcName → Option Value} {A₀ : Around} {base h₀ : Heap} {outer : List Env} {L : Addr} {m : PySem.Str → Option Value} {s : Shared} {Q E : Value → Shared → Prop}
   {dp un : Nat} {gd : Option (List Code)} {cn : PySem.Str} {cs : PySem.Scope} {a : Addr} {ccd : Value} {cl : List (PySem.Str × Addr)}
   (B : Below A₀ base outer h₀) (F : Fr h₀ L s.heap m) (X : (hd.heap_39 w.params).In h₀)
   (T : Top p loose mean mg mb h₀) (hk : cs.kind = .function) (hd1 : dp + 5 < recursionLimit) (hu : un + 50 < cLine)
   {body lt : Addr} {vs : List Value} {G : List LnkD} {f : Int} {t0 t1 : Tok} (hb : IsTup s.heap body #[.str (PySem.Str.ofString "router") t0, .int f t1, .ref lt]) (hl : s.heap.IsTuple lt vs.toArray) (hG : vs.length = G.length ∧ ∀ (i : Nat) (v : Value) (l : LnkD), vs[i]? = some v → G[i]? = some l → LinkSrc s.heap v l) (hz : G.length ≤ 1000)
   (ret : ∀ d e vs tl h' tk', s.heap.StaysIn h' → Fresh s.heap h' ((d, listOf (List.toArray vs) e) :: tl) → vs.length = G.length → (∀ (j : Nat) (v : Value) (l : LnkD), vs[j]? = some v → G[j]? = some l → LinkTl tl v l) → (∀ p ∈ tl, p.1 ≠ d) → Q (.ref d) { s with heap := h', toks := tk' }) :
   wpAny (model PySem.Challenge.rw_rh0193_01.row.prog w) (ktrTop dp un gd cn cs L a ccd cl outer) (call (.ref 34) [.ref body]) Q E s := by
  k_with_none
  k_with "k_ne" => (refine neN ?_; (try dsimp only); first | (with_reducible first | assumption | exact Ne.symm (by assumption) | exact Nat.ne_of_gt (And.left (by assumption)) | exact Nat.ne_of_lt (And.left (by assumption)) | exact Nat.ne_of_gt (And.left (And.right (by assumption))) | exact Nat.ne_of_lt (And.left (And.right (by assumption))) | exact Nat.ne_of_gt (And.left (And.right (And.right (by assumption)))) | exact Nat.ne_of_lt (And.left (And.right (And.right (by assumption)))) | exact Nat.ne_of_gt (And.left (And.right (And.right (And.right (by assumption))))) | exact Nat.ne_of_lt (And.left (And.right (And.right (And.right (by assumption))))) | exact Nat.ne_of_gt (And.left (And.right (And.right (And.right (And.right (by assumption)))))) | exact Nat.ne_of_lt (And.left (And.right (And.right (And.right (And.right (by assumption)))))) | exact Nat.ne_of_gt (And.left (And.right (And.right (And.right (And.right (And.right (by assumption))))))) | exact Nat.ne_of_lt (And.left (And.right (And.right (And.right (And.right (And.right (by assumption))))))) | exact Nat.ne_of_gt (And.left (And.right (And.right (And.right (And.right (And.right (And.right (by assumption)))))))) | exact Nat.ne_of_lt (And.left (And.right (And.right (And.right (And.right (And.right (And.right (by assumption)))))))) | exact Nat.ne_of_gt (And.left (And.right (And.right (And.right (And.right (And.right (And.right (And.right (by assumption))))))))) | exact Nat.ne_of_lt (And.left (And.right (And.right (And.right (And.right (And.right (And.right (And.right (by assumption))))))))) | exact Nat.ne_of_gt (And.left (And.right (And.right (And.right (And.right (And.right (And.right (And.right (And.right (by assumption)))))))))) | exact Nat.ne_of_lt (And.left (And.right (And.right (And.right (And.right (And.right (And.right (And.right (And.right (by assumption)))))))))) | exact Nat.ne_of_gt (And.left (And.right (And.right (And.right (And.right (And.right (And.right (And.right (And.right (And.right (by assumption))))))))))) | exact Nat.ne_of_lt (And.left (And.right (And.right (And.right (And.right (And.right (And.right (And.right (And.right (And.right (by assumption))))))))))) | exact Nat.ne_of_gt (And.left (And.right (And.right (And.right (And.right (And.right (And.right (And.right (And.right (And.right (And.right (by assumption)))))))))))) | exact Nat.ne_of_lt (And.left (And.right (And.right (And.right (And.right (And.right (And.right (And.right (And.right (And.right (And.right (by assumption)))))))))))) | exact Nat.ne_of_gt (And.left (And.right (And.right (And.right (And.right (And.right (And.right (And.right (And.right (And.right (And.right (And.right (by assumption))))))))))))) | exact Nat.ne_of_lt (And.left (And.right (And.right (And.right (And.right (And.right (And.right (And.right (And.right (And.right (And.right (And.right (by assumption))))))))))))) | exact Nat.ne_of_gt (And.left (And.right (And.right (And.right (And.right (And.right (And.right (And.right (And.right (And.right (And.right (And.right (And.right (by assumption)))))))))))))) | exact Nat.ne_of_lt (And.left (And.right (And.right (And.right (And.right (And.right (And.right (And.right (And.right (And.right (And.right (And.right (And.right (by assumption)))))))))))))) | exact Nat.ne_of_gt (And.left (And.right (And.right (And.right (And.right (And.right (And.right (And.right (And.right (And.right (And.right (And.right (And.right (And.right (by assumption))))))))))))))) | exact Nat.ne_of_lt (And.left (And.right (And.right (And.right (And.right (And.right (And.right (And.right (And.right (And.right (And.right (And.right (And.right (And.right (by assumption))))))))))))))) | exact Nat.ne_of_gt (And.left (And.right (And.right (And.right (And.right (And.right (And.right (And.right (And.right (And.right (And.right (And.right (And.right (And.right (And.right (by assumption)))))))))))))))) | exact Nat.ne_of_lt (And.left (And.right (And.right (And.right (And.right (And.right (And.right (And.right (And.right (And.right (And.right (And.right (And.right (And.right (And.right (by assumption)))))))))))))))) | exact Nat.ne_of_gt (by assumption) | exact Nat.ne_of_lt (by assumption)) | omega)
  k_with "newTuple" => (k_here; k_dflt (refine' new_tup ?mF ?mN ?_ ?mz; (case mF => k_asm); (case mN => k_asm); (case mz => exact Nat.le_of_ble_eq_true rfl)); intro _ _ _ _ L9; (try k_lt L9); (try (revert L9; intro _)); (try k_sweep))
  k_with "exec For Tuple Subscript cons nil" => (k_here; refine halt ?_)
  k_with "exec For Tuple Name cons nil" => (k_here; refine halt ?_)
  k_with "pyIter ref" => (k_here; refine halt ?_)
  w_top off
  revert X; k_fill; intro X
  refine wpAny_call ?_
  (k_dflt (refine' code_defG ?k1 ?k2 ?k3 ?k4 ?k5 ?kA ?kF ?kK ?k6 ?k7 ?k8 ?k9 ?kB ?_ ?c2 ?c3 ?c4 ?c5; (case kA => exact rfl); (case kF => exact rfl); (case kK => assumption); (case k1 => k_asm); (case k2 => k_asm); (case k3 => k_asm); (case k4 => exact News.nil); (case k5 => k_asm); (case k6 => k_is); (case k7 => k_is); (case k8 => ktr_room); (case k9 => exact BindsTo.of_eq rfl); (case c5 => decide); (case kB => exact locs rfl); (case c2 => exact rfl); (case c3 => exact rfl); (case c4 => exact rfl)))
  intro g' L' h' FG' F' N' B' X' T' GS
  dsimp only
  (try k_fold)
  have g0 : ∀ b o, s.heap.get? b = some o → g'.get? b = some o := fun b o e => GS b o e (by simp)
  have hb' := hb.keeps g0
  k_steps
  unfold Halt
  (rename Fr _ _ _ _ => F1)
  refine For_turns F1 ?_
  k_steps
  unfold Halt
  rename_i d _ _ _ N1
  obtain ⟨lo, hlo, hlc, hle, hld⟩ := id hl
  refine turns_src (fun i m nx => LnJ G d i m nx) (Src.tuple rfl (F1.keep _ _ (g0 _ _ hlo)) hlc hld) (.inl (g0 _ _ hlo)) (Nat.ne_of_lt (Nat.lt_of_lt_of_le (Heap.lt_size (g0 _ _ hlo)) F1.above)) F1 N1
    ⟨[], 0, [], _, rfl, fun _ h => (nomatch h), rfl, fun _ _ _ h => (nomatch h), rfl⟩ ?_ ?_
  · clear F1 N1
    rintro I i v m₁ nx oI h tk hi hv hd0 ⟨ys, e, tl, u, rfl, off, hyl, hys, rfl⟩ F1 N1
    have hi : i < G.length := by rw [← hG.1]; exact hi
    obtain ⟨l, hgl⟩ : ∃ l, G[i]? = some l := ⟨_, List.getElem?_eq_getElem hi⟩
    obtain ⟨b, u1, u2, u3, u4, rfl, ht⟩ := hG.2 i v l hv hgl
    have it := ht.keeps g0
    have hI1 : @Ne Nat d I := hd0 (d, listOf ys.toArray e) (.head _)
    k_steps
    dsimp only
    (rename Fr _ _ _ _ => F2)
    (rename News _ _ _ _ => N2)
    exact ln_step off hyl hys hgl (fun p hp => hd0 p (.tail _ hp)) rfl F2 N2 hI1 (by omega) (by omega) (by omega) (by omega)
  · rintro m₁ nx h tk ⟨ys, e, tl, u, rfl, off, hyl, hys, rfl⟩ F1 N1
    k_steps
    exact ret d e ys tl h _ (fun b o e => F1.keep b o (g0 b o e)) (fresh_of g0 N1) (by rw [hyl, hG.1]) hys (fun p hp => off p hp d (.head _))
end Mine

end

section
open PySem PySem.W PyProof.Rows PySem.Calls
open PyProof.Rows.LCg
namespace Mine

section
variable {prog : Program} {w : World} {A₀ A : Around} {s : Shared} {base h₀ : Heap} {outer : List Env} {L : Addr} {m : PySem.Str → Option Value} {env : Env} {R : Result → Shared → Prop}
/-- a def with cells, called upon a heap that it leaves alone, all of it: what it makes is new -/
theorem call_cells {name qual : PySem.Str} {params : Arguments} {body : List Stmt} {scope : PySem.Scope} {dV kV doc pm cdv ct : Value} {an : Option Addr} {fo : Obj} {f : Addr} {args : Args} {binds : List (PySem.Str × Value)}
    (B : Below A₀ base outer h₀) (F : Fr h₀ L s.heap m) (hA : A.frames = some (env :: outer)) (hf : env.frame = some L) (hke : env.scope.kind = .function) (hlim : s.heap.NoLimit)
    (ho : s.heap.get? f = some fo) (hd : fo.data = .func (fnX name qual params body scope [] dV kV doc pm an cdv ct)) (hcd : s.heap.CodeRec cdv qual) (hroom : A.depth < recursionLimit) (hbind : BindsTo s (fnX name qual params body scope [] dV kV doc pm an cdv ct) args binds)
    (hkind : (binds.all fun y => scope.names.lookup y.1 == some .local || scope.names.lookup y.1 == some .cell) = true) (hnd : ((cellsFrom 0 scope.names []).map (·.1)).Nodup) (hk : scope.kind = .function) (hco : scope.isCoroutine = false) (hgen : scope.isGenerator = false)
    (go : ∀ L' h₁ tk cells, Fr s.heap L' h₁ (bindL (envOfC qual scope L' f cdv).kindOf binds fun _ => none) → News s.heap L' h₁ cells → CellsAre (bindC (envOfC qual scope L' f cdv).kindOf binds fun _ => none) (cellsFrom (L' + 1) scope.names []) cells →
      Below A base (env :: outer) s.heap → wpAny (model prog w) (A.deeper (envOfC qual scope L' f cdv)) (execs body (envOfC qual scope L' f cdv))
        (fun fl s' => LeaveK h₀ L m s.heap R (match fl with | .ret v => v | _ => .none) s')
        (fun e s' => wpAny (model prog w) (A.deeper (envOfC qual scope L' f cdv)) (leaving (envOfC qual scope L' f cdv) e) (fun _ s'' => R (.error e) s'') (fun e' s'' => R (.error e') s'') s') { s with heap := h₁, toks := tk }) :
    codeAny (model prog w) A (.call (.ref f) args) R s := by
  obtain ⟨-, below, -, back⟩ := groundX (R := R) B F (News.nil (h₀ := h₀) (L := L) (h := s.heap)) hA hf hke
  refine codeAny_call_function hroom ho hd hco hgen rfl hcd (hbind _ _ _ _ (wpAny_newFunctionEnv_cells hk (kindsX hkind _) ?_))
  rintro _ rfl s' x
  have keep := x.toInCall.keep
  have one : ((cellsFrom (s.heap.objs.size + 1) scope.names []).map (·.1)).Nodup := by
    rw [← cellsFrom_names scope.names 0 (s.heap.objs.size + 1) [] [] rfl]
    exact hnd
  obtain ⟨cells, new, are⟩ := Cl.news (h₀ := s.heap) (Nat.le_refl _) fun n c hm => ⟨x.cell n c (lookup_of_mem_nodup one hm), x.above n c hm⟩
  obtain ⟨h₁, tk, e, -⟩ := x.done
  subst e
  exact ⟨hlim.keeps keep, codeAny_func (wpAny_mono (go _ h₁ tk cells ⟨x.toInCall.ns, keep, Nat.le_refl _⟩ new are below) (fun _ _ l => back _ _ l) fun _ _ y => y)⟩
end

section
variable {prog : Program} {w : World} {A : Around} {E : Value → Shared → Prop} {s : Shared}
theorem eq_two {a b : Addr} {x1 x2 y1 y2 : Int} {t1 t2 u1 u2 : Tok} {Q : Value → Shared → Prop} (ha : IsTup s.heap a #[.int x1 t1, .int x2 t2]) (hb : IsTup s.heap b #[.int y1 u1, .int y2 u2]) (hu : A.units < cLine)
    (h : Q (.bool (decide (x1 = y1 ∧ x2 = y2))) s) : wpAny (model prog w) A (compareOp .Eq (.ref a) (.ref b)) Q E s := by
  refine SeqAt.eq_tupleAt (e := fun j => if j = 0 then x1 == y1 else x2 == y2) ha hb hu (fun j h1 h2 => ?_) ?_
  · have hj : j = 0 ∨ j = 1 := by
      have : j < 2 := h1
      omega
    rcases hj with rfl | rfl
    · exact SeqAt.EqAt.int_int _ _ _ _
    · exact SeqAt.EqAt.int_int _ _ _ _
  · have e : ((List.range (min (#[Value.int x1 t1, Value.int x2 t2]).size (#[Value.int y1 u1, Value.int y2 u2]).size)).all (fun j => if j = 0 then x1 == y1 else x2 == y2) && (#[Value.int x1 t1, Value.int x2 t2]).size == (#[Value.int y1 u1, Value.int y2 u2]).size) = decide (x1 = y1 ∧ x2 = y2) := by
      by_cases h1 : x1 = y1 <;> by_cases h2 : x2 = y2 <;> simp [List.range, List.range.loop, h1, h2]
    rw [e]; exact h
end


set_option maxRecDepth 100000 in
set_option maxHeartbeats 8000000 in
theorem data_call {w : World} {p : Program} {loose : List PySem.Str} {mg mb : PySem.Str → Option Value} {mean : ExcName → Option Value} {A₀ : Around} {base h₀ : Heap} {outer : List Env} {L : Addr} {m : PySem.Str → Option Value} {s : Shared} {Q E : Value → Shared → Prop}
   {env : Env}
   (B : Below A₀ base outer h₀) (F : Fr h₀ L s.heap m) (X : (hd.heap_39 w.params).In h₀)
   (T : Top p loose mean mg mb h₀) {A : Around} (hA : A.frames = some (env :: outer)) (hf : env.frame = some L) (hke : env.scope.kind = .function) (hh : A.handled = none) (hd1 : A.depth + 5 < recursionLimit) (hu : A.units + 50 < cLine)
   {ls sp : Addr} {G : List LnkD} {me : Int} {t0 t1 : Tok} (hl : LinksOut s.heap ls G) (hsp : IsTup s.heap sp #[.int 1 t0, .int me t1]) (hz : G.length ≤ 1000)
   (ret : ∀ d h' tk' ys, s.heap.StaysIn h' → Fresh s.heap h' [(d, lst ys)] → (∃ ns, IntsAre ys ns ∧ ((∃ l ∈ G, l.id = me) → ns ≠ [])) → Q (.ref d) { s with heap := h', toks := tk' }) :
   wpAny (model PySem.Challenge.rw_rh0193_01.row.prog w) A (call (.ref 39) [.ref ls, .ref sp]) Q E s := by
  k_with_none
  k_with "k_ne" => (refine neN ?_; (try dsimp only); first | (with_reducible first | assumption | exact Ne.symm (by assumption) | exact Nat.ne_of_gt (And.left (by assumption)) | exact Nat.ne_of_lt (And.left (by assumption)) | exact Nat.ne_of_gt (And.left (And.right (by assumption))) | exact Nat.ne_of_lt (And.left (And.right (by assumption))) | exact Nat.ne_of_gt (And.left (And.right (And.right (by assumption)))) | exact Nat.ne_of_lt (And.left (And.right (And.right (by assumption)))) | exact Nat.ne_of_gt (And.left (And.right (And.right (And.right (by assumption))))) | exact Nat.ne_of_lt (And.left (And.right (And.right (And.right (by assumption))))) | exact Nat.ne_of_gt (And.left (And.right (And.right (And.right (And.right (by assumption)))))) | exact Nat.ne_of_lt (And.left (And.right (And.right (And.right (And.right (by assumption)))))) | exact Nat.ne_of_gt (And.left (And.right (And.right (And.right (And.right (And.right (by assumption))))))) | exact Nat.ne_of_lt (And.left (And.right (And.right (And.right (And.right (And.right (by assumption))))))) | exact Nat.ne_of_gt (And.left (And.right (And.right (And.right (And.right (And.right (And.right (by assumption)))))))) | exact Nat.ne_of_lt (And.left (And.right (And.right (And.right (And.right (And.right (And.right (by assumption)))))))) | exact Nat.ne_of_gt (And.left (And.right (And.right (And.right (And.right (And.right (And.right (And.right (by assumption))))))))) | exact Nat.ne_of_lt (And.left (And.right (And.right (And.right (And.right (And.right (And.right (And.right (by assumption))))))))) | exact Nat.ne_of_gt (And.left (And.right (And.right (And.right (And.right (And.right (And.right (And.right (And.right (by assumption)))))))))) | exact Nat.ne_of_lt (And.left (And.right (And.right (And.right (And.right (And.right (And.right (And.right (And.right (by assumption)))))))))) | exact Nat.ne_of_gt (And.left (And.right (And.right (And.right (And.right (And.right (And.right (And.right (And.right (And.right (by assumption))))))))))) | exact Nat.ne_of_lt (And.left (And.right (And.right (And.right (And.right (And.right (And.right (And.right (And.right (And.right (by assumption))))))))))) | exact Nat.ne_of_gt (And.left (And.right (And.right (And.right (And.right (And.right (And.right (And.right (And.right (And.right (And.right (by assumption)))))))))))) | exact Nat.ne_of_lt (And.left (And.right (And.right (And.right (And.right (And.right (And.right (And.right (And.right (And.right (And.right (by assumption)))))))))))) | exact Nat.ne_of_gt (And.left (And.right (And.right (And.right (And.right (And.right (And.right (And.right (And.right (And.right (And.right (And.right (by assumption))))))))))))) | exact Nat.ne_of_lt (And.left (And.right (And.right (And.right (And.right (And.right (And.right (And.right (And.right (And.right (And.right (And.right (by assumption))))))))))))) | exact Nat.ne_of_gt (And.left (And.right (And.right (And.right (And.right (And.right (And.right (And.right (And.right (And.right (And.right (And.right (And.right (by assumption)))))))))))))) | exact Nat.ne_of_lt (And.left (And.right (And.right (And.right (And.right (And.right (And.right (And.right (And.right (And.right (And.right (And.right (And.right (by assumption)))))))))))))) | exact Nat.ne_of_gt (And.left (And.right (And.right (And.right (And.right (And.right (And.right (And.right (And.right (And.right (And.right (And.right (And.right (And.right (by assumption))))))))))))))) | exact Nat.ne_of_lt (And.left (And.right (And.right (And.right (And.right (And.right (And.right (And.right (And.right (And.right (And.right (And.right (And.right (And.right (by assumption))))))))))))))) | exact Nat.ne_of_gt (And.left (And.right (And.right (And.right (And.right (And.right (And.right (And.right (And.right (And.right (And.right (And.right (And.right (And.right (And.right (by assumption)))))))))))))))) | exact Nat.ne_of_lt (And.left (And.right (And.right (And.right (And.right (And.right (And.right (And.right (And.right (And.right (And.right (And.right (And.right (And.right (And.right (by assumption)))))))))))))))) | exact Nat.ne_of_gt (by assumption) | exact Nat.ne_of_lt (by assumption)) | omega)
  k_with "compareOp Eq ref ref" => (k_here; k_dflt (refine' eq_two ?ma ?mb ?mu ?_; (case ma => first | exact IsTup.keeps (by assumption) (Fr.keep (by k_asm)) | exact ⟨_, (News.get (by k_asm) (by k_mem)), rfl, _, rfl⟩); (case mb => first | exact IsTup.keeps (by assumption) (Fr.keep (by k_asm)) | exact ⟨_, (News.get (by k_asm) (by k_mem)), rfl, _, rfl⟩); (case mu => (show _ < _; simp only [Around.deeper] at *; omega))))
  k_with "eval ListComp" => (k_here; k_dflt (refine' comp_eval ?mF ?mcl ?mce ?mki ?mna ?mfo ?_; (case mF => k_asm); (case mcl => with_unfolding_all rfl); (case mce => decide); (case mki => rfl); (case mna => decide); (case mfo => (intro _; rfl))))
  w_top off
  revert X; k_fill; intro X
  refine wpAny_call ?_
  (k_dflt (refine' call_cells ?k1 ?k2 ?kA ?kF ?kK ?kL ?k6 ?kO ?k7 ?k8 ?k9 ?kB ?kD ?c4 ?c2 ?c3 ?_; (case kA => assumption); (case kF => assumption); (case kK => assumption); (case k1 => k_asm); (case k2 => k_asm); (case kL => exact (Top.nolimit T).keeps F.keep); (case k6 => exact (X.keeps F.keep) _ _ (by k_is)); (case kO => exact rfl); (case k7 => exact codeRec_of (X.keeps F.keep) (by k_is)); (case k8 => omega); (case k9 => exact BindsTo.of_eq rfl); (case kB => exact rfl); (case kD => decide +kernel); (case c2 => exact rfl); (case c3 => exact rfl); (case c4 => exact rfl)))
  obtain ⟨g', hg'⟩ : ∃ g', g' = s.heap := ⟨_, rfl⟩
  have g0 : ∀ b o, s.heap.get? b = some o → g'.get? b = some o := fun b o e => by rw [hg']; exact e
  have FG' : Fr h₀ L g' m := by rw [hg']; exact F
  have X' := X.keeps FG'.keep
  have T' := T.keeps FG'.keep
  rw [← hg']
  clear hg'
  intro L' h' tk' cells' F' N' Y' B'
  k_cells Y'
  (try simp only [List.cons_append, List.nil_append] at N')
  dsimp only
  (try k_fold)
  k_steps
  obtain ⟨vs, ⟨lo, hlo, hlc, hle, hld⟩, hvl, hvs⟩ := hl
  rename_i oS dS
  refine CompOk.intro (news := [(L' + 1, oS)]) (fun i ys nx => nx = [(L' + 1, oS)] ∧ ∃ ns, IntsAre ys ns ∧ ((∃ l ∈ G.take i, l.id = me) → ns ≠ []))
    (fun i v m' => ∃ l k t1 t2 t3, G[i]? = some l ∧ IsTup g' k #[.int 1 t1, .int l.id t2] ∧ m' (PySem.Str.ofString "other") = some (.ref k) ∧ m' (PySem.Str.ofString "data") = some (.int l.data t3))
    (Src.list hh (F'.keep _ _ (g0 _ _ hlo)) hlc hld) (by rw [sizeLine_eq]; omega) (.inl (g0 _ _ hlo)) (Nat.ne_of_lt (Nat.lt_of_lt_of_le (Heap.lt_size (g0 _ _ hlo)) F'.above)) F' N' ⟨rfl, [], .nil, by simp⟩ ?_ ?_ ?_
  · rintro i v C mC ys nx s' Q E hi hv ⟨rfl, hJ⟩ F1 N1 hn nC n2 h
    obtain ⟨l, hgl⟩ : ∃ l, G[i]? = some l := ⟨_, List.getElem?_eq_getElem (by omega)⟩
    obtain ⟨a, k, t1, t2, t3, t4, rfl, ht, hk⟩ := hvs i v l hv hgl
    refine asg_Names (ns := [(_, _), (_, _), (_, _)]) (vs := [.ref k, .int l.metric t1, .int l.data t2]) hh rfl (by decide) rfl ((ht.keeps g0).keeps F1.keep) hn fun h' m' tk hn' hm he => h h' m' tk hn' ⟨l, k, t3, t4, t2, hgl, hk.keeps g0, ?_, ?_⟩ he
    · rw [hm]; rfl
    · rw [hm]; rfl
  · rintro i v ys nx I oI C oC D m₂ h tk E' hi hv ⟨rfl, hJ⟩ hC ⟨l, k, t1, t2, t3, hgl, hk, ho, hd⟩ F1 N1 off ne hyl
    show wpAny _ _ (isTrue _ _ _) _ _ _
    clear F' N'
    have hsp' := hsp.keeps g0
    have htk : G.take (i + 1) = G.take i ++ [l] := by rw [List.take_add_one, hgl]; rfl
    by_cases hid : l.id = me
    · k_steps
      all_goals try (exfalso; simp_all; done)
      obtain ⟨ns, hns, _⟩ := hJ
      exact CEnd.intro F1 N1 off ⟨rfl, ns ++ [l.data], IntsAre.append hns (.cons _ _ .nil), fun _ => by simp⟩
    · k_steps
      all_goals try (exfalso; simp_all; done)
      obtain ⟨ns, hns, hJ⟩ := hJ
      refine CEnd.intro F1 N1 off ⟨rfl, ns, hns, fun ⟨l', hl', he⟩ => hJ ⟨l', ?_, he⟩⟩
      rw [htk] at hl'
      rcases List.mem_append.mp hl' with h1 | h1
      · exact h1
      · rw [List.mem_singleton.mp h1] at he
        exact absurd he hid
  · rintro D ys nx off ⟨rfl, hJ⟩ h tk F1 N1
    dsimp only
    clear F' N'
    k_steps
    rw [List.take_of_length_le (by omega)] at hJ
    exact ret D h _ ys (fun b o e => F1.keep b o (g0 b o e)) (fresh_of g0 (News.sub N1 fun p hp => by rw [List.mem_singleton.mp hp]; exact .head _)) hJ
end Mine

end

section
open PySem PySem.W PyProof.Rows PySem.Calls
open PyProof.Rows.LCg
namespace Mine

theorem fresh_ne {h₀ h h' : Heap} {L : Addr} {news nw : Led} (N : News h₀ L h news) (fr : Fresh h h' nw) {p q : Addr × Obj} (hp : p ∈ nw) (hq : q ∈ news) : @Ne Nat p.1 q.1 := fun e => by
  have h1 := (fr p hp).2
  have e' : p.1 = q.1 := e
  rw [e', (N q hq).1] at h1; cases h1
theorem RowAt.keeps {h h' : Heap} {v : Value} {r : RowD} (K : RowAt h v r) (st : h.StaysIn h') : RowAt h' v r := by
  obtain ⟨a, hd, t1, t2, t3, t4, t5, t6, t7, e, H, H'⟩ := K
  exact ⟨a, hd, t1, t2, t3, t4, t5, t6, t7, e, H.keeps st, H'.keeps st⟩
theorem RowsAt.keeps {h h' : Heap} {vs : List Value} {R : List RowD} (K : RowsAt h vs R) (st : h.StaysIn h') : RowsAt h' vs R := ⟨K.len, fun i v r a b => (K.get i v r a b).keeps st⟩
def Lives (R : List RowD) : List Int := (R.filter RowD.live).map RowD.adv
/-- a router's body, with these links -/
def BodyAt (h : Heap) (v : Value) (G : List LnkD) : Prop := ∃ b lt vs f t0 t1, v = .ref b ∧ IsTup h b #[.str (PySem.Str.ofString "router") t0, .int f t1, .ref lt] ∧ h.IsTuple lt (List.toArray vs) ∧ vs.length = G.length ∧ (∀ (i : Nat) (v : Value) (l : LnkD), vs[i]? = some v → G[i]? = some l → LinkSrc h v l) ∧ G.length ≤ 1000
theorem BodyAt.keeps {h h' : Heap} {v : Value} {G : List LnkD} (K : BodyAt h v G) (st : h.StaysIn h') : BodyAt h' v G := by
  obtain ⟨b, lt, vs, f, t0, t1, e, H, ⟨lo, hl, r⟩, hv, hL, hz⟩ := K
  refine ⟨b, lt, vs, f, t0, t1, e, H.keeps st, ⟨lo, st _ _ hl, r⟩, hv, fun i v l a b => ?_, hz⟩
  obtain ⟨a, t1, t2, t3, t4, e, H⟩ := hL i v l a b
  exact ⟨a, t1, t2, t3, t4, e, H.keeps st⟩

/-- an entry of told: the links of the router that the key names -/
def ToldAt (tl : Led) (G : Int → List LnkD) (y : List Int × Addr × Value) : Prop :=
  ∃ adv d e vs, y.1 = [1, adv] ∧ y.2.2 = .ref d ∧ (d, listOf (List.toArray vs) e) ∈ tl ∧ vs.length = (G adv).length ∧ ∀ (j : Nat) (v : Value) (l : LnkD), vs[j]? = some v → (G adv)[j]? = some l → LinkTl tl v l
theorem ToldAt.mono {tl tl' : Led} {G : Int → List LnkD} {y : List Int × Addr × Value} (K : ToldAt tl G y) (hs : ∀ p ∈ tl, p ∈ tl') : ToldAt tl' G y := by
  obtain ⟨adv, d, e, vs, h1, h2, h3, h4, h5⟩ := K
  exact ⟨adv, d, e, vs, h1, h2, hs _ h3, h4, fun j v l a b => (h5 j v l a b).mono hs⟩
def EdJ1 (w : World) (xs : List (List Int × Addr × Value)) (G : Int → List LnkD) (tlB : Led) (dB : Addr) (oB : Obj) (dT cS cT : Addr) (oC : Obj) (i : Nat) (m : PySem.Str → Option Value) (nx : Led) : Prop :=
  ∃ (oT oS : Obj) (ys : List (List Int × Addr × Value)) (tl : Led) (u : PySem.Str → Option Value) (c : Option Value), nx = (dB, oB) :: (dT, oT) :: (cS, oS) :: (cT, oC) :: tl ∧ OwnOff tl [dT, cS] ∧ oS.data = .cell c ∧ DObj PySem.Challenge.rw_rh0193_01.row.prog w oT ys ∧
    ys.map (fun y => (y.1, y.2.1)) = (xs.take i).map (fun y => (y.1, y.2.1)) ∧ (∀ y ∈ ys, ToldAt tl G y) ∧ (∀ p ∈ tlB, p ∈ tl) ∧ m = fun y => if y = PySem.Str.ofString "bodies" then some (.ref dB) else u y

theorem sub_tup {prog : Program} {w : World} {A : Around} {E : Value → Shared → Prop} {s : Shared} {h₀ : Heap} {L d a : Addr} {m : PySem.Str → Option Value} {news : Led} {o ok : Obj} {xs : List (List Int × Addr × Value)} {k : List Int} {p : Addr × Value} {value slice : PySem.Expr} {Q : Value → Shared → Prop}
    (hu : A.units + 1 < cLine) (F : Fr h₀ L s.heap m) (N : News h₀ L s.heap news) (he : Has h₀ news d o) (D : DObj prog w o xs) (K : KeysIn h₀ news xs) (ha : Has h₀ news a ok) (ka : KObj ok k)
    (hp : atKey xs k = some p) (hs : subscripted slice false (.ref d) (.ref a) = operate [.ref d, .ref a] (getItem (.ref d) (.ref a))) (ht : ∀ r, letTemporaryGo value (.ref d) r = pure ()) (h : Q p.2 { s with toks := s.toks + (tKnd prog w).draws k }) : wpAny (model prog w) A (subscriptTail value slice (.ref d) (.ref a)) Q E s :=
  subscriptTail_builtin (D.at K (he.at F N) F N).typeIs slot_dict_getitem.lookup (get_tup hu F N he D K ha ka hp h) hs ht
theorem xs_at {xs : List (List Int × Addr × Value)} {i : Nat} {x : List Int × Addr × Value} (hn : (xs.map (·.1)).Nodup) (hx : xs[i]? = some x) : atKey xs x.1 = some (x.2.1, x.2.2) := by
  unfold atKey
  have hm := List.mem_of_getElem? hx
  clear hx
  induction xs with
  | nil => cases hm
  | cons y r ih =>
    rw [List.map_cons, List.nodup_cons] at hn
    by_cases hy : y.1 = x.1
    · rcases List.mem_cons.mp hm with rfl | hm
      · simp
      · exact absurd (hy ▸ List.mem_map.mpr ⟨x, hm, rfl⟩) hn.1
    · rcases List.mem_cons.mp hm with rfl | hm
      · exact absurd rfl hy
      · rw [List.find?_cons_of_neg (by simpa using hy)]
        exact ih hn.2 hm
theorem key_new {xs : List (List Int × Addr × Value)} {k : List Int} (h : ∀ x ∈ xs, x.1 ≠ k) : atKey xs k = none := by
  unfold atKey
  rw [Option.map_eq_none_iff, List.find?_eq_none]
  intro x hx e
  exact h x hx (of_decide_eq_true e)
theorem keys_take {α : Type} {xs ys : List (List Int × α)} {β : Type} {f : List Int × α → List Int × β} (_hf : ∀ x, (f x).1 = x.1) {i : Nat} {x : List Int × α} (hn : (xs.map (·.1)).Nodup) (hx : xs[i]? = some x) (h : ys.map f = (xs.take i).map f) : ∀ y ∈ ys, y.1 ≠ x.1 := by
  intro y hy e
  have h1 : f y ∈ (xs.take i).map f := h ▸ List.mem_map.mpr ⟨y, hy, rfl⟩
  obtain ⟨z, hz, hzy⟩ := List.mem_map.mp h1
  have e1 : z.1 = x.1 := by rw [← _hf z, hzy, _hf y, e]
  obtain ⟨j, hj⟩ := List.getElem?_of_mem hz
  have hji : j < i := by
    have := (List.getElem?_eq_some_iff.mp hj).1
    rw [List.length_take] at this
    omega
  rw [List.getElem?_take_of_lt hji] at hj
  have a1 : (xs.map (·.1))[j]? = some x.1 := by rw [List.getElem?_map, hj, ← e1]; rfl
  have a2 : (xs.map (·.1))[i]? = some x.1 := by rw [List.getElem?_map, hx]; rfl
  obtain ⟨b1, c1⟩ := List.getElem?_eq_some_iff.mp a1
  obtain ⟨b2, c2⟩ := List.getElem?_eq_some_iff.mp a2
  have := (List.getElem_inj (h₀ := b1) (h₁ := b2) hn).mp (c1.trans c2.symm)
  omega

theorem keys_of {tl : Led} {xs ys : List (List Int × Addr × Value)} {i : Nat} (K : KeysTl tl xs) (h : ys.map (fun y => (y.1, y.2.1)) = (xs.take i).map (fun y => (y.1, y.2.1))) : KeysTl tl ys := by
  intro y hy
  have h1 : (y.1, y.2.1) ∈ (xs.take i).map (fun y => (y.1, y.2.1)) := h ▸ List.mem_map.mpr ⟨y, hy, rfl⟩
  obtain ⟨z, hz, e⟩ := List.mem_map.mp h1
  obtain ⟨o, H, k⟩ := K z (List.mem_of_mem_take hz)
  have e' : (z.1, z.2.1) = (y.1, y.2.1) := e
  have e1 : z.1 = y.1 := (Prod.mk.inj e').1
  have e2 : z.2.1 = y.2.1 := (Prod.mk.inj e').2
  rw [e1] at k; rw [e2] at H
  exact ⟨o, H, k⟩
theorem perm_map_ex {α β : Type} {f : α → β} : ∀ {l k : List β}, l.Perm k → ∀ xs : List α, k = xs.map f → ∃ xs' : List α, xs'.Perm xs ∧ l = xs'.map f := by
  intro l k h
  induction h with
  | nil => intro xs e; exact ⟨xs, .refl _, e⟩
  | cons a _ ih =>
    intro xs e
    match xs, e with
    | x :: r, e =>
      rw [List.map_cons] at e
      injection e with e1 e2
      obtain ⟨r', h1, h2⟩ := ih r e2
      exact ⟨x :: r', h1.cons x, by rw [h2, e1]; rfl⟩
  | swap a b l =>
    intro xs e
    match xs, e with
    | x :: y :: r, e =>
      simp only [List.map_cons] at e
      injection e with e1 e2
      injection e2 with e2 e3
      exact ⟨y :: x :: r, .swap _ _ _, by rw [e1, e2, e3]; rfl⟩
  | trans _ _ ih1 ih2 =>
    intro xs e
    obtain ⟨ys, h1, h2⟩ := ih2 xs e
    obtain ⟨zs, h3, h4⟩ := ih1 ys h2
    exact ⟨zs, h3.trans h1, h4⟩
theorem allLt_mem {d : Nat} {l : Led} (h : AllLt d l) {p : Addr × Obj} (hp : p ∈ l) : @LT.lt Nat _ p.1 d := by
  induction l with
  | nil => cases hp
  | cons q r ih =>
    rcases List.mem_cons.mp hp with rfl | hp
    · exact h.1
    · exact ih h.2 hp
theorem KObj.isTup {h : Heap} {a : Addr} {o : Obj} {x y : Int} (K : KObj o [x, y]) (e : h.get? a = some o) : ∃ t u, IsTup h a #[.int x t, .int y u] := by
  obtain ⟨hc, vs, n, hd, l, hl, hi⟩ := K
  cases hi with
  | cons _ t r =>
    cases r with
    | cons _ u r =>
      cases r
      have hv : vs = #[.int x t, .int y u] := by
        apply Array.toList_inj.mp
        rw [hl]
      exact ⟨t, u, o, e, hc, n, by rw [hd, hv]⟩
def LinkAll (tl : Led) (vs : List Value) (G : List LnkD) : Prop := vs.length = G.length ∧ ∀ (j : Nat) (v : Value) (l : LnkD), vs[j]? = some v → G[j]? = some l → LinkTl tl v l
theorem LinkAll.snoc {tl : Led} {vs : List Value} {G : List LnkD} {v : Value} {l : LnkD} (K : LinkAll tl vs G) (h : LinkTl tl v l) : LinkAll tl (vs ++ [v]) (G ++ [l]) := by
  refine ⟨by simp [K.1], fun j v' l' hv hl => ?_⟩
  by_cases hj : j < vs.length
  · rw [List.getElem?_append_left hj] at hv
    rw [List.getElem?_append_left (by rw [← K.1]; exact hj)] at hl
    exact K.2 j v' l' hv hl
  · rw [List.getElem?_append_right (by omega)] at hv
    rw [List.getElem?_append_right (by rw [← K.1]; omega)] at hl
    rw [← K.1] at hl
    rcases hjj : j - vs.length with _ | k
    · rw [hjj] at hv hl
      simp at hv hl
      subst hv; subst hl; exact h
    · rw [hjj] at hv; simp at hv
section
variable {prog : Program} {w : World} {A : Around} {E : Value → Shared → Prop} {s : Shared} {h₀ : Heap} {L d a : Addr} {m : PySem.Str → Option Value} {news : Led} {o ok : Obj} {xs : List (List Int × Addr × Value)} {k : List Int}
theorem in_yes {p : Addr × Value} {Q : Value → Shared → Prop} (hu : A.units + 1 < cLine) (F : Fr h₀ L s.heap m) (N : News h₀ L s.heap news) (hd : (d == sysModules) = false) (he : Has h₀ news d o) (D : DObj prog w o xs) (K : KeysIn h₀ news xs) (ha : Has h₀ news a ok) (ka : KObj ok k)
    (hp : atKey xs k = some p) (h : Q (.bool true) { s with toks := s.toks + (tKnd prog w).draws k }) : wpAny (model prog w) A (compareOp .In (.ref a) (.ref d)) Q E s := in_tup hu F N hd he D K ha ka (by rw [hp]; exact h)
theorem in_no {Q : Value → Shared → Prop} (hu : A.units + 1 < cLine) (F : Fr h₀ L s.heap m) (N : News h₀ L s.heap news) (hd : (d == sysModules) = false) (he : Has h₀ news d o) (D : DObj prog w o xs) (K : KeysIn h₀ news xs) (ha : Has h₀ news a ok) (ka : KObj ok k)
    (hp : atKey xs k = none) (h : Q (.bool false) { s with toks := s.toks + (tKnd prog w).draws k }) : wpAny (model prog w) A (compareOp .In (.ref a) (.ref d)) Q E s := in_tup hu F N hd he D K ha ka (by rw [hp]; exact h)
end
theorem KObj.tled {h₀ : Heap} {tl : Led} {a : Addr} {o : Obj} {k : Int} {ks : List Int} (K : KObj o (k :: ks)) (h : (a, o) ∈ tl) : TLed h₀ tl (.ref a) := ⟨a, o, rfl, .inr h, K.tobj⟩
/-- what stands between two turns of the second loop -/
def EdJ2 (w : World) (ys : List (List Int × Addr × Value)) (G' : Int → List LnkD) (tl0 : Led) (D : Addr) (oD : Obj) (dB : Addr) (oB : Obj) (dF dT : Addr) (oT : Obj) (cS cT : Addr) (oC : Obj) (i : Nat) (m : PySem.Str → Option Value) (nx : Led) : Prop :=
  ∃ (oF oS : Obj) (zs : List (List Int × Addr × Value)) (tl : Led) (u : PySem.Str → Option Value) (c : Option Value), nx = (D, oD) :: (dF, oF) :: (dB, oB) :: (dT, oT) :: (cS, oS) :: (cT, oC) :: tl ∧ OwnOff tl [dF, cS] ∧ oS.data = .cell c ∧ DObj PySem.Challenge.rw_rh0193_01.row.prog w oF zs ∧
    zs.map (fun y => (y.1, y.2.1)) = (ys.take i).map (fun y => (y.1, y.2.1)) ∧ (∀ y ∈ zs, ToldAt tl G' y) ∧ (∀ p ∈ tl0, p ∈ tl) ∧ m = fun y => if y = PySem.Str.ofString "found" then some (.ref dF) else u y
theorem ed_step2 {w : World} {g' : Heap} {L' I D dB dF dT cS cT ka dL : Addr} {oD oI oB oT oC o' oS2 : Obj} {ys zs : List (List Int × Addr × Value)} {y : List Int × Addr × Value} {G : Int → List LnkD} {tl0 tl : Led} {i eL : Nat} {adv : Int} {vL : List Value} {s₁ : Shared} {Q : Flow → Shared → Prop} {h' : Heap} {tk : Nat} {m : PySem.Str → Option Value}
    (hy : ys[i]? = some y) (hr1 : y.1 = [1, adv]) (hka : y.2.1 = ka) (hfr : atKey zs [1, adv] = none) (hyx : zs.map (fun y => (y.1, y.2.1)) = (ys.take i).map (fun y => (y.1, y.2.1))) (hys : ∀ z ∈ zs, ToldAt tl G z) (htl : ∀ p ∈ tl0, p ∈ tl)
    (hvL : LinkAll tl vL (G adv)) (off : OwnOff tl [dF, cS]) (hI : ∀ p ∈ tl, p.1 ≠ I)
    (dS : oS2.data = .cell (some (.ref ka))) (F : Fr g' L' h' m) (N : News g' L' h' ((dL, listOf vL.toArray eL) :: (I, oI) :: (D, oD) :: (dF, o') :: (dB, oB) :: (dT, oT) :: (cS, oS2) :: (cT, oC) :: tl)) (DD : DObj PySem.Challenge.rw_rh0193_01.row.prog w o' (storedH zs [1, adv] ka (.ref dL)))
    (n1 : @Ne Nat D I) (n2 : @Ne Nat dF I) (n3 : @Ne Nat dB I) (n4 : @Ne Nat dT I) (n5 : @Ne Nat cS I) (n6 : @Ne Nat cT I) (n7 : @Ne Nat dL I) (n8 : @Ne Nat dL dF) (n9 : @Ne Nat dL cS) (hm : m (PySem.Str.ofString "found") = some (.ref dF)) :
    TEnd g' L' I oI (EdJ2 w ys G tl0 D oD dB oB dF dT oT cS cT oC (i + 1)) s₁ Q .next { s₁ with heap := h', toks := tk } := by
  refine TEnd.intro (nx := (D, oD) :: (dF, o') :: (dB, oB) :: (dT, oT) :: (cS, oS2) :: (cT, oC) :: (dL, listOf vL.toArray eL) :: tl) F (News.sub N ?_) ?_ ⟨o', oS2, storedH zs [1, adv] ka (.ref dL), (dL, listOf vL.toArray eL) :: tl, m, _, rfl, ?_, dS, DD, ?_, ?_, fun p hp => .tail _ (htl p hp), ?_⟩
  · intro p hp
    simp only [List.mem_cons] at hp ⊢
    rcases hp with h | h | h | h | h | h | h | h | h <;> simp [h]
  · intro p hp
    simp only [List.mem_cons] at hp
    rcases hp with rfl | rfl | rfl | rfl | rfl | rfl | rfl | hp
    · exact n1
    · exact n2
    · exact n3
    · exact n4
    · exact n5
    · exact n6
    · exact n7
    · exact hI p hp
  · intro p hp b hb
    rcases List.mem_cons.mp hp with rfl | hp
    · rcases List.mem_cons.mp hb with rfl | hb
      · exact n8
      · rw [List.mem_singleton.mp hb]; exact n9
    · exact off p hp b hb
  · rw [storedH_new hfr, List.map_append, hyx, List.take_add_one, hy, List.map_append]
    simp [← hr1, hka]
  · rw [storedH_new hfr]
    intro z hz
    rcases List.mem_append.mp hz with hz | hz
    · exact (hys z hz).mono fun p hp => .tail _ hp
    · rw [List.mem_singleton.mp hz]
      exact ⟨adv, dL, eL, vL, rfl, rfl, .head _, hvL.1, fun j v l a b => (hvL.2 j v l a b).mono fun p hp => .tail _ hp⟩
  · funext z
    split
    · next q => rw [q]; exact hm
    · rfl
theorem ed_step {w : World} {g' : Heap} {L' I dB dT cS cT ka dL : Addr} {oI oB oC o' oS2 : Obj} {xs ys : List (List Int × Addr × Value)} {x : List Int × Addr × Value} {G : Int → List LnkD} {tlB tl tlL tl2 : Led} {i eL : Nat} {adv : Int} {vL : List Value} {s₁ : Shared} {Q : Flow → Shared → Prop} {h' : Heap} {tk : Nat} {m : PySem.Str → Option Value}
    (hx : xs[i]? = some x) (hr1 : [1, adv] = x.1) (hka : x.2.1 = ka) (hfr : atKey ys [1, adv] = none) (hyx : ys.map (fun y => (y.1, y.2.1)) = (xs.take i).map (fun y => (y.1, y.2.1))) (hys : ∀ y ∈ ys, ToldAt tl G y) (htl : ∀ p ∈ tlB, p ∈ tl)
    (hvl : vL.length = (G adv).length) (hvL : ∀ (j : Nat) (v : Value) (l : LnkD), vL[j]? = some v → (G adv)[j]? = some l → LinkTl tlL v l) (off2 : OwnOff tl2 [dT, cS]) (t2 : ∀ p ∈ tl, p ∈ tl2) (t3 : ∀ p ∈ tlL, p ∈ tl2) (mL : (dL, listOf vL.toArray eL) ∈ tl2) (hI : ∀ p ∈ tl2, p.1 ≠ I)
    (dS : oS2.data = .cell (some (.ref ka))) (F : Fr g' L' h' m) (N : News g' L' h' ((I, oI) :: (dB, oB) :: (dT, o') :: (cS, oS2) :: (cT, oC) :: tl2)) (D : DObj PySem.Challenge.rw_rh0193_01.row.prog w o' (storedH ys [1, adv] ka (.ref dL)))
    (n1 : @Ne Nat dB I) (n2 : @Ne Nat dT I) (n3 : @Ne Nat cS I) (n4 : @Ne Nat cT I) (hm : m (PySem.Str.ofString "bodies") = some (.ref dB)) :
    TEnd g' L' I oI (EdJ1 w xs G tlB dB oB dT cS cT oC (i + 1)) s₁ Q .next { s₁ with heap := h', toks := tk } := by
  refine TEnd.intro (nx := (dB, oB) :: (dT, o') :: (cS, oS2) :: (cT, oC) :: tl2) F N ?_ ⟨o', oS2, storedH ys [1, adv] ka (.ref dL), tl2, m, _, rfl, off2, dS, D, ?_, ?_, fun p hp => t2 p (htl p hp), ?_⟩
  · intro p hp
    simp only [List.mem_cons] at hp
    rcases hp with rfl | rfl | rfl | rfl | hp
    · exact n1
    · exact n2
    · exact n3
    · exact n4
    · exact hI p hp
  · rw [storedH_new hfr, List.map_append, hyx, List.take_add_one, hx, List.map_append]
    simp [← hr1, hka]
  · rw [storedH_new hfr]
    intro y hy
    rcases List.mem_append.mp hy with hy | hy
    · exact (hys y hy).mono t2
    · rw [List.mem_singleton.mp hy]
      exact ⟨adv, dL, eL, vL, rfl, rfl, mL, hvl, fun j v l a b => (hvL j v l a b).mono t3⟩
  · funext y
    split
    · next q => rw [q]; exact hm
    · rfl


set_option maxRecDepth 100000 in
set_option maxHeartbeats 8000000 in
theorem edges_call {w : World} {p : Program} {loose : List PySem.Str} {mg mb : PySem.Str → Option Value} {mean : ExcName → Option Value} {A₀ : Around} {base h₀ : Heap} {outer : List Env} {L : Addr} {m : PySem.Str → Option Value} {s : Shared} {Q E : Value → Shared → Prop}
   {dp un : Nat} {gd : Option (List Code)} {cn : PySem.Str} {cs : PySem.Scope} {a : Addr} {ccd : Value} {cl : List (PySem.Str × Addr)}
   (B : Below A₀ base outer h₀) (F : Fr h₀ L s.heap m) (X : (hd.heap_39 w.params).In h₀)
   (T : Top p loose mean mg mb h₀) (hk : cs.kind = .function) (hd1 : dp + 10 < recursionLimit) (hu : un + 80 < cLine)
   {rows : Addr} {vs : List Value} {R : List RowD} (hl : s.heap.IsList rows vs.toArray) (hR : RowsAt s.heap vs R) (hn : (Lives R).Nodup) (hz : R.length ≤ 60)
   {G : Int → List LnkD} (hG : ∀ r ∈ R, r.live = true → BodyAt s.heap r.body (G r.adv)) (hGz : ∀ x, (G x).length ≤ 60) (sym : ∀ x ∈ Lives R, ∀ l ∈ G x, l.id ∈ Lives R → ∃ l' ∈ G l.id, l'.id = x)
   (ret : ∀ d o tl h' tk' xs, s.heap.StaysIn h' → Fresh s.heap h' ((d, o) :: tl) → DObj PySem.Challenge.rw_rh0193_01.row.prog w o xs → KeysTl tl xs → (∀ p ∈ tl, p.1 ≠ d) → d ≠ sysModules →
     (xs.map (·.1)).Perm ((Lives R).map fun a => [1, a]) → (∀ z ∈ xs, ToldAt tl (fun a => (G a).filter (fun l => decide (l.id ∈ Lives R))) z) → Q (.ref d) { s with heap := h', toks := tk' }) :
   wpAny (model PySem.Challenge.rw_rh0193_01.row.prog w) (ktrTop dp un gd cn cs L a ccd cl outer) (call (.ref 44) [.ref rows]) Q E s := by
  k_with_none
  k_with "k_ne" => (refine neN ?_; (try dsimp only); first | (with_reducible first | assumption | exact Ne.symm (by assumption) | exact Nat.ne_of_gt (And.left (by assumption)) | exact Nat.ne_of_lt (And.left (by assumption)) | exact Nat.ne_of_gt (And.left (And.right (by assumption))) | exact Nat.ne_of_lt (And.left (And.right (by assumption))) | exact Nat.ne_of_gt (And.left (And.right (And.right (by assumption)))) | exact Nat.ne_of_lt (And.left (And.right (And.right (by assumption)))) | exact Nat.ne_of_gt (And.left (And.right (And.right (And.right (by assumption))))) | exact Nat.ne_of_lt (And.left (And.right (And.right (And.right (by assumption))))) | exact Nat.ne_of_gt (And.left (And.right (And.right (And.right (And.right (by assumption)))))) | exact Nat.ne_of_lt (And.left (And.right (And.right (And.right (And.right (by assumption)))))) | exact Nat.ne_of_gt (And.left (And.right (And.right (And.right (And.right (And.right (by assumption))))))) | exact Nat.ne_of_lt (And.left (And.right (And.right (And.right (And.right (And.right (by assumption))))))) | exact Nat.ne_of_gt (And.left (And.right (And.right (And.right (And.right (And.right (And.right (by assumption)))))))) | exact Nat.ne_of_lt (And.left (And.right (And.right (And.right (And.right (And.right (And.right (by assumption)))))))) | exact Nat.ne_of_gt (And.left (And.right (And.right (And.right (And.right (And.right (And.right (And.right (by assumption))))))))) | exact Nat.ne_of_lt (And.left (And.right (And.right (And.right (And.right (And.right (And.right (And.right (by assumption))))))))) | exact Nat.ne_of_gt (And.left (And.right (And.right (And.right (And.right (And.right (And.right (And.right (And.right (by assumption)))))))))) | exact Nat.ne_of_lt (And.left (And.right (And.right (And.right (And.right (And.right (And.right (And.right (And.right (by assumption)))))))))) | exact Nat.ne_of_gt (And.left (And.right (And.right (And.right (And.right (And.right (And.right (And.right (And.right (And.right (by assumption))))))))))) | exact Nat.ne_of_lt (And.left (And.right (And.right (And.right (And.right (And.right (And.right (And.right (And.right (And.right (by assumption))))))))))) | exact Nat.ne_of_gt (And.left (And.right (And.right (And.right (And.right (And.right (And.right (And.right (And.right (And.right (And.right (by assumption)))))))))))) | exact Nat.ne_of_lt (And.left (And.right (And.right (And.right (And.right (And.right (And.right (And.right (And.right (And.right (And.right (by assumption)))))))))))) | exact Nat.ne_of_gt (And.left (And.right (And.right (And.right (And.right (And.right (And.right (And.right (And.right (And.right (And.right (And.right (by assumption))))))))))))) | exact Nat.ne_of_lt (And.left (And.right (And.right (And.right (And.right (And.right (And.right (And.right (And.right (And.right (And.right (And.right (by assumption))))))))))))) | exact Nat.ne_of_gt (And.left (And.right (And.right (And.right (And.right (And.right (And.right (And.right (And.right (And.right (And.right (And.right (And.right (by assumption)))))))))))))) | exact Nat.ne_of_lt (And.left (And.right (And.right (And.right (And.right (And.right (And.right (And.right (And.right (And.right (And.right (And.right (And.right (by assumption)))))))))))))) | exact Nat.ne_of_gt (And.left (And.right (And.right (And.right (And.right (And.right (And.right (And.right (And.right (And.right (And.right (And.right (And.right (And.right (by assumption))))))))))))))) | exact Nat.ne_of_lt (And.left (And.right (And.right (And.right (And.right (And.right (And.right (And.right (And.right (And.right (And.right (And.right (And.right (And.right (by assumption))))))))))))))) | exact Nat.ne_of_gt (And.left (And.right (And.right (And.right (And.right (And.right (And.right (And.right (And.right (And.right (And.right (And.right (And.right (And.right (And.right (by assumption)))))))))))))))) | exact Nat.ne_of_lt (And.left (And.right (And.right (And.right (And.right (And.right (And.right (And.right (And.right (And.right (And.right (And.right (And.right (And.right (And.right (by assumption)))))))))))))))) | exact Nat.ne_of_gt (by assumption) | exact Nat.ne_of_lt (by assumption)) | omega)
  k_with "subscriptTail Name Name ref ref" => (k_here; k_dflt (refine' sub_tup ?mu ?mF ?mN ?me ?mD ?mK ?ma ?mk ?mp ?ms ?mt ?_; (case mF => k_asm); (case mN => k_asm); (case me => exact .inr (by k_mem)); (case mD => assumption); (case mK => exact KeysIn.mono (KeysTl.led (by assumption)) (by intro p hp; repeat (first | exact hp | refine List.Mem.tail _ ?_))); (case ma => exact .inr (by repeat (first | assumption | refine List.Mem.tail _ ?_))); (case mk => assumption); (case mp => assumption); (case ms => with_unfolding_all rfl); (case mt => (intro _; with_unfolding_all rfl)); (case mu => ktr_units)))
  k_with "setItem ref ref" => (k_here; (with_reducible show wpAny _ _ (setItem (Value.ref _) (Value.ref _) _) _ _ _); k_dflt (refine' set_tup ?mu ?mF ?mN ?mU ?mD ?mK ?ma ?mk ?mz ?_; (case mF => k_asm); (case mN => k_asm); (case mU => k_updF); (case mD => assumption); (case mK => exact KeysIn.mono (KeysTl.led (by assumption)) (by intro p hp; repeat (first | exact hp | refine List.Mem.tail _ ?_))); (case ma => exact .inr (by repeat (first | assumption | refine List.Mem.tail _ ?_))); (case mk => assumption); (case mz => (rw [sizeLine_eq]; omega)); (case mu => ktr_units)); intro _ _ _ N9 D9; (try dsimp only at N9); revert N9 D9; intro _ _; (try k_sweep))
  k_with "subscriptTail Name Subscript ref ref" => (k_here; k_dflt (refine' sub_tup ?mu ?mF ?mN ?me ?mD ?mK ?ma ?mk ?mp ?ms ?mt ?_; (case mF => k_asm); (case mN => k_asm); (case me => exact .inr (by k_mem)); (case mD => assumption); (case mK => exact KeysIn.mono (KeysTl.led (by assumption)) (by intro p hp; repeat (first | exact hp | refine List.Mem.tail _ ?_))); (case ma => exact .inr (by k_mem)); (case mk => exact KObj.two rfl); (case mp => assumption); (case ms => with_unfolding_all rfl); (case mt => (intro _; with_unfolding_all rfl)); (case mu => ktr_units)))
  k_with "compareOp In ref ref" => (k_here; k_dflt (first
  | (refine' in_yes ?mu ?mF ?mN ?md ?me ?mD ?mK ?ma ?mk ?mp ?_; (case mF => k_asm); (case mN => k_asm); (case me => exact .inr (by k_mem)); (case mD => assumption); (case mK => exact KeysIn.mono (KeysTl.led (by assumption)) (by intro p hp; repeat (first | exact hp | refine List.Mem.tail _ ?_))); (case ma => exact .inr (by k_mem)); (case mk => exact KObj.two rfl); (case md => assumption); (case mp => assumption); (case mu => ktr_units))
  | (refine' in_no ?mu ?mF ?mN ?md ?me ?mD ?mK ?ma ?mk ?mp ?_; (case mF => k_asm); (case mN => k_asm); (case me => exact .inr (by k_mem)); (case mD => assumption); (case mK => exact KeysIn.mono (KeysTl.led (by assumption)) (by intro p hp; repeat (first | exact hp | refine List.Mem.tail _ ?_))); (case ma => exact .inr (by k_mem)); (case mk => exact KObj.two rfl); (case md => assumption); (case mp => assumption); (case mu => ktr_units))))
  k_with "compareOp NotEq ref ref" => (k_here; k_dflt (refine' ne_intsK ?ma ?mi ?mb ?mj ?mu ?_; (case ma => exact ⟨_, (News.get (by k_asm) (by k_mem)), rfl, _, rfl⟩); (case mi => assumption); (case mb => exact ⟨_, (News.get (by k_asm) (by k_mem)), rfl, _, rfl⟩); (case mj => exact IntsAre.nil); (case mu => ktr_units)))
  k_with "eval ListComp" => (k_here; k_dflt (refine' comp_eval ?mF ?mcl ?mce ?mki ?mna ?mfo ?_; (case mF => k_asm); (case mcl => with_unfolding_all rfl); (case mce => decide); (case mki => rfl); (case mna => decide); (case mfo => (intro _; rfl))))
  k_with "call ref" => (k_here; refine halt ?_)
  k_with "call ref cons nil" => (k_here; refine halt ?_)
  k_with "pyIter ref" => (k_here; refine halt ?_)
  k_with "exec For Name Name cons nil" => (k_here; refine halt ?_)
  k_with "exec For Name Call cons nil" => (k_here; refine halt ?_)
  w_top off
  revert X; k_fill; intro X
  refine wpAny_call ?_
  (k_dflt (refine' call_cells ?k1 ?k2 ?kA ?kF ?kK ?kL ?k6 ?kO ?k7 ?k8 ?k9 ?kB ?kD ?c4 ?c2 ?c3 ?_; (case kA => exact rfl); (case kF => exact rfl); (case kK => assumption); (case k1 => k_asm); (case k2 => k_asm); (case kL => exact (Top.nolimit T).keeps F.keep); (case k6 => exact (X.keeps F.keep) _ _ (by k_is)); (case kO => exact rfl); (case k7 => exact codeRec_of (X.keeps F.keep) (by k_is)); (case k8 => ktr_room); (case k9 => exact BindsTo.of_eq rfl); (case kB => exact rfl); (case kD => decide +kernel); (case c2 => exact rfl); (case c3 => exact rfl); (case c4 => exact rfl)))
  obtain ⟨g', hg'⟩ : ∃ g', g' = s.heap := ⟨_, rfl⟩
  have g0 : ∀ b o, s.heap.get? b = some o → g'.get? b = some o := fun b o e => by rw [hg']; exact e
  have FG' : Fr h₀ L g' m := by rw [hg']; exact F
  have X' := X.keeps FG'.keep
  have T' := T.keeps FG'.keep
  rw [← hg']
  clear hg'
  intro L' h' tk' cells' F' N' Y' B'
  k_cells Y'
  (try simp only [List.cons_append, List.nil_append] at N')
  dsimp only
  (try k_fold)
  k_steps
  unfold Halt
  rename_i oS _ dS _ dT _ oT loT _ _ hiT _ lT _ oC FF NN dC
  have hl2 : g'.IsList rows vs.toArray := by obtain ⟨o, e, r⟩ := hl; exact ⟨o, g0 _ _ e, r⟩
  refine av_call B' FF X' T' rfl (by show dp + 1 + 5 < _; omega) (by show un + 3 + 50 < _; omega) (by obtain ⟨o, e, r⟩ := hl2; exact ⟨o, FF.keep _ _ e, r⟩) ((hR.keeps g0).keeps FF.keep) hn (by omega) ?_
  intro dB oB tlB h1 tk1 xs st1 fr1 DB KB nB sB hxs
  obtain ⟨F2, N2⟩ := after FF NN st1 fr1
  replace N2 : News g' L' h1 ((dB, oB) :: (dT, oT) :: (L' + 1 + 1, oS) :: (L' + 1, oC) :: tlB) := News.sub N2 fun p hp => by
    simp only [List.mem_cons, List.mem_append, List.not_mem_nil] at hp ⊢
    rcases hp with h | h | h | h | h <;> simp [h]
  have off1 : OwnOff tlB [dT, L' + 1 + 1] := fun p hp b hb => by
    rcases List.mem_cons.mp hb with rfl | hb
    · exact fresh_ne NN fr1 (.tail _ hp) (.head _)
    · rw [List.mem_singleton.mp hb]; exact fresh_ne NN fr1 (.tail _ hp) (.tail _ (.head _))
  have hne1 : @Ne Nat dB dT := fresh_ne NN fr1 (.head _) (.head _)
  have hne2 : @Ne Nat dB (L' + 1 + 1) := fresh_ne NN fr1 (.head _) (.tail _ (.head _))
  clear FF NN
  k_steps
  unfold Halt
  (rename Fr _ _ _ _ => F3)
  refine For_turns F3 ?_
  k_steps
  unfold Halt
  rename_i N3
  obtain ⟨hxB, esB, epB, hdB, heB, hnB⟩ := id DB
  have hlen : esB.size = xs.length := by
    have h9 := congrArg List.length heB
    simpa using h9
  have hlen2 : xs.length ≤ 60 := by
    have e1 := congrArg List.length hxs
    rw [List.length_map, List.length_map] at e1
    have e2 := List.length_filter_le RowD.live R
    omega
  refine turns_src (fun i m nx => EdJ1 w xs G tlB dB oB dT (L' + 1 + 1) (L' + 1) oC i m nx) (Src.raw rfl (sys_of sB) (N3 _ (.head _)).1 hxB hdB) (.inr ?_) (N3 _ (.head _)).2.1 F3 N3
    ⟨oT, oS, [], tlB, _, _, rfl, off1, dS, DObj.nil hiT, rfl, fun _ h => (nomatch h), fun _ h => h, rfl⟩ ?_ ?_
  · rintro i m nx ⟨oT, oS, ys, tl, u, c, rfl, _⟩
    exact .head _
  · clear F3 N3
    rintro I i v m₁ nx oI h tk hi ⟨e, he, rfl⟩ hd0 ⟨oT, oS, ys, tl, u, c, rfl, off, dS, DT, hyx, hys, htl, rfl⟩ F1 N1
    obtain ⟨x, hx⟩ : ∃ x, xs[i]? = some x := ⟨_, List.getElem?_eq_getElem (by omega)⟩
    have hek : e.key = .ref x.2.1 := by
      have h8 : esB.toList[i]? = some e := by rw [← he]; simp
      rw [heB, List.getElem?_map, hx] at h8
      cases h8; rfl
    obtain ⟨r, hr, hr1, hr2⟩ : ∃ r, r ∈ R.filter RowD.live ∧ [1, r.adv] = x.1 ∧ r.body = x.2.2 := by
      have h9 : (x.1, x.2.2) ∈ xs.map (fun x => (x.1, x.2.2)) := List.mem_map.mpr ⟨x, List.mem_of_getElem? hx, rfl⟩
      rw [hxs] at h9
      obtain ⟨r, hr, h9⟩ := List.mem_map.mp h9
      exact ⟨r, hr, congrArg Prod.fst h9, congrArg Prod.snd h9⟩
    have hat : atKey xs [1, r.adv] = some (x.2.1, x.2.2) := by rw [hr1]; exact xs_at hnB hx
    obtain ⟨ok, hok, kok⟩ := KB x (List.mem_of_getElem? hx)
    rw [← hr1] at kok
    have hfr : atKey ys [1, r.adv] = none := key_new (by rw [hr1]; exact keys_take (f := fun y => (y.1, y.2.1)) (fun _ => rfl) hnB hx hyx)
    have hBod := hG r ((List.mem_filter.mp hr).1) (List.mem_filter.mp hr).2
    rw [hr2] at hBod
    obtain ⟨b, lt, us, f, t0, t1, hxb, hb1, hb2, hb3, hb4, hb5⟩ := hBod
    rw [hek]
    have KB' := KB.mono htl
    have hok' := htl _ hok
    generalize hka : x.2.1 = ka at *
    rw [hxb] at hat
    have hI1 : @Ne Nat dB I := hd0 (dB, oB) (.head _)
    have hI2 : @Ne Nat dT I := hd0 (dT, oT) (.tail _ (.head _))
    have hI4 : @Ne Nat (L' + 1) I := hd0 (L' + 1, oC) (.tail _ (.tail _ (.tail _ (.head _))))
    have hI3 : @Ne Nat (L' + 1 + 1) I := hd0 (L' + 1 + 1, oS) (.tail _ (.tail _ (.head _)))
    k_steps
    unfold Halt
    rename_i oS2 FF NN dS2
    refine links_call B' FF X' T' rfl (by show dp + 1 + 5 < _; omega) (by show un + 3 + 50 < _; omega) ((hb1.keeps g0).keeps FF.keep) (vs := us) (G := G r.adv) (by obtain ⟨o, e, r⟩ := hb2; exact ⟨o, FF.keep _ _ (g0 _ _ e), r⟩)
      ⟨hb3, fun j v l a b => by obtain ⟨a, t1, t2, t3, t4, e, H⟩ := hb4 j v l a b; exact ⟨a, t1, t2, t3, t4, e, (H.keeps g0).keeps FF.keep⟩⟩ hb5 ?_
    intro dL eL vL tlL h2 tk2 st2 fr2 hvl hvL nL
    obtain ⟨F2, N2⟩ := after FF NN st2 fr2
    obtain ⟨tl2, htl2⟩ : ∃ x, x = (dL, listOf vL.toArray eL) :: tlL ++ tl := ⟨_, rfl⟩
    have hI : ∀ p ∈ tl2, p.1 ≠ I := fun p hp => by
      rw [htl2] at hp
      rcases List.mem_append.mp hp with hp | hp
      · exact fresh_ne NN fr2 hp (.head _)
      · exact hd0 p (.tail _ (.tail _ (.tail _ (.tail _ hp))))
    have off2 : OwnOff tl2 [dT, L' + 1 + 1] := fun p hp b hb => by
      rw [htl2] at hp
      rcases List.mem_append.mp hp with hp | hp
      · rcases List.mem_cons.mp hb with rfl | hb
        · exact fresh_ne NN fr2 hp (.tail _ (.tail _ (.head _)))
        · rw [List.mem_singleton.mp hb]; exact fresh_ne NN fr2 hp (.tail _ (.tail _ (.tail _ (.head _))))
      · exact off p hp b hb
    have t2 : ∀ p ∈ tl, p ∈ tl2 := fun p hp => by rw [htl2]; exact List.mem_append_right _ hp
    have t3 : ∀ p ∈ tlL, p ∈ tl2 := fun p hp => by rw [htl2]; exact List.mem_append_left _ (.tail _ hp)
    have mL : (dL, listOf vL.toArray eL) ∈ tl2 := by rw [htl2]; exact .head _
    replace N2 : News g' L' h2 ((I, oI) :: (dB, oB) :: (dT, oT) :: (L' + 1 + 1, oS2) :: (L' + 1, oC) :: tl2) := News.sub N2 fun p hp => by
      rw [htl2] at hp
      simp only [List.mem_cons, List.mem_append] at hp ⊢
      rcases hp with h | h | h | h | h | (h | h) | h <;> simp [h]
    clear FF NN htl2
    have KT : KeysTl tl2 ys := keys_of (KB.mono fun p hp => t2 p (htl p hp)) hyx
    have hok2 := t2 _ hok'
    have hyl : ys.length ≤ 60 := by
      have e1 := congrArg List.length hyx
      rw [List.length_map, List.length_map, List.length_take] at e1
      omega
    k_steps
    dsimp only
    (rename Fr _ _ _ _ => F4)
    (rename News _ _ _ _ => N4)
    (rename DObj _ _ _ (storedH ys _ _ _) => Da)
    exact ed_step hx hr1 hka hfr hyx hys htl hvl hvL off2 t2 t3 mL hI dS2 F4 N4 Da hI1 hI2 hI3 hI4 rfl
  · rintro m₁ nx h tk ⟨oT, oS, ys, tl, u, c, rfl, off, dS, DT, hyx, hys, htl, rfl⟩ F1 N1
    have htk : xs.take esB.size = xs := List.take_of_length_le (by omega)
    rw [htk] at hyx
    k_steps
    unfold Halt
    (rename Fr _ _ _ _ => F5)
    refine For_turns F5 ?_
    k_steps
    rename_i dF _ oF _ _ loF _ _ hiF _ lF _ N5
    have hlt : ys.length = xs.length := by
      have e1 := congrArg List.length hyx
      simpa using e1
    have KT : KeysTl tl ys := keys_of (i := esB.size) (KB.mono htl) (by rw [htk]; exact hyx)
    obtain ⟨hxT, esT, epT, hdT, heT, hnT⟩ := id DT
    have hlenT : esT.size = ys.length := by
      have h9 := congrArg List.length heT
      simpa using h9
    refine sorted_dict rfl F5 N5 loT ⟨oT, (N5 _ (.tail _ (.tail _ (.head _)))).1, hxT, hdT⟩ (fun e he => ?_) (by omega) ?_
    · rw [heT] at he
      obtain ⟨y, hy, rfl⟩ := List.mem_map.mp he
      obtain ⟨ok, hok, kok⟩ := KT y hy
      obtain ⟨adv, _, _, _, h1, _⟩ := hys y hy
      rw [h1] at kok
      exact kok.tled (.tail _ (.tail _ (.tail _ (.tail _ (.tail _ hok)))))
    intro D h3 tk3 out cD F6 N6 lD hperm
    obtain ⟨ys', hpy, hout⟩ : ∃ ys' : List (List Int × Addr × Value), ys'.Perm ys ∧ out = ys'.map (fun y => Value.ref y.2.1) := by
      refine perm_map_ex hperm ys ?_
      rw [heT, List.map_map]; rfl
    subst hout
    clear F5 N5
    k_steps
    unfold Halt
    obtain ⟨oD, hoD⟩ : ∃ x, x = listOf (List.toArray (ys'.map (fun y => Value.ref y.2.1))) cD := ⟨_, rfl⟩
    rw [← hoD] at N6
    refine turns_src (fun i m nx => EdJ2 w ys' (fun a => (G a).filter (fun l => decide (l.id ∈ Lives R))) tl D oD dB oB dF dT oT (L' + 1 + 1) (L' + 1) oC i m nx) (Src.list rfl (N6 _ (.head _)).1 (by rw [hoD]) (by rw [hoD])) (.inr ?_) (N6 _ (.head _)).2.1 F6 N6
      ⟨oF, oS, [], tl, _, _, rfl, ?_, dS, DObj.nil hiF, rfl, fun _ h => (nomatch h), fun _ h => h, rfl⟩ ?_ ?_
    · rintro i m nx ⟨oF, oS, zs, tl, u, c, rfl, _⟩
      exact .head _
    · intro p hp b hb
      rcases List.mem_cons.mp hb with rfl | hb
      · exact Ne.symm (Nat.ne_of_gt (allLt_mem lF.2.2.2.2 hp))
      · exact off p hp b (.tail _ hb)
    · clear F6 N6
      rintro I i v m₁ nx oI h tk hi hv hd0 ⟨oF, oS, zs, tl', u, c, rfl, off', dS, DF, hzx, hzs, htl', rfl⟩ F1 N1
      have hi' : i < ys'.length := by simpa using hi
      obtain ⟨y, hy⟩ : ∃ y, ys'[i]? = some y := ⟨_, List.getElem?_eq_getElem hi'⟩
      rw [List.getElem?_map, hy] at hv
      obtain rfl : v = Value.ref y.2.1 := (Option.some.inj hv).symm
      have hyy : y ∈ ys := hpy.mem_iff.mp (List.mem_of_getElem? hy)
      obtain ⟨adv, dL, eL, vL, hy1, hy2, mL, hvl, hvL⟩ := hys y hyy
      obtain ⟨ok, hok, kok⟩ := KT y hyy
      rw [hy1] at kok
      have hnY : (ys'.map (·.1)).Nodup := (hpy.map _).nodup_iff.mpr hnT
      have hat : atKey ys [1, adv] = some (y.2.1, Value.ref dL) := by
        obtain ⟨j, hj⟩ := List.getElem?_of_mem hyy
        rw [← hy1, ← hy2]
        exact xs_at hnT hj
      have hfr : atKey zs [1, adv] = none := key_new (by rw [← hy1]; exact keys_take (f := fun y => (y.1, y.2.1)) (fun _ => rfl) hnY hy hzx)
      have KY' : KeysTl tl' ys := KT.mono htl'
      have hok' := htl' _ hok
      generalize hka : y.2.1 = ka at *
      have hI1 : @Ne Nat D I := hd0 (D, oD) (.head _)
      have hI2 : @Ne Nat dF I := hd0 (dF, oF) (.tail _ (.head _))
      have hI3 : @Ne Nat dB I := hd0 (dB, oB) (.tail _ (.tail _ (.head _)))
      have hI4 : @Ne Nat dT I := hd0 (dT, oT) (.tail _ (.tail _ (.tail _ (.head _))))
      have hI5 : @Ne Nat (L' + 1 + 1) I := hd0 (L' + 1 + 1, oS) (.tail _ (.tail _ (.tail _ (.tail _ (.head _)))))
      have hI6 : @Ne Nat (L' + 1) I := hd0 (L' + 1, oC) (.tail _ (.tail _ (.tail _ (.tail _ (.tail _ (.head _))))))
      have hD1 : @Ne Nat D dF := Ne.symm (Nat.ne_of_lt (lD (dF, _) (.head _)))
      have hD2 : @Ne Nat D (L' + 1 + 1) := Ne.symm (Nat.ne_of_lt (lD (L' + 1 + 1, _) (.tail _ (.tail _ (.tail _ (.head _))))))
      k_steps
      rename_i oS2 FF NN dS2
      obtain ⟨NX, hNX⟩ : ∃ x, x = (I, oI) :: (D, oD) :: (dF, oF) :: (dB, oB) :: (dT, oT) :: (L' + 1 + 1, oS2) :: (L' + 1, oC) :: tl' := ⟨_, rfl⟩
      have mLx : (dL, listOf vL.toArray eL) ∈ NX := by rw [hNX]; exact .tail _ (.tail _ (.tail _ (.tail _ (.tail _ (.tail _ (.tail _ (htl' _ mL)))))))
      have hkeys : ys.map (·.1) = (Lives R).map (fun a => [1, a]) := by
        have e1 := congrArg (List.map Prod.fst) hyx
        have e2 := congrArg (List.map Prod.fst) hxs
        rw [List.map_map, List.map_map] at e1 e2
        show ys.map (Prod.fst ∘ fun y => (y.1, y.2.1)) = _
        rw [e1]
        show xs.map (Prod.fst ∘ fun y => (y.1, y.2.2)) = _
        rw [e2]
        unfold Lives
        rw [List.map_map]; rfl
      have hadv : adv ∈ Lives R := by
        have h9 : y.1 ∈ ys.map (·.1) := List.mem_map.mpr ⟨y, hyy, rfl⟩
        rw [hkeys, hy1] at h9
        obtain ⟨z, hz, e2⟩ := List.mem_map.mp h9
        have e3 : z = adv := by simpa using e2
        rw [← e3]; exact hz
      have NN' := NN
      rw [← hNX] at NN'
      refine CompOk.intro (news := NX) (fun i acc nx => nx = NX ∧ LinkAll tl' acc (((G adv).take i).filter (fun l => decide (l.id ∈ Lives R)))) (fun i v m' => m' (PySem.Str.ofString "link") = some v)
        (Src.list rfl (NN' _ mLx).1 rfl rfl) (by rw [sizeLine_eq, hvl]; have := hGz adv; omega) (.inr fun i ys nx h => by rw [h.1]; exact mLx) (NN' _ mLx).2.1 FF NN' ⟨rfl, by simp, fun _ _ _ h => (nomatch h)⟩ ?_ ?_ ?_
      · intro i v C mC acc nx s' Q E _ _ _ _ _ hn _ _ h
        exact asg_Name rfl (by decide) hn fun h' m' tk hn' hm he => h h' m' tk hn' hm he
      · clear NN' FF NN
        rintro j v acc nx I2 oI2 C oCc Dc m₂ h2 tk2 E' hj hv ⟨rfl, hacc⟩ hC hlink F1 N1 off2 ne hyl
        obtain ⟨l, hgl⟩ : ∃ l, (G adv)[j]? = some l := ⟨_, List.getElem?_eq_getElem (by omega)⟩
        obtain ⟨a2, k2, t1, t2, t3, t4, rfl, ma2, mk2⟩ := hvL j v l hv hgl
        show wpAny _ _ (isTrue _ _ _) _ _ _
        subst hNX
        have N2 : News g' L' h2 ((a2, tupO [.ref k2, .int l.metric t1, .int l.data t2]) :: (k2, tupO [.int 1 t3, .int l.id t4]) :: (I2, oI2) :: (C, oCc) :: (Dc, lst acc) :: (I, oI) :: (D, oD) :: (dF, oF) :: (dB, oB) :: (dT, oT) :: (L' + 1 + 1, oS2) :: (L' + 1, oC) :: tl') := News.sub N1 fun p hp => by
          rcases List.mem_cons.mp hp with rfl | hp
          · exact .tail _ (.tail _ (.tail _ (.tail _ (.tail _ (.tail _ (.tail _ (.tail _ (.tail _ (.tail _ (htl' _ ma2))))))))))
          · rcases List.mem_cons.mp hp with rfl | hp
            · exact .tail _ (.tail _ (.tail _ (.tail _ (.tail _ (.tail _ (.tail _ (.tail _ (.tail _ (.tail _ (htl' _ mk2))))))))))
            · exact hp
        clear N1
        have htk : ((G adv).take (j + 1)).filter (fun l => decide (l.id ∈ Lives R)) = ((G adv).take j).filter (fun l => decide (l.id ∈ Lives R)) ++ (if l.id ∈ Lives R then [l] else []) := by
          rw [List.take_add_one, hgl, List.filter_append]
          congr 1
          by_cases h : l.id ∈ Lives R <;> simp [h]
        by_cases hid : l.id ∈ Lives R
        · obtain ⟨y2, hy2m, hy2k⟩ : ∃ y2 ∈ ys, y2.1 = [1, l.id] := by
            have h9 : [1, l.id] ∈ ys.map (·.1) := by rw [hkeys]; exact List.mem_map.mpr ⟨_, hid, rfl⟩
            obtain ⟨y2, h1, h2⟩ := List.mem_map.mp h9
            exact ⟨y2, h1, h2⟩
          obtain ⟨adv2, dL2, eL2, vL2, hz1, hz2, mL2, hvl2, hvL2⟩ := hys y2 hy2m
          have hadv2 : adv2 = l.id := by rw [hz1] at hy2k; simpa using hy2k
          subst hadv2
          have hat2 : atKey ys [1, l.id] = some (y2.2.1, Value.ref dL2) := by
            obtain ⟨j, hj⟩ := List.getElem?_of_mem hy2m
            rw [← hz1, ← hz2]
            exact xs_at hnT hj
          k_steps
          unfold Halt
          (rename Fr _ _ _ _ => F5)
          (rename News _ _ _ _ => N5)
          obtain ⟨t8, u8, hsp⟩ := kok.isTup (N5 (ka, ok) (by repeat (first | exact hok' | refine List.Mem.tail _ ?_))).1
          refine data_call B' F5 X' T' rfl rfl rfl rfl (by show dp + 1 + 5 < _; omega) (by show un + 3 + 50 < _; omega) (G := G l.id) (me := adv) ⟨vL2, ⟨_, (N5 (dL2, listOf vL2.toArray eL2) (by repeat (first | exact htl' _ mL2 | refine List.Mem.tail _ ?_))).1, rfl, _, rfl⟩, hvl2, fun j v l' a b => ((hvL2 j v l' a b).mono (by intro p hp; repeat (first | exact htl' _ hp | refine List.Mem.tail _ ?_))).out N5⟩ hsp (by have := hGz l.id; omega) ?_
          rintro d9 h9 tk9 zs9 st9 fr9 ⟨ns, hns, hne⟩
          obtain ⟨F9, N9⟩ := after F5 N5 st9 fr9
          simp only [List.cons_append, List.nil_append] at N9
          have hnn : ns ≠ [] := hne (sym adv hadv l (List.mem_of_getElem? hgl) hid)
          clear F5 N5
          k_steps
          (rename Fr _ _ _ _ => F5)
          (rename News _ _ _ _ => N5)
          exact CEnd.intro F5 (News.sub N5 fun p hp => .tail _ (.tail _ (.tail _ (.tail _ hp)))) off2 ⟨rfl, by rw [htk, if_pos hid]; exact hacc.snoc ⟨a2, k2, t1, t2, t3, t4, rfl, htl' _ ma2, htl' _ mk2⟩⟩
        · have hat2 : atKey ys [1, l.id] = none := key_new fun x hx e => hid (by
            have h9 : x.1 ∈ ys.map (·.1) := List.mem_map.mpr ⟨x, hx, rfl⟩
            rw [hkeys, e] at h9
            obtain ⟨z, hz, e2⟩ := List.mem_map.mp h9
            have e3 : z = l.id := by simpa using e2
            rw [← e3]; exact hz)
          k_steps
          (rename Fr _ _ _ _ => F5)
          (rename News _ _ _ _ => N5)
          exact CEnd.intro F5 (News.sub N5 fun p hp => .tail _ (.tail _ hp)) off2 ⟨rfl, by rw [htk, if_neg hid, List.append_nil]; exact hacc⟩
      · rintro Dc acc nx offc ⟨rfl, hacc⟩ h2 tk2 F1 N1
        dsimp only
        subst hNX
        rw [List.take_of_length_le (Nat.le_of_eq hvl.symm)] at hacc
        have hDc1 : @Ne Nat dF Dc := offc (dF, oF) (.tail _ (.tail _ (.head _)))
        have hDc2 : @Ne Nat (L' + 1 + 1) Dc := offc (L' + 1 + 1, oS2) (.tail _ (.tail _ (.tail _ (.tail _ (.tail _ (.head _))))))
        have hDc3 : @Ne Nat I Dc := offc (I, oI) (.head _)
        have KZ : KeysTl tl' zs := keys_of (i := i) (fun z hz => KY' z (hpy.mem_iff.mp hz)) hzx
        have hzl : zs.length ≤ 60 := by
          have e1 := congrArg List.length hzx
          rw [List.length_map, List.length_map, List.length_take] at e1
          have e2 := hpy.length_eq
          omega
        clear NN' FF NN
        k_steps
        dsimp only
        (rename Fr _ _ _ _ => F4)
        (rename News _ _ _ _ => N4)
        (rename DObj _ _ _ (storedH zs _ _ _) => Da)
        exact ed_step2 (ys := ys') (G := fun a => (G a).filter (fun l => decide (l.id ∈ Lives R))) hy hy1 hka hfr hzx hzs htl' hacc off' (fun p hp => hd0 p (.tail _ (.tail _ (.tail _ (.tail _ (.tail _ (.tail _ hp))))))) dS2 F4 N4 Da hI1 hI2 hI3 hI4 hI5 hI6 (Ne.symm hDc3) (Ne.symm hDc1) (Ne.symm hDc2) rfl
    · rintro m₁ nx h tk ⟨oF, oS, zs, tl', u, c, rfl, off', dS, DF, hzx, hzs, htl', rfl⟩ F1 N1
      k_steps
      have htk : ys'.take (ys'.map (fun y => Value.ref y.2.1)).length = ys' := List.take_of_length_le (by simp)
      have KZ : KeysTl tl' zs := keys_of (i := (ys'.map (fun y => Value.ref y.2.1)).length) (fun z hz => (KT.mono htl') z (hpy.mem_iff.mp hz)) hzx
      rw [htk] at hzx
      refine ret dF oF tl' h _ zs (fun b o e => F1.keep b o (g0 b o e)) (fresh_of g0 (News.sub N1 fun p hp => ?_)) DF KZ (fun p hp => off' p hp dF (.head _)) (by simpa using loF) ?_ hzs
      · rcases List.mem_cons.mp hp with rfl | hp
        · exact .tail _ (.head _)
        · exact .tail _ (.tail _ (.tail _ (.tail _ (.tail _ (.tail _ hp)))))
      · have hkeys : ys.map (·.1) = (Lives R).map (fun a => [1, a]) := by
          have e1 := congrArg (List.map Prod.fst) hyx
          have e2 := congrArg (List.map Prod.fst) hxs
          rw [List.map_map, List.map_map] at e1 e2
          show ys.map (Prod.fst ∘ fun y => (y.1, y.2.1)) = _
          rw [e1]
          show xs.map (Prod.fst ∘ fun y => (y.1, y.2.2)) = _
          rw [e2]
          unfold Lives
          rw [List.map_map]; rfl
        have hz1 : zs.map (·.1) = ys'.map (·.1) := by
          have e1 := congrArg (List.map Prod.fst) hzx
          rw [List.map_map, List.map_map] at e1
          exact e1
        rw [hz1, ← hkeys]
        exact hpy.map _
end Mine

end

section
open PySem PySem.W PyProof.Rows PySem.Calls
open PyProof.Rows.LCg
namespace Mine

/-- a router's body with this flag -/
def FlagAt (h : Heap) (v : Value) (f : Int) : Prop := ∃ b lt t0 t1, v = .ref b ∧ IsTup h b #[.str (PySem.Str.ofString "router") t0, .int f t1, .ref lt]
theorem FlagAt.keeps {h h' : Heap} {v : Value} {f : Int} (K : FlagAt h v f) (st : h.StaysIn h') : FlagAt h' v f := by
  obtain ⟨b, lt, t0, t1, e, H⟩ := K
  exact ⟨b, lt, t0, t1, e, H.keeps st⟩
/-- what reached tells of a router: (2 * own, q) -/
def ReachAt (h : Heap) (v : Value) (own : Int) (q : Addr) : Prop := ∃ a t, v = .ref a ∧ IsTup h a #[.int (2 * own) t, .ref q]
theorem ReachAt.keeps {h h' : Heap} {v : Value} {own : Int} {q : Addr} (K : ReachAt h v own q) (st : h.StaysIn h') : ReachAt h' v own q := by
  obtain ⟨a, t, e, H⟩ := K
  exact ⟨a, t, e, H.keeps st⟩



theorem add_21 {prog : Program} {w : World} {A : Around} {E : Value → Shared → Prop} {s : Shared} {h₀ : Heap} {L : Addr} {m : PySem.Str → Option Value} {news : Led} {t b : Addr} {x y z : Value} {Q : Value → Shared → Prop} (F : Fr h₀ L s.heap m) (N : News h₀ L s.heap news) (ht : IsTup s.heap t #[x, y]) (hb : IsTup s.heap b #[z])
    (h : ∀ D h', Fr h₀ L h' m → News h₀ L h' ((D, tupO [x, y, z]) :: news) → (∀ p ∈ news, p.1 < D) → Q (.ref D) { s with heap := h' }) : wpAny (model prog w) A (binaryOp .Add (.ref t) (.ref b)) Q E s :=
  add_tuples (vs := [x, y]) (ws := [z]) F N ht hb (fun e => nomatch e) (fun _ e => nomatch e) (fun _ _ h' F' N' => h _ h' F' N' fun p hp => Heap.lt_size (N p hp).1) (by rw [sizeLine_eq]; exact Nat.le_of_ble_eq_true rfl)
theorem stored_new {kvs : List (Int × Value)} {k : Int} {v : Value} (h : k ∉ kvs.map (·.1)) : stored kvs k v = kvs ++ [(k, v)] := by
  unfold stored
  rw [if_neg]
  intro e
  obtain ⟨kv, hkv, e⟩ := List.any_eq_true.mp e
  exact h (List.mem_map.mpr ⟨kv, hkv, of_decide_eq_true e⟩)

def ownOf (x : List Int × Addr × Value) : Int := x.1.getD 1 0
def FoundR (tl : Led) (qs : Int → Addr) (fl : Int → Int) (kv : Int × Value) : Prop := ∃ a t t' n, kv.2 = .ref a ∧ (a, tupO [.int (2 * kv.1) t, .ref (qs kv.1), .int (fl kv.1) t'] n) ∈ tl
theorem FoundR.mono {tl tl' : Led} {qs : Int → Addr} {fl : Int → Int} {kv : Int × Value} (K : FoundR tl qs fl kv) (hs : ∀ p ∈ tl, p ∈ tl') : FoundR tl' qs fl kv := let ⟨a, t, t', n, e, h⟩ := K; ⟨a, t, t', n, e, hs _ h⟩
theorem frame3 {m : PySem.Str → Option Value} {x y z : PySem.Str} {a b c : Option Value} (h1 : m x = a) (h2 : m y = b) (h3 : m z = c) : m = fun q => if q = x then a else if q = y then b else if q = z then c else m q := by
  funext q
  by_cases e1 : q = x
  · rw [if_pos e1, e1, h1]
  · by_cases e2 : q = y
    · rw [if_neg e1, if_pos e2, e2, h2]
    · by_cases e3 : q = z
      · rw [if_neg e1, if_neg e2, if_pos e3, e3, h3]
      · rw [if_neg e1, if_neg e2, if_neg e3]
def RoJ (w : World) (R : List RowD) (qs : Int → Addr) (fl : Int → Int) (ys : List (List Int × Addr × Value)) (tl0 : Led) (D : Addr) (oD : Obj) (dF dB : Addr) (oB : Obj) (rd : Addr) (i : Nat) (m : PySem.Str → Option Value) (nx : Led) : Prop :=
  ∃ (oF : Obj) (kvs : List (Int × Value)) (tl : Led) (u : PySem.Str → Option Value), nx = (D, oD) :: (dF, oF) :: (dB, oB) :: tl ∧ OwnOff tl [dF] ∧ oF.IsDictOf (PySem.intKind PySem.Challenge.rw_rh0193_01.row.prog w) kvs ∧
    kvs.map (·.1) = ((ys.take i).map ownOf).filter (fun a => decide (a ∈ Lives R)) ∧ (∀ kv ∈ kvs, FoundR tl qs fl kv) ∧ (∀ p ∈ tl0, p ∈ tl) ∧ m = fun y => if y = PySem.Str.ofString "found" then some (.ref dF) else if y = PySem.Str.ofString "bodies" then some (.ref dB) else if y = PySem.Str.ofString "reached" then some (.ref rd) else u y

set_option maxRecDepth 100000 in
set_option maxHeartbeats 8000000 in
theorem routers_call {w : World} {p : Program} {loose : List PySem.Str} {mg mb : PySem.Str → Option Value} {mean : ExcName → Option Value} {A₀ : Around} {base h₀ : Heap} {outer : List Env} {L : Addr} {m : PySem.Str → Option Value} {s : Shared} {Q E : Value → Shared → Prop}
   {dp un : Nat} {gd : Option (List Code)} {cn : PySem.Str} {cs : PySem.Scope} {a : Addr} {ccd : Value} {cl : List (PySem.Str × Addr)}
   (B : Below A₀ base outer h₀) (F : Fr h₀ L s.heap m) (X : (hd.heap_39 w.params).In h₀)
   (T : Top p loose mean mg mb h₀) (hk : cs.kind = .function) (hd1 : dp + 10 < recursionLimit) (hu : un + 80 < cLine)
   {rows rd : Addr} {vs : List Value} {R : List RowD} (hl : s.heap.IsList rows vs.toArray) (hR : RowsAt s.heap vs R) (hn : (Lives R).Nodup) (hz : R.length ≤ 60)
   {fl : Int → Int} (hG : ∀ r ∈ R, r.live = true → FlagAt s.heap r.body (fl r.adv))
   {oR : Obj} {xr : List (List Int × Addr × Value)} (sR : (rd == sysModules) = false) (hRd : s.heap.get? rd = some oR) (DR : DObj PySem.Challenge.rw_rh0193_01.row.prog w oR xr) (KR : ∀ x ∈ xr, ∃ o, s.heap.get? x.2.1 = some o ∧ KObj o x.1) (hzr : xr.length ≤ 60)
   {qs : Int → Addr} (hX : ∀ x ∈ xr, ∃ own, x.1 = [1, own] ∧ ReachAt s.heap x.2.2 own (qs own))
   (ret : ∀ d o tl h' tk' kvs, s.heap.StaysIn h' → Fresh s.heap h' ((d, o) :: tl) → o.IsDictOf (PySem.intKind PySem.Challenge.rw_rh0193_01.row.prog w) kvs → (kvs.map (·.1)).Perm ((xr.map ownOf).filter (fun a => decide (a ∈ Lives R))) → (∀ kv ∈ kvs, FoundR tl qs fl kv) → (∀ p ∈ tl, p.1 ≠ d) → d ≠ sysModules → Q (.ref d) { s with heap := h', toks := tk' }) :
   wpAny (model PySem.Challenge.rw_rh0193_01.row.prog w) (ktrTop dp un gd cn cs L a ccd cl outer) (call (.ref 51) [.ref rows, .ref rd]) Q E s := by
  k_with_none
  k_with "k_ne" => (refine neN ?_; (try dsimp only); first | (with_reducible first | assumption | exact Ne.symm (by assumption) | exact Nat.ne_of_gt (And.left (by assumption)) | exact Nat.ne_of_lt (And.left (by assumption)) | exact Nat.ne_of_gt (And.left (And.right (by assumption))) | exact Nat.ne_of_lt (And.left (And.right (by assumption))) | exact Nat.ne_of_gt (And.left (And.right (And.right (by assumption)))) | exact Nat.ne_of_lt (And.left (And.right (And.right (by assumption)))) | exact Nat.ne_of_gt (And.left (And.right (And.right (And.right (by assumption))))) | exact Nat.ne_of_lt (And.left (And.right (And.right (And.right (by assumption))))) | exact Nat.ne_of_gt (And.left (And.right (And.right (And.right (And.right (by assumption)))))) | exact Nat.ne_of_lt (And.left (And.right (And.right (And.right (And.right (by assumption)))))) | exact Nat.ne_of_gt (And.left (And.right (And.right (And.right (And.right (And.right (by assumption))))))) | exact Nat.ne_of_lt (And.left (And.right (And.right (And.right (And.right (And.right (by assumption))))))) | exact Nat.ne_of_gt (And.left (And.right (And.right (And.right (And.right (And.right (And.right (by assumption)))))))) | exact Nat.ne_of_lt (And.left (And.right (And.right (And.right (And.right (And.right (And.right (by assumption)))))))) | exact Nat.ne_of_gt (And.left (And.right (And.right (And.right (And.right (And.right (And.right (And.right (by assumption))))))))) | exact Nat.ne_of_lt (And.left (And.right (And.right (And.right (And.right (And.right (And.right (And.right (by assumption))))))))) | exact Nat.ne_of_gt (And.left (And.right (And.right (And.right (And.right (And.right (And.right (And.right (And.right (by assumption)))))))))) | exact Nat.ne_of_lt (And.left (And.right (And.right (And.right (And.right (And.right (And.right (And.right (And.right (by assumption)))))))))) | exact Nat.ne_of_gt (And.left (And.right (And.right (And.right (And.right (And.right (And.right (And.right (And.right (And.right (by assumption))))))))))) | exact Nat.ne_of_lt (And.left (And.right (And.right (And.right (And.right (And.right (And.right (And.right (And.right (And.right (by assumption))))))))))) | exact Nat.ne_of_gt (And.left (And.right (And.right (And.right (And.right (And.right (And.right (And.right (And.right (And.right (And.right (by assumption)))))))))))) | exact Nat.ne_of_lt (And.left (And.right (And.right (And.right (And.right (And.right (And.right (And.right (And.right (And.right (And.right (by assumption)))))))))))) | exact Nat.ne_of_gt (And.left (And.right (And.right (And.right (And.right (And.right (And.right (And.right (And.right (And.right (And.right (And.right (by assumption))))))))))))) | exact Nat.ne_of_lt (And.left (And.right (And.right (And.right (And.right (And.right (And.right (And.right (And.right (And.right (And.right (And.right (by assumption))))))))))))) | exact Nat.ne_of_gt (And.left (And.right (And.right (And.right (And.right (And.right (And.right (And.right (And.right (And.right (And.right (And.right (And.right (by assumption)))))))))))))) | exact Nat.ne_of_lt (And.left (And.right (And.right (And.right (And.right (And.right (And.right (And.right (And.right (And.right (And.right (And.right (And.right (by assumption)))))))))))))) | exact Nat.ne_of_gt (And.left (And.right (And.right (And.right (And.right (And.right (And.right (And.right (And.right (And.right (And.right (And.right (And.right (And.right (by assumption))))))))))))))) | exact Nat.ne_of_lt (And.left (And.right (And.right (And.right (And.right (And.right (And.right (And.right (And.right (And.right (And.right (And.right (And.right (And.right (by assumption))))))))))))))) | exact Nat.ne_of_gt (And.left (And.right (And.right (And.right (And.right (And.right (And.right (And.right (And.right (And.right (And.right (And.right (And.right (And.right (And.right (by assumption)))))))))))))))) | exact Nat.ne_of_lt (And.left (And.right (And.right (And.right (And.right (And.right (And.right (And.right (And.right (And.right (And.right (And.right (And.right (And.right (And.right (by assumption)))))))))))))))) | exact Nat.ne_of_gt (by assumption) | exact Nat.ne_of_lt (by assumption)) | omega)
  k_with "subscriptTail Name Name ref ref" => (k_here; k_dflt (refine' sub_tup ?mu ?mF ?mN ?me ?mD ?mK ?ma ?mk ?mp ?ms ?mt ?_; (case mF => k_asm); (case mN => k_asm); (case me => first | exact .inr (by k_mem) | exact .inl (by assumption)); (case mD => assumption); (case mK => first | exact KeysIn.mono (KeysTl.led (by assumption)) (by intro p hp; repeat (first | exact hp | refine List.Mem.tail _ ?_)) | exact KeysIn.mono (by assumption) (by intro p hp; cases hp)); (case ma => first | exact .inl (by assumption) | exact .inr (by repeat (first | assumption | refine List.Mem.tail _ ?_))); (case mk => assumption); (case mp => assumption); (case ms => with_unfolding_all rfl); (case mt => (intro _; with_unfolding_all rfl)); (case mu => ktr_units)))
  k_with "setItem ref ref" => (k_here; (with_reducible show wpAny _ _ (setItem (Value.ref _) (Value.ref _) _) _ _ _); k_dflt (refine' set_tup ?mu ?mF ?mN ?mU ?mD ?mK ?ma ?mk ?mz ?_; (case mF => k_asm); (case mN => k_asm); (case mU => k_updF); (case mD => assumption); (case mK => first | exact KeysIn.mono (KeysTl.led (by assumption)) (by intro p hp; repeat (first | exact hp | refine List.Mem.tail _ ?_)) | exact KeysIn.mono (by assumption) (by intro p hp; cases hp)); (case ma => first | exact .inl (by assumption) | exact .inr (by repeat (first | assumption | refine List.Mem.tail _ ?_))); (case mk => assumption); (case mz => (rw [sizeLine_eq]; omega)); (case mu => ktr_units)); intro _ _ _ N9 D9; (try dsimp only at N9); revert N9 D9; intro _ _; (try k_sweep))
  k_with "subscriptTail Name Subscript ref ref" => (k_here; k_dflt (refine' sub_tup ?mu ?mF ?mN ?me ?mD ?mK ?ma ?mk ?mp ?ms ?mt ?_; (case mF => k_asm); (case mN => k_asm); (case me => first | exact .inr (by k_mem) | exact .inl (by assumption)); (case mD => assumption); (case mK => first | exact KeysIn.mono (KeysTl.led (by assumption)) (by intro p hp; repeat (first | exact hp | refine List.Mem.tail _ ?_)) | exact KeysIn.mono (by assumption) (by intro p hp; cases hp)); (case ma => first | exact .inl (by assumption) | exact .inr (by k_mem)); (case mk => first | assumption | exact KObj.two rfl); (case mp => assumption); (case ms => with_unfolding_all rfl); (case mt => (intro _; with_unfolding_all rfl)); (case mu => ktr_units)))
  k_with "compareOp In ref ref" => (k_here; k_dflt (first
  | (refine' in_yes ?mu ?mF ?mN ?md ?me ?mD ?mK ?ma ?mk ?mp ?_; (case mF => k_asm); (case mN => k_asm); (case me => first | exact .inr (by k_mem) | exact .inl (by assumption)); (case mD => assumption); (case mK => first | exact KeysIn.mono (KeysTl.led (by assumption)) (by intro p hp; repeat (first | exact hp | refine List.Mem.tail _ ?_)) | exact KeysIn.mono (by assumption) (by intro p hp; cases hp)); (case ma => first | exact .inl (by assumption) | exact .inr (by k_mem)); (case mk => first | assumption | exact KObj.two rfl); (case md => assumption); (case mp => assumption); (case mu => ktr_units))
  | (refine' in_no ?mu ?mF ?mN ?md ?me ?mD ?mK ?ma ?mk ?mp ?_; (case mF => k_asm); (case mN => k_asm); (case me => first | exact .inr (by k_mem) | exact .inl (by assumption)); (case mD => assumption); (case mK => first | exact KeysIn.mono (KeysTl.led (by assumption)) (by intro p hp; repeat (first | exact hp | refine List.Mem.tail _ ?_)) | exact KeysIn.mono (by assumption) (by intro p hp; cases hp)); (case ma => first | exact .inl (by assumption) | exact .inr (by k_mem)); (case mk => first | assumption | exact KObj.two rfl); (case md => assumption); (case mp => assumption); (case mu => ktr_units))))
  k_with "compareOp NotEq ref ref" => (k_here; k_dflt (refine' ne_intsK ?ma ?mi ?mb ?mj ?mu ?_; (case ma => exact ⟨_, (News.get (by k_asm) (by k_mem)), rfl, _, rfl⟩); (case mi => assumption); (case mb => exact ⟨_, (News.get (by k_asm) (by k_mem)), rfl, _, rfl⟩); (case mj => exact IntsAre.nil); (case mu => ktr_units)))
  k_with "call ref" => (k_here; refine halt ?_)
  k_with "call ref cons nil" => (k_here; refine halt ?_)
  k_with "pyIter ref" => (k_here; refine halt ?_)
  k_with "exec For Name Name cons nil" => (k_here; refine halt ?_)
  k_with "exec For Name Call cons nil" => (k_here; refine halt ?_)
  k_with "newTuple" => (k_here; k_dflt (refine' new_tup ?mF ?mN ?_ ?mz; (case mF => k_asm); (case mN => k_asm); (case mz => exact Nat.le_of_ble_eq_true rfl)); intro _ _ _ _ L9; (try k_lt L9); (try (revert L9; intro _)); (try k_sweep))
  k_with "binaryOp Add ref ref" => (k_here; k_dflt (refine' add_21 ?mF ?mN ?ma ?mb ?_; (case mF => k_asm); (case mN => k_asm); (case ma => first | exact IsTup.keeps (by assumption) (Fr.keep (by k_asm)) | exact ⟨_, (News.get (by k_asm) (by k_mem)), rfl, _, rfl⟩); (case mb => exact ⟨_, (News.get (by k_asm) (by k_mem)), rfl, _, rfl⟩)); intro _ _ _ _ L9; (try k_lt L9); (try (revert L9; intro _)); (try k_sweep))
  k_with "setItem ref int" => (k_here; k_dflt (refine' kda_set (knd := PySem.intKind _ _) ?F ?N ?U ?d (intKind_is _ _ _ _) ?z ?_; (case F => k_asm); (case N => k_asm); (case U => k_updF); (case d => k_asm); (case z => (rw [sizeLine_eq]; omega))); intro _ _ _ N9 D9; (try dsimp only at N9); revert N9 D9; intro _ _)
  w_top off
  revert X; k_fill; intro X
  refine wpAny_call ?_
  (k_dflt (refine' code_defG ?k1 ?k2 ?k3 ?k4 ?k5 ?kA ?kF ?kK ?k6 ?k7 ?k8 ?k9 ?kB ?_ ?c2 ?c3 ?c4 ?c5; (case kA => exact rfl); (case kF => exact rfl); (case kK => assumption); (case k1 => k_asm); (case k2 => k_asm); (case k3 => k_asm); (case k4 => exact News.nil); (case k5 => k_asm); (case k6 => k_is); (case k7 => k_is); (case k8 => ktr_room); (case k9 => exact BindsTo.of_eq rfl); (case c5 => decide); (case kB => exact locs rfl); (case c2 => exact rfl); (case c3 => exact rfl); (case c4 => exact rfl)))
  intro g' L' h' FG' F' N' B' X' T' GS
  dsimp only
  (try k_fold)
  have g0 : ∀ b o, s.heap.get? b = some o → g'.get? b = some o := fun b o e => GS b o e (by simp)
  k_steps
  unfold Halt
  (rename Fr _ _ _ _ => FF)
  have NN : News g' L' h' [] := News.nil
  have hl2 : g'.IsList rows vs.toArray := by obtain ⟨o, e, r⟩ := hl; exact ⟨o, g0 _ _ e, r⟩
  refine av_call B' FF X' T' rfl (by show dp + 1 + 5 < _; omega) (by show un + 3 + 50 < _; omega) (by obtain ⟨o, e, r⟩ := hl2; exact ⟨o, FF.keep _ _ e, r⟩) ((hR.keeps g0).keeps FF.keep) hn (by omega) ?_
  intro dB oB tlB h1 tk1 xs st1 fr1 DB KB nB sB hxs
  obtain ⟨F2, N2⟩ := after FF NN st1 fr1
  rw [List.append_nil] at N2
  clear FF NN
  k_steps
  unfold Halt
  (rename Fr _ _ _ _ => F3)
  refine For_turns F3 ?_
  k_steps
  rename_i dF _ oF0 loF _ _ hiF _ lF _ _ _ _ _ _ N5
  obtain ⟨hxT, esT, epT, hdT, heT, hnT⟩ := id DR
  have hlenT : esT.size = xr.length := by
    have h9 := congrArg List.length heT
    simpa using h9
  have hrd := g0 _ _ hRd
  have KRl : KeysIn g' [] xr := fun x hx => let ⟨o, H, k⟩ := KR x hx; ⟨o, .inl (g0 _ _ H), k⟩
  replace N5 := News.sub N5 (news' := (dF, oF0) :: (dB, oB) :: tlB) fun p hp => .tail _ hp
  refine sorted_dict rfl F3 N5 sR ⟨oR, F3.keep _ _ hrd, hxT, hdT⟩ (fun e he => ?_) (by omega) ?_
  · rw [heT] at he
    obtain ⟨y, hy, rfl⟩ := List.mem_map.mp he
    obtain ⟨ok, hok, kok⟩ := KR y hy
    obtain ⟨own, h1, _⟩ := hX y hy
    rw [h1] at kok
    exact ⟨_, ok, rfl, .inl (g0 _ _ hok), kok.tobj⟩
  intro D h3 tk3 out cD F6 N6 lD hperm
  obtain ⟨ys', hpy, hout⟩ : ∃ ys' : List (List Int × Addr × Value), ys'.Perm xr ∧ out = ys'.map (fun y => Value.ref y.2.1) := by
    refine perm_map_ex hperm xr ?_
    rw [heT, List.map_map]; rfl
  subst hout
  clear F3 N5
  k_steps
  unfold Halt
  obtain ⟨oD, hoD⟩ : ∃ x, x = listOf (List.toArray (ys'.map (fun y => Value.ref y.2.1))) cD := ⟨_, rfl⟩
  rw [← hoD] at N6
  obtain ⟨hxB, esB, epB, hdB, heB, hnB⟩ := id DB
  refine turns_src (fun i m nx => RoJ w R qs fl ys' tlB D oD dF dB oB rd i m nx) (Src.list rfl (N6 _ (.head _)).1 (by rw [hoD]) (by rw [hoD])) (.inr ?_) (N6 _ (.head _)).2.1 F6 N6
    ⟨oF0, [], tlB, _, rfl, ?_, hiF, rfl, fun _ h => (nomatch h), fun _ h => h, frame3 rfl rfl rfl⟩ ?_ ?_
  · rintro i m nx ⟨oF, kvs, tl, u, rfl, _⟩
    exact .head _
  · intro p hp b hb
    rw [List.mem_singleton.mp hb]
    exact Ne.symm (Nat.ne_of_gt (allLt_mem lF.2 hp))
  · clear F6 N6
    rintro I i v m₁ nx oI h tk hi hv hd0 ⟨oF, kvs, tl, u, rfl, off, hF, hkv, hks, htl, rfl⟩ F1 N1
    have hi' : i < ys'.length := by simpa using hi
    obtain ⟨y, hy⟩ : ∃ y, ys'[i]? = some y := ⟨_, List.getElem?_eq_getElem hi'⟩
    rw [List.getElem?_map, hy] at hv
    obtain rfl : v = Value.ref y.2.1 := (Option.some.inj hv).symm
    have hyy : y ∈ xr := hpy.mem_iff.mp (List.mem_of_getElem? hy)
    obtain ⟨own, hy1, va, vt, hy2, hva⟩ := hX y hyy
    obtain ⟨ok, hok0, kok⟩ := KR y hyy
    rw [hy1] at kok
    have hok := g0 _ _ hok0
    have hat : atKey xr [1, own] = some (y.2.1, Value.ref va) := by
      obtain ⟨j, hj⟩ := List.getElem?_of_mem hyy
      rw [← hy1, ← hy2]
      exact xs_at hnT hj
    have hva' := hva.keeps g0
    generalize hka : y.2.1 = ka at *
    obtain ⟨u1, u2, hkt⟩ := kok.isTup hok
    have hI1 : @Ne Nat D I := hd0 (D, oD) (.head _)
    have hI2 : @Ne Nat dF I := hd0 (dF, oF) (.tail _ (.head _))
    have hI3 : @Ne Nat dB I := hd0 (dB, oB) (.tail _ (.tail _ (.head _)))
    have hD1 : @Ne Nat D dF := Ne.symm (Nat.ne_of_lt (lD (dF, oF0) (.head _)))
    have KB' := KB.mono htl
    have sB' : (dB == sysModules) = false := sys_of sB
    have hkl : kvs.length ≤ 60 := by
      have e1 := congrArg List.length hkv
      have e2 := List.length_filter_le (fun a => decide (a ∈ Lives R)) ((ys'.take i).map ownOf)
      rw [List.length_map] at e1 e2
      rw [List.length_take] at e2
      have e3 := hpy.length_eq
      omega
    have htk : ((ys'.take (i + 1)).map ownOf).filter (fun a => decide (a ∈ Lives R)) = ((ys'.take i).map ownOf).filter (fun a => decide (a ∈ Lives R)) ++ (if own ∈ Lives R then [own] else []) := by
      rw [List.take_add_one, hy, List.map_append, List.filter_append]
      congr 1
      have : ownOf y = own := by unfold ownOf; rw [hy1]; rfl
      by_cases h : own ∈ Lives R <;> simp [this, h]
    by_cases hlv : own ∈ Lives R
    · obtain ⟨r, hr, rfl⟩ := List.mem_map.mp hlv
      obtain ⟨b, lt, t0, t1, hb0, hb1⟩ := hG r (List.mem_filter.mp hr).1 (List.mem_filter.mp hr).2
      have hb1' := hb1.keeps g0
      obtain ⟨x, hx, hx1, hx2⟩ : ∃ x ∈ xs, x.1 = [1, r.adv] ∧ x.2.2 = .ref b := by
        have h9 : ([1, r.adv], r.body) ∈ xs.map (fun x => (x.1, x.2.2)) := by rw [hxs]; exact List.mem_map.mpr ⟨r, hr, rfl⟩
        obtain ⟨x, hx, h9⟩ := List.mem_map.mp h9
        exact ⟨x, hx, congrArg Prod.fst h9, (congrArg Prod.snd h9).trans hb0⟩
      have hatB : atKey xs [1, r.adv] = some (x.2.1, Value.ref b) := by
        obtain ⟨j, hj⟩ := List.getElem?_of_mem hx
        rw [← hx1, ← hx2]
        exact xs_at hnB hj
      k_steps
      dsimp only
      (rename Fr _ _ _ _ => F4)
      (rename News _ _ _ _ => N4)
      (rename Obj.IsDictOf _ _ (stored kvs _ _) => Da)
      rename_i D1 _ _ D2 _ _ _ _ _ o'
      have hnew : r.adv ∉ kvs.map (·.1) := by
        rw [hkv]
        intro h9
        obtain ⟨z, hz, hz2⟩ := List.mem_map.mp (List.mem_filter.mp h9).1
        have hzy : z ∈ ys'.take i := hz
        have e1 := keys_take (xs := ys') (ys := ys'.take i) (f := id) (fun _ => rfl) ((hpy.map _).nodup_iff.mpr hnT) hy rfl z hzy
        obtain ⟨ow, hw1, _⟩ := hX z (hpy.mem_iff.mp (List.mem_of_mem_take hzy))
        have : ow = r.adv := by rw [← hz2]; unfold ownOf; rw [hw1]; rfl
        rw [hw1, hy1, this] at e1
        exact e1 rfl
      rw [stored_new hnew] at Da
      refine TEnd.intro (nx := (D, oD) :: (dF, o') :: (dB, oB) :: (D2, tupO [.int (2 * r.adv) vt, .ref (qs r.adv), .int (fl r.adv) t1]) :: tl) F4 (News.sub N4 ?_) ?_ ⟨o', _, _, _, rfl, ?_, Da, ?_, ?_, fun p hp => .tail _ (htl p hp), frame3 rfl rfl rfl⟩
      · intro p hp
        simp only [List.mem_cons] at hp ⊢
        rcases hp with h | h | h | h | h | h <;> simp [h]
      · intro p hp
        simp only [List.mem_cons] at hp
        rcases hp with rfl | rfl | rfl | rfl | hp
        · exact hI1
        · exact hI2
        · exact hI3
        · show @Ne Nat D2 I; k_ne
        · exact hd0 p (.tail _ (.tail _ (.tail _ hp)))
      · intro p hp b hb
        rw [List.mem_singleton.mp hb]
        rcases List.mem_cons.mp hp with rfl | hp
        · show @Ne Nat D2 dF; k_ne
        · exact off p hp dF (.head _)
      · rw [List.map_append, hkv, htk, if_pos hlv]; rfl
      · intro kv hkv'
        rcases List.mem_append.mp hkv' with h | h
        · exact (hks kv h).mono fun p hp => .tail _ hp
        · rw [List.mem_singleton.mp h]
          exact ⟨D2, vt, t1, 0, rfl, .head _⟩
    · have hatB : atKey xs [1, own] = none := key_new fun x hx e => hlv (by
        have h9 : (x.1, x.2.2) ∈ xs.map (fun x => (x.1, x.2.2)) := List.mem_map.mpr ⟨x, hx, rfl⟩
        rw [hxs] at h9
        obtain ⟨r, hr, h9⟩ := List.mem_map.mp h9
        have h10 : [1, r.adv] = x.1 := congrArg Prod.fst h9
        rw [e] at h10
        have h11 : r.adv = own := by simpa using h10
        rw [← h11]; exact List.mem_map.mpr ⟨r, hr, rfl⟩)
      k_steps
      dsimp only
      (rename Fr _ _ _ _ => F4)
      (rename News _ _ _ _ => N4)
      exact TEnd.intro F4 (News.sub N4 (by intro p hp; repeat (first | exact hp | refine List.Mem.tail _ ?_))) hd0 ⟨oF, kvs, tl, _, rfl, off, hF, by rw [htk, if_neg hlv, List.append_nil]; exact hkv, hks, htl, frame3 rfl rfl rfl⟩
  · rintro m₁ nx h tk ⟨oF, kvs, tl, u, rfl, off, hF, hkv, hks, htl, rfl⟩ F1 N1
    k_steps
    rw [List.take_of_length_le (by simp)] at hkv
    refine ret dF oF tl h _ kvs (fun b o e => F1.keep b o (g0 b o e)) (fresh_of g0 (News.sub N1 fun p hp => ?_)) hF (by rw [hkv]; exact (hpy.map _).filter _) hks (fun p hp => off p hp dF (.head _)) (by simpa using loF)
    rcases List.mem_cons.mp hp with rfl | hp
    · exact .tail _ (.head _)
    · exact .tail _ (.tail _ (.tail _ hp))
end Mine

end

section
open PySem PySem.W PyProof.Rows PySem.Calls
open PyProof.Rows.LCg
namespace Mine

abbrev boxO (sl : Addr) (c : Int) (t : Tok) (e : Nat) : Obj := listOf #[.ref sl, .int c t] e

theorem draw_fin {h₀ h g' h' : Heap} {L L' b : Addr} {news pre post : Led} {o o' : Obj} {m' : PySem.Str → Option Value} (hN : ∀ p ∈ news, h.get? p.1 = some p.2 ∧ p.1 ≠ L ∧ h₀.get? p.1 = none) (e0 : news = pre ++ (b, o) :: post) (x1 : ∀ p ∈ pre, p.1 ≠ b) (x2 : ∀ p ∈ post, p.1 ≠ b)
    (g0 : ∀ b' o, b' ≠ b → h.get? b' = some o → g'.get? b' = some o) (F : Fr g' L' h' m') (N : News g' L' h' [(b, o')]) : News h₀ L h' (pre ++ (b, o') :: post) := by
  intro p hp
  rcases List.mem_append.mp hp with hp | hp
  · have z := hN p (by rw [e0]; exact List.mem_append_left _ hp)
    exact ⟨F.keep _ _ (g0 _ _ (x1 p hp) z.1), z.2⟩
  · rcases List.mem_cons.mp hp with rfl | hp
    · have z := hN (b, o) (by rw [e0]; exact List.mem_append_right _ (.head _))
      exact ⟨(N _ (.head _)).1, z.2⟩
    · have z := hN p (by rw [e0]; exact List.mem_append_right _ (.tail _ hp))
      exact ⟨F.keep _ _ (g0 _ _ (x2 p hp) z.1), z.2⟩
theorem isList_keeps {h h' : Heap} {l : Addr} {its : Array Value} (K : h.IsList l its) (st : h.StaysIn h') : h'.IsList l its := let ⟨o, e, r⟩ := K; ⟨o, st _ _ e, r⟩
theorem ints_len : ∀ {vs : List Value} {ns : List Int}, IntsAre vs ns → vs.length = ns.length
  | _, _, .nil => rfl
  | _, _, .cons _ _ r => congrArg (· + 1) (ints_len r)
theorem len_sv {prog : Program} {w : World} {A : Around} {E : Value → Shared → Prop} {s : Shared} {l : Addr} {sv : List Value} {ns : List Int} {Q : Value → Shared → Prop} (hl : s.heap.IsList l sv.toArray) (hi : IntsAre sv ns) (hz : ns.length ≤ 30)
    (h : Q (.int ns.length (s.toks + 1)) { s with toks := s.toks + 1 + 1 }) : wpAny (model prog w) A (call (.builtin "len") [.ref l]) Q E s := by
  have e : (sv.toArray.size : Int) = ns.length := by rw [List.size_toArray, ints_len hi]
  exact call_len_list hl (by rw [e]; omega) (by rw [e]; exact h)

set_option maxRecDepth 100000 in
set_option maxHeartbeats 8000000 in
theorem draw_call {w : World} {p : Program} {loose : List PySem.Str} {mg mb : PySem.Str → Option Value} {mean : ExcName → Option Value} {A₀ : Around} {base h₀ : Heap} {outer : List Env} {L : Addr} {m : PySem.Str → Option Value} {s : Shared} {Q E : Value → Shared → Prop}
   {dp un : Nat} {gd : Option (List Code)} {cn : PySem.Str} {cs : PySem.Scope} {a : Addr} {ccd : Value} {cl : List (PySem.Str × Addr)}
   (B : Below A₀ base outer h₀) (F : Fr h₀ L s.heap m) (X : (hd.heap_39 w.params).In h₀)
   (T : Top p loose mean mg mb h₀) (hk : cs.kind = .function) (hd1 : dp + 5 < recursionLimit) (hu : un + 50 < cLine)
   {news : Led} {g : Obj → Led} {b sl : Addr} {c many : Int} {t tm : Tok} {e n : Nat} {oS : Obj} {sv : List Value} {ns : List Int}
   (N : News h₀ L s.heap news) (U : UpdF b (boxO sl c t e) news g) (hsb : @Ne Nat sl b) (hs : (sl, oS) ∈ news) (hsc : oS.cls = .type "list") (hsd : oS.data = .seq sv.toArray n) (hsv : IntsAre sv ns) (hlen : ns.length ≤ 30) (c0 : 0 ≤ c) (hm : 0 < many)
   (ret : ∀ h' tk' v t' e' t'', Fr h₀ L h' m → News h₀ L h' (g (boxO sl (c + 1) t' e')) → 0 ≤ v → v < many → Q (.int v t'') { s with heap := h', toks := tk' }) :
   wpAny (model PySem.Challenge.rw_rh0193_01.row.prog w) (ktrTop dp un gd cn cs L a ccd cl outer) (call (.ref 58) [.ref b, .int many tm]) Q E s := by
  k_with_none
  k_with "k_ne" => (refine neN ?_; (try dsimp only); first | (with_reducible first | assumption | exact Ne.symm (by assumption) | exact Nat.ne_of_gt (And.left (by assumption)) | exact Nat.ne_of_lt (And.left (by assumption)) | exact Nat.ne_of_gt (And.left (And.right (by assumption))) | exact Nat.ne_of_lt (And.left (And.right (by assumption))) | exact Nat.ne_of_gt (And.left (And.right (And.right (by assumption)))) | exact Nat.ne_of_lt (And.left (And.right (And.right (by assumption)))) | exact Nat.ne_of_gt (And.left (And.right (And.right (And.right (by assumption))))) | exact Nat.ne_of_lt (And.left (And.right (And.right (And.right (by assumption))))) | exact Nat.ne_of_gt (And.left (And.right (And.right (And.right (And.right (by assumption)))))) | exact Nat.ne_of_lt (And.left (And.right (And.right (And.right (And.right (by assumption)))))) | exact Nat.ne_of_gt (And.left (And.right (And.right (And.right (And.right (And.right (by assumption))))))) | exact Nat.ne_of_lt (And.left (And.right (And.right (And.right (And.right (And.right (by assumption))))))) | exact Nat.ne_of_gt (And.left (And.right (And.right (And.right (And.right (And.right (And.right (by assumption)))))))) | exact Nat.ne_of_lt (And.left (And.right (And.right (And.right (And.right (And.right (And.right (by assumption)))))))) | exact Nat.ne_of_gt (And.left (And.right (And.right (And.right (And.right (And.right (And.right (And.right (by assumption))))))))) | exact Nat.ne_of_lt (And.left (And.right (And.right (And.right (And.right (And.right (And.right (And.right (by assumption))))))))) | exact Nat.ne_of_gt (And.left (And.right (And.right (And.right (And.right (And.right (And.right (And.right (And.right (by assumption)))))))))) | exact Nat.ne_of_lt (And.left (And.right (And.right (And.right (And.right (And.right (And.right (And.right (And.right (by assumption)))))))))) | exact Nat.ne_of_gt (And.left (And.right (And.right (And.right (And.right (And.right (And.right (And.right (And.right (And.right (by assumption))))))))))) | exact Nat.ne_of_lt (And.left (And.right (And.right (And.right (And.right (And.right (And.right (And.right (And.right (And.right (by assumption))))))))))) | exact Nat.ne_of_gt (And.left (And.right (And.right (And.right (And.right (And.right (And.right (And.right (And.right (And.right (And.right (by assumption)))))))))))) | exact Nat.ne_of_lt (And.left (And.right (And.right (And.right (And.right (And.right (And.right (And.right (And.right (And.right (And.right (by assumption)))))))))))) | exact Nat.ne_of_gt (And.left (And.right (And.right (And.right (And.right (And.right (And.right (And.right (And.right (And.right (And.right (And.right (by assumption))))))))))))) | exact Nat.ne_of_lt (And.left (And.right (And.right (And.right (And.right (And.right (And.right (And.right (And.right (And.right (And.right (And.right (by assumption))))))))))))) | exact Nat.ne_of_gt (And.left (And.right (And.right (And.right (And.right (And.right (And.right (And.right (And.right (And.right (And.right (And.right (And.right (by assumption)))))))))))))) | exact Nat.ne_of_lt (And.left (And.right (And.right (And.right (And.right (And.right (And.right (And.right (And.right (And.right (And.right (And.right (And.right (by assumption)))))))))))))) | exact Nat.ne_of_gt (And.left (And.right (And.right (And.right (And.right (And.right (And.right (And.right (And.right (And.right (And.right (And.right (And.right (And.right (by assumption))))))))))))))) | exact Nat.ne_of_lt (And.left (And.right (And.right (And.right (And.right (And.right (And.right (And.right (And.right (And.right (And.right (And.right (And.right (And.right (by assumption))))))))))))))) | exact Nat.ne_of_gt (And.left (And.right (And.right (And.right (And.right (And.right (And.right (And.right (And.right (And.right (And.right (And.right (And.right (And.right (And.right (by assumption)))))))))))))))) | exact Nat.ne_of_lt (And.left (And.right (And.right (And.right (And.right (And.right (And.right (And.right (And.right (And.right (And.right (And.right (And.right (And.right (And.right (by assumption)))))))))))))))) | exact Nat.ne_of_gt (by assumption) | exact Nat.ne_of_lt (by assumption)) | omega)
  k_with "call builtin:len" => (k_here; k_dflt (refine' len_sv ?ml ?mi ?mz ?_; (case ml => exact isList_keeps (by assumption) (Fr.keep (by k_asm))); (case mi => assumption); (case mz => assumption)))
  k_with "subscriptTail" => (k_here; k_dflt (refine' item_list_ints ?ml ?mi ?m0 ?m1 ?mf ?_ ?ms ?mg; (case ml => exact isList_keeps (by assumption) (Fr.keep (by k_asm))); (case mi => assumption); (case m0 => omega); (case m1 => omega); (case mf => omega); (case ms => with_unfolding_all rfl); (case mg => (intro _; with_unfolding_all rfl))); intro _)
  w_top off
  revert X; k_fill; intro X
  obtain ⟨pre, post, e0, hg, x1, x2⟩ := U.split
  have mb : (b, boxO sl c t e) ∈ news := by rw [e0]; exact List.mem_append_right _ (.head _)
  have N1 : News h₀ L s.heap [(b, boxO sl c t e)] := News.sub N fun p hp => by rw [List.mem_singleton.mp hp]; exact mb
  refine wpAny_call ?_
  (k_dflt (refine' code_defG (news := [(b, boxO sl c t e)]) ?k1 ?k2 ?k3 ?k4 ?k5 ?kA ?kF ?kK ?k6 ?k7 ?k8 ?k9 ?kB ?_ ?c2 ?c3 ?c4 ?c5; (case kA => exact rfl); (case kF => exact rfl); (case kK => assumption); (case k1 => k_asm); (case k2 => k_asm); (case k3 => k_asm); (case k4 => exact N1); (case k5 => k_asm); (case k6 => k_is); (case k7 => k_is); (case k8 => ktr_room); (case k9 => exact BindsTo.of_eq rfl); (case c5 => decide); (case kB => exact locs rfl); (case c2 => exact rfl); (case c3 => exact rfl); (case c4 => exact rfl)))
  intro g' L' h' FG' F' N' B' X' T' GS
  dsimp only
  (try k_fold)
  have g0 : ∀ b' o, b' ≠ b → s.heap.get? b' = some o → g'.get? b' = some o := fun b' o hb e => GS b' o e (by simpa using hb)
  have hSl : g'.IsList sl sv.toArray := ⟨oS, g0 _ _ hsb (N _ hs).1, hsc, n, hsd⟩
  have hN : ∀ p ∈ news, s.heap.get? p.1 = some p.2 ∧ p.1 ≠ L ∧ h₀.get? p.1 = none := N
  clear N N1
  k_steps
  all_goals
    (rename Fr g' _ _ _ => Fz)
    (rename News g' _ _ _ => Nz)
    refine ret _ _ _ _ _ _ (FG'.keeps Fz.keep) (by rw [hg]; exact draw_fin hN e0 x1 x2 g0 Fz Nz) (Int.fmod_nonneg_of_pos _ hm) (Int.fmod_lt_of_pos _ hm)
end Mine

end

section
open PySem PySem.W PyProof.Rows PySem.Calls
open PyProof.Rows.LCg
namespace Mine

set_option maxRecDepth 100000 in
set_option maxHeartbeats 8000000 in
theorem row_call {w : World} {p : Program} {loose : List PySem.Str} {mg mb : PySem.Str → Option Value} {mean : ExcName → Option Value} {A₀ : Around} {base h₀ : Heap} {outer : List Env} {L : Addr} {m : PySem.Str → Option Value} {s : Shared} {Q E : Value → Shared → Prop}
   {dp un : Nat} {gd : Option (List Code)} {cn : PySem.Str} {cs : PySem.Scope} {a : Addr} {ccd : Value} {cl : List (PySem.Str × Addr)}
   (B : Below A₀ base outer h₀) (F : Fr h₀ L s.heap m) (X : (hd.heap_39 w.params).In h₀)
   (T : Top p loose mean mg mb h₀) (hk : cs.kind = .function) (hd1 : dp + 5 < recursionLimit) (hu : un + 50 < cLine)
   {age ls adv : Int} {t1 t2 t3 : Tok} {body : Addr}
   (ret : ∀ d e h' tk' u2 u3 u6 u7, s.heap.StaysIn h' → Fresh s.heap h' [(d, tupO [.ref e, .ref body]), (e, tupO [.int age t1, .int 2 u2, .int 1 u3, .int ls t2, .int adv t3, .int 9 u6, .int 0 u7])] → Q (.ref d) { s with heap := h', toks := tk' }) :
   wpAny (model PySem.Challenge.rw_rh0193_01.row.prog w) (ktrTop dp un gd cn cs L a ccd cl outer) (call (.ref 65) [.int age t1, .int ls t2, .int adv t3, .ref body]) Q E s := by
  k_with_none
  k_with "k_ne" => (refine neN ?_; (try dsimp only); first | (with_reducible first | assumption | exact Ne.symm (by assumption) | exact Nat.ne_of_gt (And.left (by assumption)) | exact Nat.ne_of_lt (And.left (by assumption)) | exact Nat.ne_of_gt (And.left (And.right (by assumption))) | exact Nat.ne_of_lt (And.left (And.right (by assumption))) | exact Nat.ne_of_gt (And.left (And.right (And.right (by assumption)))) | exact Nat.ne_of_lt (And.left (And.right (And.right (by assumption)))) | exact Nat.ne_of_gt (And.left (And.right (And.right (And.right (by assumption))))) | exact Nat.ne_of_lt (And.left (And.right (And.right (And.right (by assumption))))) | exact Nat.ne_of_gt (And.left (And.right (And.right (And.right (And.right (by assumption)))))) | exact Nat.ne_of_lt (And.left (And.right (And.right (And.right (And.right (by assumption)))))) | exact Nat.ne_of_gt (And.left (And.right (And.right (And.right (And.right (And.right (by assumption))))))) | exact Nat.ne_of_lt (And.left (And.right (And.right (And.right (And.right (And.right (by assumption))))))) | exact Nat.ne_of_gt (And.left (And.right (And.right (And.right (And.right (And.right (And.right (by assumption)))))))) | exact Nat.ne_of_lt (And.left (And.right (And.right (And.right (And.right (And.right (And.right (by assumption)))))))) | exact Nat.ne_of_gt (And.left (And.right (And.right (And.right (And.right (And.right (And.right (And.right (by assumption))))))))) | exact Nat.ne_of_lt (And.left (And.right (And.right (And.right (And.right (And.right (And.right (And.right (by assumption))))))))) | exact Nat.ne_of_gt (And.left (And.right (And.right (And.right (And.right (And.right (And.right (And.right (And.right (by assumption)))))))))) | exact Nat.ne_of_lt (And.left (And.right (And.right (And.right (And.right (And.right (And.right (And.right (And.right (by assumption)))))))))) | exact Nat.ne_of_gt (And.left (And.right (And.right (And.right (And.right (And.right (And.right (And.right (And.right (And.right (by assumption))))))))))) | exact Nat.ne_of_lt (And.left (And.right (And.right (And.right (And.right (And.right (And.right (And.right (And.right (And.right (by assumption))))))))))) | exact Nat.ne_of_gt (And.left (And.right (And.right (And.right (And.right (And.right (And.right (And.right (And.right (And.right (And.right (by assumption)))))))))))) | exact Nat.ne_of_lt (And.left (And.right (And.right (And.right (And.right (And.right (And.right (And.right (And.right (And.right (And.right (by assumption)))))))))))) | exact Nat.ne_of_gt (And.left (And.right (And.right (And.right (And.right (And.right (And.right (And.right (And.right (And.right (And.right (And.right (by assumption))))))))))))) | exact Nat.ne_of_lt (And.left (And.right (And.right (And.right (And.right (And.right (And.right (And.right (And.right (And.right (And.right (And.right (by assumption))))))))))))) | exact Nat.ne_of_gt (And.left (And.right (And.right (And.right (And.right (And.right (And.right (And.right (And.right (And.right (And.right (And.right (And.right (by assumption)))))))))))))) | exact Nat.ne_of_lt (And.left (And.right (And.right (And.right (And.right (And.right (And.right (And.right (And.right (And.right (And.right (And.right (And.right (by assumption)))))))))))))) | exact Nat.ne_of_gt (And.left (And.right (And.right (And.right (And.right (And.right (And.right (And.right (And.right (And.right (And.right (And.right (And.right (And.right (by assumption))))))))))))))) | exact Nat.ne_of_lt (And.left (And.right (And.right (And.right (And.right (And.right (And.right (And.right (And.right (And.right (And.right (And.right (And.right (And.right (by assumption))))))))))))))) | exact Nat.ne_of_gt (And.left (And.right (And.right (And.right (And.right (And.right (And.right (And.right (And.right (And.right (And.right (And.right (And.right (And.right (And.right (by assumption)))))))))))))))) | exact Nat.ne_of_lt (And.left (And.right (And.right (And.right (And.right (And.right (And.right (And.right (And.right (And.right (And.right (And.right (And.right (And.right (And.right (by assumption)))))))))))))))) | exact Nat.ne_of_gt (by assumption) | exact Nat.ne_of_lt (by assumption)) | omega)
  k_with "newTuple" => (k_here; k_dflt (refine' new_tup ?mF ?mN ?_ ?mz; (case mF => k_asm); (case mN => k_asm); (case mz => exact Nat.le_of_ble_eq_true rfl)); intro _ _ _ _ L9; (try k_lt L9); (try (revert L9; intro _)); (try k_sweep))
  k_with "subscriptTail Name Slice ref ref" => (k_here; k_dflt (refine' cut_tup ?mF ?mN ?mt ?mp ?mq ?ma ?mz ?my ?_ ?ms ?mg; (case mF => k_asm); (case mN => k_asm); (case mt => exact IsTup.keeps (by assumption) (Fr.keep (by k_asm))); (case mp => first | exact IsPart.none | exact IsPart.int _ _); (case mq => first | exact IsPart.none | exact IsPart.int _ _); (case ma => exact rfl); (case mz => kl_lit); (case my => exact Nat.le_of_ble_eq_true rfl); (case ms => with_unfolding_all rfl); (case mg => (intro _; with_unfolding_all rfl))); intro _ _ _ _ L9; (try k_lt L9); (try (revert L9; intro _)); (try k_sweep))
  w_top off
  revert X; k_fill; intro X
  refine wpAny_call ?_
  (k_dflt (refine' code_defG ?k1 ?k2 ?k3 ?k4 ?k5 ?kA ?kF ?kK ?k6 ?k7 ?k8 ?k9 ?kB ?_ ?c2 ?c3 ?c4 ?c5; (case kA => exact rfl); (case kF => exact rfl); (case kK => assumption); (case k1 => k_asm); (case k2 => k_asm); (case k3 => k_asm); (case k4 => exact News.nil); (case k5 => k_asm); (case k6 => k_is); (case k7 => k_is); (case k8 => ktr_room); (case k9 => exact BindsTo.of_eq rfl); (case c5 => decide); (case kB => exact locs rfl); (case c2 => exact rfl); (case c3 => exact rfl); (case c4 => exact rfl)))
  intro g' L' h' FG' F' N' B' X' T' GS
  dsimp only
  (try k_fold)
  have g0 : s.heap.StaysIn g' := fun b o e => GS b o e (by simp)
  k_steps
  (rename Fr g' _ _ _ => Fz)
  (rename News g' _ _ _ => Nz)
  exact ret _ _ _ _ _ _ _ _ (fun b o e => Fz.keep b o (g0 b o e)) (fresh_of g0 Nz)

set_option maxRecDepth 100000 in
set_option maxHeartbeats 8000000 in
theorem place_call {w : World} {p : Program} {loose : List PySem.Str} {mg mb : PySem.Str → Option Value} {mean : ExcName → Option Value} {A₀ : Around} {base h₀ : Heap} {outer : List Env} {L : Addr} {m : PySem.Str → Option Value} {s : Shared} {Q E : Value → Shared → Prop} {env : Env} {A : Around}
   (B : Below A₀ base outer h₀) (F : Fr h₀ L s.heap m) (X : (hd.heap_39 w.params).In h₀)
   (T : Top p loose mean mg mb h₀) (hA : A.frames = some (env :: outer)) (hf : env.frame = some L) (hke : env.scope.kind = .function) (hh : A.handled = none) (hd1 : A.depth + 5 < recursionLimit) (hu : A.units + 50 < cLine)
   {r : Addr} {R : RowD} (hr : RowAt s.heap (.ref r) R)
   (ret : ∀ d h' tk' u1 u2 u3, s.heap.StaysIn h' → Fresh s.heap h' [(d, tupO [.int 1 u1, .int R.ls u2, .int R.adv u3])] → Q (.ref d) { s with heap := h', toks := tk' }) :
   wpAny (model PySem.Challenge.rw_rh0193_01.row.prog w) A (call (.ref 72) [.ref r]) Q E s := by
  k_with_none
  k_with "k_ne" => (refine neN ?_; (try dsimp only); first | (with_reducible first | assumption | exact Ne.symm (by assumption) | exact Nat.ne_of_gt (And.left (by assumption)) | exact Nat.ne_of_lt (And.left (by assumption)) | exact Nat.ne_of_gt (And.left (And.right (by assumption))) | exact Nat.ne_of_lt (And.left (And.right (by assumption))) | exact Nat.ne_of_gt (And.left (And.right (And.right (by assumption)))) | exact Nat.ne_of_lt (And.left (And.right (And.right (by assumption)))) | exact Nat.ne_of_gt (And.left (And.right (And.right (And.right (by assumption))))) | exact Nat.ne_of_lt (And.left (And.right (And.right (And.right (by assumption))))) | exact Nat.ne_of_gt (And.left (And.right (And.right (And.right (And.right (by assumption)))))) | exact Nat.ne_of_lt (And.left (And.right (And.right (And.right (And.right (by assumption)))))) | exact Nat.ne_of_gt (And.left (And.right (And.right (And.right (And.right (And.right (by assumption))))))) | exact Nat.ne_of_lt (And.left (And.right (And.right (And.right (And.right (And.right (by assumption))))))) | exact Nat.ne_of_gt (And.left (And.right (And.right (And.right (And.right (And.right (And.right (by assumption)))))))) | exact Nat.ne_of_lt (And.left (And.right (And.right (And.right (And.right (And.right (And.right (by assumption)))))))) | exact Nat.ne_of_gt (And.left (And.right (And.right (And.right (And.right (And.right (And.right (And.right (by assumption))))))))) | exact Nat.ne_of_lt (And.left (And.right (And.right (And.right (And.right (And.right (And.right (And.right (by assumption))))))))) | exact Nat.ne_of_gt (And.left (And.right (And.right (And.right (And.right (And.right (And.right (And.right (And.right (by assumption)))))))))) | exact Nat.ne_of_lt (And.left (And.right (And.right (And.right (And.right (And.right (And.right (And.right (And.right (by assumption)))))))))) | exact Nat.ne_of_gt (And.left (And.right (And.right (And.right (And.right (And.right (And.right (And.right (And.right (And.right (by assumption))))))))))) | exact Nat.ne_of_lt (And.left (And.right (And.right (And.right (And.right (And.right (And.right (And.right (And.right (And.right (by assumption))))))))))) | exact Nat.ne_of_gt (And.left (And.right (And.right (And.right (And.right (And.right (And.right (And.right (And.right (And.right (And.right (by assumption)))))))))))) | exact Nat.ne_of_lt (And.left (And.right (And.right (And.right (And.right (And.right (And.right (And.right (And.right (And.right (And.right (by assumption)))))))))))) | exact Nat.ne_of_gt (And.left (And.right (And.right (And.right (And.right (And.right (And.right (And.right (And.right (And.right (And.right (And.right (by assumption))))))))))))) | exact Nat.ne_of_lt (And.left (And.right (And.right (And.right (And.right (And.right (And.right (And.right (And.right (And.right (And.right (And.right (by assumption))))))))))))) | exact Nat.ne_of_gt (And.left (And.right (And.right (And.right (And.right (And.right (And.right (And.right (And.right (And.right (And.right (And.right (And.right (by assumption)))))))))))))) | exact Nat.ne_of_lt (And.left (And.right (And.right (And.right (And.right (And.right (And.right (And.right (And.right (And.right (And.right (And.right (And.right (by assumption)))))))))))))) | exact Nat.ne_of_gt (And.left (And.right (And.right (And.right (And.right (And.right (And.right (And.right (And.right (And.right (And.right (And.right (And.right (And.right (by assumption))))))))))))))) | exact Nat.ne_of_lt (And.left (And.right (And.right (And.right (And.right (And.right (And.right (And.right (And.right (And.right (And.right (And.right (And.right (And.right (by assumption))))))))))))))) | exact Nat.ne_of_gt (And.left (And.right (And.right (And.right (And.right (And.right (And.right (And.right (And.right (And.right (And.right (And.right (And.right (And.right (And.right (by assumption)))))))))))))))) | exact Nat.ne_of_lt (And.left (And.right (And.right (And.right (And.right (And.right (And.right (And.right (And.right (And.right (And.right (And.right (And.right (And.right (And.right (by assumption)))))))))))))))) | exact Nat.ne_of_gt (by assumption) | exact Nat.ne_of_lt (by assumption)) | omega)
  k_with "newTuple" => (k_here; k_dflt (refine' new_tup ?mF ?mN ?_ ?mz; (case mF => k_asm); (case mN => k_asm); (case mz => exact Nat.le_of_ble_eq_true rfl)); intro _ _ _ _ L9; (try k_lt L9); (try (revert L9; intro _)); (try k_sweep))
  k_with "subscriptTail Name Slice ref ref" => (k_here; k_dflt (refine' cut_tup ?mF ?mN ?mt ?mp ?mq ?ma ?mz ?my ?_ ?ms ?mg; (case mF => k_asm); (case mN => k_asm); (case mt => exact IsTup.keeps (by assumption) (Fr.keep (by k_asm))); (case mp => first | exact IsPart.none | exact IsPart.int _ _); (case mq => first | exact IsPart.none | exact IsPart.int _ _); (case ma => exact rfl); (case mz => kl_lit); (case my => exact Nat.le_of_ble_eq_true rfl); (case ms => with_unfolding_all rfl); (case mg => (intro _; with_unfolding_all rfl))); intro _ _ _ _ L9; (try k_lt L9); (try (revert L9; intro _)); (try k_sweep))
  w_top off
  revert X; k_fill; intro X
  refine wpAny_call ?_
  (k_dflt (refine' code_defG ?k1 ?k2 ?k3 ?k4 ?k5 ?kA ?kF ?kK ?k6 ?k7 ?k8 ?k9 ?kB ?_ ?c2 ?c3 ?c4 ?c5; (case kA => assumption); (case kF => assumption); (case kK => assumption); (case k1 => k_asm); (case k2 => k_asm); (case k3 => k_asm); (case k4 => exact News.nil); (case k5 => k_asm); (case k6 => k_is); (case k7 => k_is); (case k8 => omega); (case k9 => exact BindsTo.of_eq rfl); (case c5 => decide); (case kB => exact locs rfl); (case c2 => exact rfl); (case c3 => exact rfl); (case c4 => exact rfl)))
  intro g' L' h' FG' F' N' B' X' T' GS
  dsimp only
  (try k_fold)
  have g0 : s.heap.StaysIn g' := fun b o e => GS b o e (by simp)
  obtain ⟨r', e, t1, t2, t3, t4, t5, t6, t7, he, ht1, ht2⟩ := hr
  obtain rfl : r = r' := by injection he
  have it1 := ht1.keeps g0
  have it2 := ht2.keeps g0
  k_steps
  (rename Fr g' _ _ _ => Fz)
  (rename News g' _ _ _ => Nz)
  exact ret _ _ _ _ _ _ (fun b o e => Fz.keep b o (g0 b o e)) (fresh_of g0 (News.sub Nz fun p hp => by rw [List.mem_singleton.mp hp]; exact .head _))
end Mine

end

section
open PySem PySem.W PyProof.Rows PySem.Calls
open PyProof.Rows.LCg
namespace Mine
theorem lk_keys : typeLookup (.type "list") "keys" = pure none := by rw [typeLookup_type, builtinLookup_eq_fast]; kernel_rfl
theorem sub_attr : isSubtype (.type "AttributeError") (.type "AttributeError") = pure true := by rw [isSubtype_type]; kernel_rfl
section
variable {prog : Program} {w : World} {A : Around} {E : Value → Shared → Prop} {s : Shared} {a : Addr}
set_option maxRecDepth 100000 in
theorem raise_attr {α : Type} {Q : α → Shared → Prop} (hh : A.handled = none) {name msg : PySem.Str} (hl : msg.length ≤ sizeLine) (hq : ∀ e h' t', (∀ b ob, s.heap.get? b = some ob → h'.get? b = some ob) → (⟨h', s.gens, s.drawn, t', s.os⟩ : Shared).TypeIs (.ref e) "AttributeError" → E (.ref e) { s with heap := h', toks := t' }) :
    wpAny (model prog w) A (raiseAttrError (.ref a) name msg) Q E s := by
  unfold raiseAttrError
  refine wpAny_bind ?_
  unfold mkStr
  rw [if_neg (by omega)]
  refine wpAny_bind ?_
  wp_step
  refine wpAny_pure ?_
  refine wpAny_bind ?_
  simp only [newExc, newTuple]
  refine wpAny_bind (wpAny_newObj_type ?_ (by size_fits))
  refine wpAny_bind (m := firstArgMember _ _) (wpAny_of_eq (a := Value.none) (by first | rfl | (simp only [firstArgMember]; rfl)) ?_)
  refine wpAny_newObj_type ?_ (by size_fits)
  refine wpAny_bind ?_
  wp_step
  refine wpAny_bind ?_
  wp_step
  refine wpAny_pure ?_
  refine wpAny_bind ?_
  dsimp only
  generalize hE : (Heap.push s.heap _) = H1
  have hg : (H1.push { cls := Value.type "AttributeError", data := Data.fields (#[Value.ref s.heap.objs.size, .none, .none, .none, .bool false, .none] ++ ownMembersOf (.type "AttributeError") [.str msg s.toks]) }).get? H1.objs.size = some { cls := Value.type "AttributeError", data := Data.fields (#[Value.ref s.heap.objs.size, .none, .none, .none, .bool false, .none] ++ ownMembersOf (.type "AttributeError") [.str msg s.toks]) } := Heap.get?_push_size _ rfl
  unfold noteAttr
  refine wpAny_bind ?_
  unfold lacksNameAndObj
  refine wpAny_bind (wpAny_isInstance (T := "AttributeError") (b := true) ⟨_, hg, rfl⟩ sub_attr ?_)
  simp only [Bool.not_true, Bool.false_eq_true, if_false]
  refine wpAny_bind (wpAny_load hg ?_)
  refine wpAny_of_eq (a := true) rfl ?_
  rw [if_pos rfl]
  refine wpAny_bind (wpAny_rule (wpAny_bind (wpAny_typeOf (T := "AttributeError") ⟨_, hg, rfl⟩ ?_)))
  unfold layMembers
  refine wpAny_bind (wpAny_load hg ?_)
  dsimp only
  refine wpAny_update hg ?_
  simp only [raiseNew]
  refine wpAny_bind (wpAny_handled ?_)
  rw [hh]
  refine wpAny_bind (wpAny_pure (wpAny_throw ?_))
  have up : ∀ b ob, s.heap.get? b = some ob → H1.get? b = some ob := fun b ob e => by rw [← hE]; exact Heap.get?_push_of_some _ e
  refine hq _ _ _ (fun b ob e => ?_) ⟨_, Heap.get?_update_self _ hg rfl, rfl⟩
  exact (Heap.get?_update_other _ _ (Ne.symm (Nat.ne_of_lt (Heap.lt_size (up b ob e))))).trans (Heap.get?_push_of_some _ (up b ob e))
end
theorem lk_hook : typeLookup (.type "list") "__getattr__" = pure none := by rw [typeLookup_type, builtinLookup_eq_fast]; kernel_rfl
section
variable {prog : Program} {w : World} {A : Around} {E : Value → Shared → Prop} {h : Heap} {g : Array GenState} {d : Drawn} {t : Nat} {os : OsState} {a : Addr} {its : Array Value} {n : Nat}
set_option maxRecDepth 100000 in
theorem keys_entry (hh : A.handled = none) {tk : Tok} {Q : PySem.Fin → Shared → Prop} (hx : h.get? a = some { cls := .type "list", data := .seq its n }) (hq : ∀ e h' t', (∀ b ob, h.get? b = some ob → h'.get? b = some ob) → (⟨h', g, d, t', os⟩ : Shared).TypeIs (.ref e) "AttributeError" → E (.ref e) ⟨h', g, d, t', os⟩) :
    wpAny (model prog w) A (Builtin.«object.__getattribute__» ⟨[.ref a, .str "keys" tk], []⟩) Q E ⟨h, g, d, t, os⟩ := by
  have hT : (⟨h, g, d, t, os⟩ : Shared).TypeIs (.ref a) "list" := ⟨_, hx, rfl⟩
  have f4 := lk_keys
  repeat (any_goals (first | assumption | wp_step))
  exact raise_attr hh (by rw [sizeLine_eq]; exact Nat.le_of_ble_eq_true (by kernel_rfl)) hq

theorem keys_call (hh : A.handled = none) {tk : Tok} {R : Result → Shared → Prop} (hx : h.get? a = some { cls := .type "list", data := .seq its n }) (hq : ∀ e h' t', (∀ b ob, h.get? b = some ob → h'.get? b = some ob) → (⟨h', g, d, t', os⟩ : Shared).TypeIs (.ref e) "AttributeError" → R (.error (.ref e)) ⟨h', g, d, t', os⟩) :
    codeAny (model prog w) A (.call (.builtin "list.__getattribute__") ⟨[.ref a, .str "keys" tk], []⟩) R ⟨h, g, d, t, os⟩ :=
  codeAny_call_builtin PySem.F.slot_list_getattribute.plain PySem.F.entry_list_ga (PySem.F.slot_list_getattribute.check _ _ _ _ _ _ _ _ (show (⟨h, g, d, t, os⟩ : Shared).TypeIs (.ref a) "list" from ⟨_, hx, rfl⟩) (PySem.F.args_list_getattribute_2 _ _) (keys_entry (A := A.in1) hh hx hq))

theorem keys_by (hh : A.handled = none) {tk : Tok} {Q : Value → Shared → Prop} (hx : h.get? a = some { cls := .type "list", data := .seq its n }) (hq : ∀ e h' t', (∀ b ob, h.get? b = some ob → h'.get? b = some ob) → (⟨h', g, d, t', os⟩ : Shared).TypeIs (.ref e) "AttributeError" → E (.ref e) ⟨h', g, d, t', os⟩) :
    wpAny (model prog w) A (getAttrBy (.ref a) (.str "keys" tk) false) Q E ⟨h, g, d, t, os⟩ := by
  have hT : (⟨h, g, d, t, os⟩ : Shared).TypeIs (.ref a) "list" := ⟨_, hx, rfl⟩
  have f2 := PySem.F.slot_list_getattribute.lookup
  have f3 := PySem.F.slot_list_getattribute.bind (.ref a)
  repeat (any_goals (first | assumption | wp_step))
  refine keys_call hh hx fun e h' t' hk hT' => ?_
  show wpAny _ _ (getattributeRaised _ _ _ _ _ _ _) _ _ _
  unfold getattributeRaised
  refine wpAny_bind (wpAny_isInstance (T := "AttributeError") (b := true) hT' sub_attr ?_)
  rw [if_pos rfl]
  have f8 := lk_hook
  refine wpAny_bind (wpAny_of_eq (a := none) (by show (if onTheHeap (Value.type "list") then _ else _) = _; exact lk_hook) ?_)
  unfold hookOrError attributeErrorLeaves
  simp only [Bool.not_false, if_true]
  exact wpAny_bind (wpAny_throw (hq e h' t' hk hT'))

theorem keys_attr (hh : A.handled = none) {Q : Option Value → Shared → Prop} (hx : h.get? a = some { cls := .type "list", data := .seq its n }) (hq : ∀ h' t', (∀ b ob, h.get? b = some ob → h'.get? b = some ob) → Q none ⟨h', g, d, t', os⟩) :
    wpAny (model prog w) A (getAttr? (.ref a) "keys") Q E ⟨h, g, d, t, os⟩ := by
  unfold getAttr? getAttrBy?
  refine wpAny_bind ?_
  wp_step
  refine wpAny_bind ?_
  wp_step
  refine wpAny_pure ?_
  refine wpAny_bind (wpAny_attempt ?_)
  refine keys_by hh hx fun e h' t' hk hT' => ?_
  show wpAny _ _ (isInstance _ _ >>= _) _ _ _
  refine wpAny_bind (wpAny_isInstance (T := "AttributeError") (b := true) hT' sub_attr ?_)
  rw [if_pos rfl]
  exact wpAny_pure (hq h' t' hk)
end
end Mine

end

section
open PySem PySem.W PyProof.Rows PySem.Calls
open PyProof.Rows.LCg
namespace Mine
theorem entry_upd : entryFor table "dict.update.loop" = some Builtin.«dict.update.loop» := entryFor_of_tree (by kernel_rfl)
theorem plain_upd : plainId "dict.update.loop" = true := by decide +kernel

section
variable {prog : Program} {w : World} {A : Around} {s : Shared} {R : Result → Shared → Prop} {I l d : Addr} {n : Nat} {P : Nat → Value → Prop} {St : Nat → Heap → Prop} {hb : Heap}
theorem upd_loop (W : Walks prog w A.in1 I [I, l] [I] n P St) (DS : Nat → Heap → Prop) (res : Value) (hId : d ≠ I) (hld : d ≠ l)
    (pr : ∀ i v, i < n → P i v → ∃ a k x, v = .ref a ∧ hb.IsTuple a #[k, x] ∧ a ≠ I ∧ a ≠ d)
    (frame : ∀ i h h', DS i h → (∀ b o, b ≠ I → h.get? b = some o → h'.get? b = some o) → DS i h')
    (set : ∀ i a k x (s' : Shared) (Q : Unit → Shared → Prop) (E : Value → Shared → Prop), i < n → P i (.ref a) → hb.IsTuple a #[k, x] → DS i s'.heap → (∀ b o, b ≠ I → b ≠ d → hb.get? b = some o → s'.heap.get? b = some o) →
      (∀ h' tk, DS (i + 1) h' → Heap.SameBut d s'.heap h' → Q () { s' with heap := h', toks := tk }) → wpAny (model prog w) A.in1 (dictSet d k x) Q E s') :
    ∀ (k i : Nat) (s : Shared) (c : Int), n - i = k → i ≤ n → St i s.heap → DS i s.heap → (∀ b o, b ≠ I → b ≠ d → hb.get? b = some o → s.heap.get? b = some o) →
    (∀ h' tk, DS n h' → (∀ b o, b ≠ I → b ≠ d → hb.get? b = some o → h'.get? b = some o) → R (.ok (.ret res)) { s with heap := h', toks := tk }) →
    codeAny (model prog w) A (.builtin "dict.update.loop" ⟨[.ref d, .ref I, rawInt c, res], []⟩) R s := by
  intro k
  induction k with
  | zero =>
    intro i s c hk hi hst hds hkeep hR
    have hin : i = n := by omega
    subst hin
    refine codeAny_builtin entry_upd ?_
    rw [Around.under_plainId plain_upd _]
    show wpAny _ A.in1 (pyNext (.ref I) >>= _) _ _ s
    refine wpAny_bind (W.done s _ _ hst fun h' tk hm => ?_)
    show wpAny _ _ (Builtin.Dict.addKeywords d [] >>= _) _ _ _
    refine wpAny_bind (wpAny_pure (wpAny_pure (hR h' tk (frame _ _ _ hds fun b o hb e => hm b o (by simpa using hb) e) fun b o h1 h2 e => hm b o (by simpa using h1) (hkeep b o h1 h2 e))))
  | succ k ih =>
    intro i s c hk hi hst hds hkeep hR
    have hlt : i < n := by omega
    refine codeAny_builtin entry_upd ?_
    rw [Around.under_plainId plain_upd _]
    show wpAny _ A.in1 (pyNext (.ref I) >>= _) _ _ s
    refine wpAny_bind (W.item i s _ _ hlt hst fun v h' tk hP hst' hm => ?_)
    obtain ⟨a, kk, x, rfl, ht, haI, had⟩ := pr i v hlt hP
    have hkeep' : ∀ b o, b ≠ I → b ≠ d → hb.get? b = some o → h'.get? b = some o := fun b o h1 h2 e => hm b o (by simpa using h1) (hkeep b o h1 h2 e)
    obtain ⟨o, ho, hc, e, hd⟩ := ht
    have ho' := hkeep' a o haI had ho
    refine wpAny_bind ?_
    refine wpAny_holding (wpAny_bind (wpAny_tryCatch ?_))
    unfold Builtin.Dict.pairItems
    refine wpAny_bind (wpAny_typeOf (T := "tuple") ⟨o, ho', hc⟩ ?_)
    rw [if_pos (by decide)]
    refine wpAny_bind (wpAny_seqItems ho' hd (wpAny_pure ?_))
    show wpAny _ _ (holding [kk, x] (dictSet d kk x)) _ _ _
    refine wpAny_holding (set i a kk x _ _ _ hlt hP ⟨o, ho, hc, e, hd⟩ (frame _ _ _ hds fun b o hb e => hm b o (by simpa using hb) e) hkeep' fun h'' tk'' hds' hs => ?_)
    refine wpAny_pure ⟨plainId_quiet plain_upd _, ?_⟩
    exact ih (i + 1) { s with heap := h'', toks := tk'' } (c + 1) (by omega) hlt (W.frame _ _ _ hst' fun b hb o e => hs.extBut b o (fun q => by
      rcases List.mem_cons.mp hb with h1 | h1
      · exact hId (q.symm.trans h1)
      · exact hld (q.symm.trans (List.mem_singleton.mp h1))) e) hds' (fun b o h1 h2 e => hs.extBut b o h2 (hkeep' b o h1 h2 e)) hR

variable {E : Value → Shared → Prop} {its : Array Value} {vs : List Value} {e : Nat}
theorem dict_pairs {Q : Value → Shared → Prop} (hh : A.handled = none) (hl : s.heap.get? l = some { cls := .type "list", data := .seq vs.toArray e }) (DS : Nat → Heap → Prop)
    (pr : ∀ (i : Nat) (v : Value), vs[i]? = some v → ∃ (a : Addr) (k x : Value), v = .ref a ∧ s.heap.IsTuple a #[k, x]) (base : DS 0 (s.heap.push { cls := .type "dict", data := .dict #[] }))
    (frame : ∀ i h h', DS i h → (∀ b o, b ≤ s.heap.objs.size → h.get? b = some o → h'.get? b = some o) → DS i h')
    (set : ∀ i a k x (s' : Shared) (Q : Unit → Shared → Prop) (E : Value → Shared → Prop), vs[i]? = some (.ref a) → s.heap.IsTuple a #[k, x] → DS i s'.heap → (∀ b o, s.heap.get? b = some o → s'.heap.get? b = some o) →
      (∀ h' tk, DS (i + 1) h' → Heap.SameBut s.heap.objs.size s'.heap h' → Q () { s' with heap := h', toks := tk }) → wpAny (model prog w) A.in1.in1 (dictSet s.heap.objs.size k x) Q E s')
    (fin : ∀ h' tk, DS vs.length h' → (∀ b o, s.heap.get? b = some o → h'.get? b = some o) → Q (.ref s.heap.objs.size) { s with heap := h', toks := tk }) :
    wpAny (model prog w) A (call (.type "dict") [.ref l]) Q E s := by
  refine callType_codes (Q₁ := fun obj s₁ => obj = .ref s.heap.objs.size ∧ s₁ = { s with heap := s.heap.push { cls := .type "dict", data := .dict #[] } }) PySem.F.kt_called_dict (PySem.F.kt_typeCall_dict_1 _) PySem.F.entry_dict_init (kt_code_dict_new _ ⟨rfl, rfl⟩) ?_
  rintro obj s₁ ⟨rfl, rfl⟩
  have hd : (s.heap.push { cls := .type "dict", data := .dict #[] }).get? s.heap.objs.size = some { cls := .type "dict", data := .dict #[] } := Heap.get?_push_size _ rfl
  have hl1 : (s.heap.push { cls := .type "dict", data := .dict #[] }).get? l = some { cls := .type "list", data := .seq vs.toArray e } := Heap.get?_push_of_some _ hl
  have hT : ({ s with heap := s.heap.push { cls := .type "dict", data := .dict #[] } } : Shared).TypeIs (.ref s.heap.objs.size) "dict" := ⟨_, hd, rfl⟩
  refine ⟨hT, PySem.F.args_dict_init_2 _ _, ?_⟩
  unfold Builtin.«dict.__init__»
  refine wpAny_bind ?_
  unfold Builtin.Dict.selfAndRest
  refine wpAny_bind (wpAny_notOrdered_dict hT ?_)
  show wpAny _ _ (pure (s.heap.objs.size, [Value.ref l])) _ _ _
  refine wpAny_pure ?_
  show wpAny _ _ (Builtin.Dict.updateFrom "dict.__init__" s.heap.objs.size (.ref l) [] .none) _ _ _
  unfold Builtin.Dict.updateFrom
  refine wpAny_bind (wpAny_typeOf (T := "list") ⟨_, hl1, rfl⟩ ?_)
  rw [if_pos (by decide)]
  refine wpAny_bind (keys_attr (A := A.in1.in1) hh hl1 fun h2 tk2 hk2 => ?_)
  simp only [Option.isNone_none, if_true]
  refine wpAny_bind (wpAny_rule ?_)
  have hl2 := hk2 _ _ hl1
  have hd2 := hk2 _ _ hd
  have hil : h2.IsList l vs.toArray := ⟨_, hl2, rfl, _, rfl⟩
  refine wpAny_bind (wpAny_pyIter_list hil ?_)
  refine wpAny_pure ⟨plainId_quiet plain_upd _, ?_⟩
  have hne : l ≠ h2.objs.size := Nat.ne_of_lt (Heap.lt_size hl2)
  have hdI : s.heap.objs.size ≠ h2.objs.size := Nat.ne_of_lt (Heap.lt_size hd2)
  have hdl : s.heap.objs.size ≠ l := Ne.symm (Nat.ne_of_lt (Heap.lt_size hl))
  have up : ∀ b o, s.heap.get? b = some o → (h2.push { cls := .type "list_iterator", data := .fields #[.ref l, .int 0 0] }).get? b = some o := fun b o e => Heap.get?_push_of_some _ (hk2 _ _ (Heap.get?_push_of_some _ e))
  have W := Walks.list (prog := prog) (w := w) (A := A.in1.in1) hh h2.objs.size l hne vs.toArray
  have hlen : vs.toArray.size = vs.length := by simp
  rw [hlen] at W
  have lt2 : ∀ b o, s.heap.get? b = some o → b ≠ h2.objs.size ∧ b ≠ s.heap.objs.size := fun b o e => ⟨Nat.ne_of_lt (Heap.lt_size (hk2 _ _ (Heap.get?_push_of_some _ e))), Nat.ne_of_lt (Heap.lt_size e)⟩
  refine upd_loop (A := A.in1) (hb := s.heap) (n := vs.length) W DS .none hdI hdl (fun i v hi hP => ?_) (fun i h h' hds hk => frame i h h' hds fun b o hb e => hk b o ?_ e) (fun i a k x s' Q E hi hP ht hds hk h => ?_) (vs.length) 0 _ 0 (by omega) (Nat.zero_le _) ?_ ?_ ?_ ?_
  · obtain ⟨a, k, x, rfl, ht⟩ := pr i v (by simpa using hP)
    obtain ⟨o, ho, r⟩ := id ht
    exact ⟨a, k, x, rfl, ht, (lt2 a o ho).1, (lt2 a o ho).2⟩
  · intro q
    have h1 := Heap.lt_size hd2
    rw [q] at hb
    exact absurd h1 (Nat.not_lt.mpr hb)
  · exact set i a k x s' Q E (by simpa using hP) ht hds (fun b o e => hk b o (lt2 b o e).1 (lt2 b o e).2 e) h
  · exact ⟨⟨_, Heap.get?_push_size _ rfl, rfl, rfl⟩, hil.push _⟩
  · exact frame 0 _ _ base fun b o hb e => Heap.get?_push_of_some _ (hk2 _ _ e)
  · exact fun b o _ _ e => up b o e
  · exact fun h' tk hds hk => ⟨rfl, fin h' tk hds fun b o e => hk b o (lt2 b o e).1 (lt2 b o e).2 e⟩
end
end Mine

end

section
open PySem PySem.W PyProof.Rows PySem.Calls
open PyProof.Rows.LCg
namespace Mine
section
variable {prog : Program} {w : World} {A : Around} {E : Value → Shared → Prop} {s : Shared} {h₀ : Heap} {L l : Addr} {m : PySem.Str → Option Value} {news : Led} {vs : List Value} {e : Nat}

theorem newdict_news {o : Obj} {h' : Heap} (F : Fr h₀ L s.heap m) (N : News h₀ L s.heap news) (hk : ∀ b o, s.heap.get? b = some o → h'.get? b = some o) (ho : h'.get? s.heap.objs.size = some o) : Fr h₀ L h' m ∧ News h₀ L h' ((s.heap.objs.size, o) :: news) := by
  refine ⟨F.keeps hk, fun p hp => ?_⟩
  rcases List.mem_cons.mp hp with rfl | hp
  · refine ⟨ho, Ne.symm (Nat.ne_of_lt F.ns.lt), ?_⟩
    exact next_is_new F
  · exact ⟨hk _ _ (N p hp).1, (N p hp).2⟩

theorem dict_tup {xs : List (List Int × Addr × Value)} {Q : Value → Shared → Prop} (hh : A.handled = none) (hu : A.units + 5 < cLine) (F : Fr h₀ L s.heap m) (N : News h₀ L s.heap news) (hbig : sysModules < h₀.objs.size)
    (hl : (l, ({ cls := .type "list", data := .seq vs.toArray e } : Obj)) ∈ news) (hlen : vs.length = xs.length)
    (hp : ∀ (i : Nat) (v : Value) (x : List Int × Addr × Value), vs[i]? = some v → xs[i]? = some x → ∃ a n, v = .ref a ∧ Has h₀ news a (tupO [.ref x.2.1, x.2.2] n)) (K : KeysIn h₀ news xs) (hn : (xs.map (·.1)).Nodup) (hz : xs.length ≤ 1000)
    (h : ∀ d h' tk o, Fr h₀ L h' m → News h₀ L h' ((d, o) :: news) → (∀ p ∈ news, p.1 < d) → (d == sysModules) = false → DObj prog w o xs → Q (.ref d) { s with heap := h', toks := tk }) :
    wpAny (model prog w) A (call (.type "dict") [.ref l]) Q E s := by
  have hkey : ∀ x ∈ xs, ∀ h' : Heap, (∀ b o, s.heap.get? b = some o → h'.get? b = some o) → (tKnd prog w).is h' x.1 x.2.1 := fun x hx h' hk => by
    obtain ⟨o, H, ko⟩ := K x hx
    exact ko.key (hk _ _ (H.at F N))
  refine dict_pairs hh (N _ hl).1 (fun i h' => h'.DictOfH (tKnd prog w) s.heap.objs.size (xs.take i) ∧ ∀ b o, s.heap.get? b = some o → h'.get? b = some o) (fun i v hv => ?_) ?_ (fun i h1 h2 hd hk => ?_) (fun i a k x s' Q E hv ht hd hk hq => ?_) fun h' tk hd hk => ?_
  · obtain ⟨x, hx⟩ : ∃ x, xs[i]? = some x := ⟨_, List.getElem?_eq_getElem (by rw [← hlen]; exact (List.getElem?_eq_some_iff.mp hv).1)⟩
    obtain ⟨a, n, rfl, H⟩ := hp i v x hv hx
    exact ⟨a, _, _, rfl, _, H.at F N, rfl, _, rfl⟩
  · exact ⟨⟨_, #[], 0, Heap.get?_push_size _ rfl, ⟨rfl, rfl, rfl⟩, rfl, rfl, fun _ hx => (nomatch hx), List.nodup_nil⟩, fun b o e => Heap.get?_push_of_some _ e⟩
  · obtain ⟨⟨o, es, ep, ho, r1, r2, r3, _, r5⟩, hk1⟩ := hd
    have hk2 : ∀ b o, s.heap.get? b = some o → h2.get? b = some o := fun b o e => hk b o (Nat.le_of_lt (Heap.lt_size e)) (hk1 b o e)
    exact ⟨⟨o, es, ep, hk _ _ (Nat.le_refl _) ho, r1, r2, r3, fun y hy => hkey y (List.mem_of_mem_take hy) h2 hk2, r5⟩, hk2⟩
  · obtain ⟨y, hx⟩ : ∃ x, xs[i]? = some x := ⟨_, List.getElem?_eq_getElem (by rw [← hlen]; exact (List.getElem?_eq_some_iff.mp hv).1)⟩
    obtain ⟨a', n, e1, H⟩ := hp i _ y hv hx
    obtain rfl : a = a' := by injection e1
    obtain ⟨o, ho, _, n', hd'⟩ := ht
    rw [H.at F N] at ho
    cases ho
    have e2 : #[Value.ref y.2.1, y.2.2] = #[k, x] := by injection hd'
    have e3 : k = .ref y.2.1 ∧ x = y.2.2 := by
      have := congrArg Array.toList e2
      simp at this
      exact ⟨this.1.symm, this.2.symm⟩
    obtain ⟨rfl, rfl⟩ := e3
    have hyn : atKey (xs.take i) y.1 = none := key_new (keys_take (f := id) (ys := xs.take i) (fun _ => rfl) hn hx rfl)
    refine wpAny_dictSet_heap (knd := tKnd prog w) (hsz := by rw [sizeLine_eq, List.length_take]; omega) (tupleKind_room_in1 (A := A.in1) (by show A.units + 1 + 1 < cLine; omega)) (hkey y (List.mem_of_getElem? hx) _ hk) hd.1 fun h' hd2 hs => hq h' _ ⟨?_, fun b o e => hs.extBut b o (Nat.ne_of_lt (Heap.lt_size e)) (hk b o e)⟩ hs
    rw [storedH_new hyn] at hd2
    rw [List.take_add_one, hx]
    exact hd2
  · rw [List.take_of_length_le (by omega)] at hd
    obtain ⟨o, ho, D⟩ := DObj.of hd.1
    obtain ⟨F', N'⟩ := newdict_news F N hk ho
    exact h _ h' tk o F' N' (fun p hp => Heap.lt_size (N p hp).1) (F.notModules hbig) D

theorem dict_int {kvs : List (Int × Value)} {Q : Value → Shared → Prop} (hh : A.handled = none) (F : Fr h₀ L s.heap m) (N : News h₀ L s.heap news) (hbig : sysModules < h₀.objs.size)
    (hl : (l, ({ cls := .type "list", data := .seq vs.toArray e } : Obj)) ∈ news) (hlen : vs.length = kvs.length)
    (hp : ∀ (i : Nat) (v : Value) (x : Int × Value), vs[i]? = some v → kvs[i]? = some x → ∃ a n t, v = .ref a ∧ Has h₀ news a (tupO [.int x.1 t, x.2] n)) (hn : (kvs.map (·.1)).Nodup) (hz : kvs.length ≤ 1000)
    (h : ∀ d h' tk o, Fr h₀ L h' m → News h₀ L h' ((d, o) :: news) → (∀ p ∈ news, p.1 < d) → (d == sysModules) = false → o.IsDictOf (PySem.intKind prog w) kvs → Q (.ref d) { s with heap := h', toks := tk }) :
    wpAny (model prog w) A (call (.type "dict") [.ref l]) Q E s := by
  refine dict_pairs hh (N _ hl).1 (fun i h' => h'.DictOf (PySem.intKind prog w) s.heap.objs.size (kvs.take i)) (fun i v hv => ?_) (Heap.DictOf.new s.heap) (fun i h1 h2 hd hk => ?_) (fun i a k x s' Q E hv ht hd hk hq => ?_) fun h' tk hd hk => ?_
  · obtain ⟨x, hx⟩ : ∃ x, kvs[i]? = some x := ⟨_, List.getElem?_eq_getElem (by rw [← hlen]; exact (List.getElem?_eq_some_iff.mp hv).1)⟩
    obtain ⟨a, n, t, rfl, H⟩ := hp i v x hv hx
    exact ⟨a, _, _, rfl, _, H.at F N, rfl, _, rfl⟩
  · obtain ⟨o, es, ep, ho, r⟩ := hd
    exact ⟨o, es, ep, hk _ _ (Nat.le_refl _) ho, r⟩
  · obtain ⟨y, hx⟩ : ∃ x, kvs[i]? = some x := ⟨_, List.getElem?_eq_getElem (by rw [← hlen]; exact (List.getElem?_eq_some_iff.mp hv).1)⟩
    obtain ⟨a', n, t, e1, H⟩ := hp i _ y hv hx
    obtain rfl : a = a' := by injection e1
    obtain ⟨o, ho, _, n', hd'⟩ := ht
    rw [H.at F N] at ho
    cases ho
    have e2 : #[Value.int y.1 t, y.2] = #[k, x] := by injection hd'
    have e3 : k = .int y.1 t ∧ x = y.2 := by
      have := congrArg Array.toList e2
      simp at this
      exact ⟨this.1.symm, this.2.symm⟩
    obtain ⟨rfl, rfl⟩ := e3
    refine wpAny_dictSet_pairs (knd := PySem.intKind prog w) (hsz := by rw [sizeLine_eq, List.length_take]; omega) (intKind_is prog w y.1 t) hd fun h' hd2 hs => hq h' _ ?_ hs
    rw [stored_new] at hd2
    · rw [List.take_add_one, hx]; exact hd2
    · intro h9
      obtain ⟨z, hz, e9⟩ := List.mem_map.mp h9
      obtain ⟨j, hj⟩ := List.getElem?_of_mem hz
      have hji : j < i := by
        have := (List.getElem?_eq_some_iff.mp hj).1
        rw [List.length_take] at this
        omega
      rw [List.getElem?_take_of_lt hji] at hj
      have a1 : (kvs.map (·.1))[j]? = some y.1 := by rw [List.getElem?_map, hj, ← e9]; rfl
      have a2 : (kvs.map (·.1))[i]? = some y.1 := by rw [List.getElem?_map, hx]; rfl
      obtain ⟨b1, c1⟩ := List.getElem?_eq_some_iff.mp a1
      obtain ⟨b2, c2⟩ := List.getElem?_eq_some_iff.mp a2
      have := (List.getElem_inj (h₀ := b1) (h₁ := b2) hn).mp (c1.trans c2.symm)
      omega
  · rw [List.take_of_length_le (by omega)] at hd
    obtain ⟨o, ho, D⟩ := Heap.dictOf_iff.mp hd
    obtain ⟨F', N'⟩ := newdict_news F N hk ho
    exact h _ h' tk o F' N' (fun p hp => Heap.lt_size (N p hp).1) (F.notModules hbig) D
end
end Mine

end

section
open PySem PySem.W PyProof.Rows PySem.Calls
open PyProof.Rows.LCg
namespace Mine
section
variable {prog : Program} {w : World} {A : Around} {E : Value → Shared → Prop} {s : Shared}

/-- each entry of the one stands in the other -/
def AllHit (A : Around) (s : Shared) (xs ys : List (List Int × Addr × Value)) : Prop := xs.length = ys.length ∧ ∀ x ∈ xs, ∃ p, atKey ys x.1 = some p ∧ SeqAt.EqAt A s x.2.2 p.2 true

/-- two dicts with tuple keys, each entry of the one in the other: one by one -/
theorem same_tup {nm : String} {a b : Addr} {xs ys : List (List Int × Addr × Value)} {Q : Bool → Shared → Prop} (na : (a == sysModules) = false) (nb : (b == sysModules) = false) (room : A.units + 1 < cLine)
    (da : s.heap.DictOfH (tKnd prog w) a xs) (db : s.heap.DictOfH (tKnd prog w) b ys) (hits : AllHit A s xs ys) (h : Q true s) : wpAny (model prog w) A (Builtin.Dict.samePairs nm a b) Q E s := by
  obtain ⟨oa, ea, pa, ga, -, ca, la, ka, -⟩ := da
  obtain ⟨ob, eb, pb, gb, -, cb, lb, kb, ub⟩ := db
  have za := size_of_entries la
  have zb := size_of_entries lb
  have even : (ea.size != eb.size) = false := by rw [za, zb, hits.1]; exact bne_self_eq_false _
  unfold Builtin.Dict.samePairs Builtin.Dict.showsAll
  simp only [na, nb, Bool.false_eq_true, if_false]
  refine wpAny_bind (wpAny_pure (wpAny_bind (wpAny_pure (wpAny_bind (wpAny_dictEntries ga ca (wpAny_bind (wpAny_dictEntries gb cb ?_)))))))
  simp only [even, Bool.false_eq_true, if_false]
  refine wpAny_bind (wpAny_dictEpoch ga ca (wpAny_bind ?_))
  rw [Std.Legacy.Range.forIn_eq_forIn_range']
  refine wpAny_forIn_list _ (fun left q s' => s' = s ∧ q = (none, ()) ∧ ∀ i ∈ left, i < ea.size) _ ?_ ?_ _ _ ⟨rfl, rfl, fun i hi => ?_⟩
  · rintro i left _ _ ⟨rfl, rfl, below⟩
    have hi := below i (.head _)
    obtain ⟨x, hx⟩ : ∃ x, xs[i]? = some x := ⟨_, List.getElem?_eq_getElem (za ▸ hi)⟩
    have mx := List.mem_of_getElem? hx
    obtain ⟨p, hp, same⟩ := hits.2 x mx
    refine wpAny_bind (wpAny_dictEntries ga ca ?_)
    rw [entry_at la i, hx]
    refine wpAny_bind (wpAny_holding (wpAny_bind (wpAny_dictFind_heap (knd := tKnd prog w) (show A.units < cLine by omega) (ka x mx) gb cb lb kb ub (fun none => ?_) fun j q hj => ?_)))
    · -- it is there
      rw [key_new fun y hy e => ?_] at hp
      · cases hp
      · obtain ⟨j, hj⟩ := List.getElem?_of_mem hy
        exact none j y.2 (by rw [hj, ← e])
    · obtain rfl : p = q := Option.some.inj (hp.symm.trans (xs_at (x := (x.1, q)) ub hj))
      refine wpAny_bind (wpAny_dictEntries gb cb ?_)
      rw [entry_at lb j, hj]
      refine wpAny_holding (same prog w _ _ ?_)
      refine wpAny_bind (wpAny_dictEpoch ga ca ?_)
      rw [if_neg (by simp)]
      exact wpAny_pure ⟨rfl, rfl, fun k hk => below k (.tail _ hk)⟩
  · rintro _ _ ⟨rfl, rfl, -⟩
    exact wpAny_pure h
  · simpa using hi

/-- such two dicts are not told apart -/
theorem tup_ne {a b : Addr} {xs ys : List (List Int × Addr × Value)} {Q : Value → Shared → Prop} (na : (a == sysModules) = false) (nb : (b == sysModules) = false) (room : A.units + 5 < cLine)
    (da : s.heap.DictOfH (tKnd prog w) a xs) (db : s.heap.DictOfH (tKnd prog w) b ys) (hits : AllHit A.in1 s xs ys) (h : Q (.bool false) s) : wpAny (model prog w) A (compareOp .NotEq (.ref a) (.ref b)) Q E s := by
  have ta := da.typeIs
  have tb := db.typeIs
  refine wpAny_richCompare_same_room (op := .NotEq) ta tb PySem.F.slot_dict_ne (wpAny_call_entry PySem.F.slot_dict_ne ta PySem.F.entry_dict_ne ?_ (PySem.F.args_dict_ne_2 _ _)) (by omega)
  refine wpAny_bind (wpAny_bind (wpAny_notOrdered_dict ta (wpAny_pure ?_)))
  refine wpAny_bind (wpAny_isInstance (T := "dict") tb PySem.F.sub_dict_dict ?_)
  rw [if_neg (by decide)]
  have step := same_tup (E := E) (nm := toString "dict." ++ toString "__ne__") (Q := fun r s' => wpAny (model prog w) A.in1 (ret (Value.bool (r == false))) (fun fin s' => ∃ v, fin = Fin.done (Flow.ret v) ∧ v ≠ Value.notImplemented ∧ Q v s') E s')
    na nb (show A.units + 1 + 1 < cLine by omega) da db hits (wpAny_pure ⟨_, rfl, by simp, h⟩)
  exact wpAny_bind (wpAny_pure (wpAny_bind (wpAny_pure (wpAny_bind step))))
end
end Mine

end

section
open PySem PySem.W PyProof.Rows PySem.Calls
open PyProof.Rows.LCg
namespace Mine
section
variable {A : Around} {s : Shared}
theorem all_true (n : Nat) : (List.range n).all (fun _ => true) = true := by simp
theorem tup_at {a b : Addr} {xs ys : Array Value} (ha : s.heap.IsTuple a xs) (hb : s.heap.IsTuple b ys) (hsz : xs.size = ys.size) (hu : A.units + 5 < cLine) (he : ∀ j (h1 : j < xs.size) (h2 : j < ys.size), SeqAt.EqAt A.in1 s xs[j] ys[j] true) : SeqAt.EqAt A s (.ref a) (.ref b) true := by
  by_cases h : a = b
  · subst h; exact SeqAt.EqAt.same _
  · have r := SeqAt.RcAt.tuples (A := A) (e := fun _ => true) ha hb (by omega) he
    rw [all_true, hsz] at r
    exact SeqAt.EqAt.of_refs h (by simpa using r)
theorem lst_at {a b : Addr} {xs ys : Array Value} (ha : s.heap.IsList a xs) (hb : s.heap.IsList b ys) (hsz : xs.size = ys.size) (hu : A.units + 5 < cLine) (he : ∀ j (h1 : j < xs.size) (h2 : j < ys.size), SeqAt.EqAt A.in1 s xs[j] ys[j] true) : SeqAt.EqAt A s (.ref a) (.ref b) true := by
  by_cases h : a = b
  · subst h; exact SeqAt.EqAt.same _
  · have r := SeqAt.RcAt.lists (A := A) (e := fun _ => true) ha hb hsz (by omega) he
    rw [all_true] at r
    exact SeqAt.EqAt.of_refs h r
theorem int_at (i : Int) (t u : Tok) : SeqAt.EqAt A s (.int i t) (.int i u) true := by
  have h := SeqAt.EqAt.int_int (A := A) (s := s) i t i u
  rwa [beq_self_eq_true] at h
theorem key_at {a b : Addr} {x y : Int} {t u t' u' : Tok} (ha : IsTup s.heap a #[.int x t, .int y u]) (hb : IsTup s.heap b #[.int x t', .int y u']) (hu : A.units + 5 < cLine) : SeqAt.EqAt A s (.ref a) (.ref b) true := by
  refine tup_at ha hb rfl hu fun j h1 h2 => ?_
  have hj : j = 0 ∨ j = 1 := by
    have : j < 2 := h1
    omega
  rcases hj with rfl | rfl
  · exact int_at _ _ _
  · exact int_at _ _ _
theorem link_at {v u : Value} {l : LnkD} (hv : LinkOut s.heap v l) (hu' : LinkOut s.heap u l) (hu : A.units + 6 < cLine) : SeqAt.EqAt A s v u true := by
  obtain ⟨a, k, t1, t2, t3, t4, rfl, H, H'⟩ := hv
  obtain ⟨b, k', u1, u2, u3, u4, rfl, J, J'⟩ := hu'
  refine tup_at H J rfl (by omega) fun j h1 h2 => ?_
  have hj : j = 0 ∨ j = 1 ∨ j = 2 := by
    have : j < 3 := h1
    omega
  rcases hj with rfl | rfl | rfl
  · exact key_at H' J' (by show A.units + 1 + 5 < cLine; omega)
  · exact int_at _ _ _
  · exact int_at _ _ _
theorem links_at {a b : Addr} {G : List LnkD} (ha : LinksOut s.heap a G) (hb : LinksOut s.heap b G) (hu : A.units + 8 < cLine) : SeqAt.EqAt A s (.ref a) (.ref b) true := by
  obtain ⟨vs, hl, h1, h2⟩ := ha
  obtain ⟨us, hl', h3, h4⟩ := hb
  refine lst_at hl hl' (by simp [h1, h3]) (by omega) fun j j1 j2 => ?_
  have k1 : j < vs.length := by simpa using j1
  have k2 : j < us.length := by simpa using j2
  obtain ⟨l, hl⟩ : ∃ l, G[j]? = some l := ⟨_, List.getElem?_eq_getElem (by omega)⟩
  refine link_at (l := l) (h2 j _ l ?_ hl) (h4 j _ l ?_ hl) (by show A.units + 1 + 6 < cLine; omega)
  · simp [k1]
  · simp [k2]
theorem route_at {a b q q' k k' : Addr} {x f own : Int} {t1 t2 t3 t4 u1 u2 u3 u4 : Tok} (ha : IsTup s.heap a #[.int x t1, .ref q, .int f t2]) (hq : IsTup s.heap q #[.ref k]) (hk : IsTup s.heap k #[.int 1 t3, .int own t4])
    (hb : IsTup s.heap b #[.int x u1, .ref q', .int f u2]) (hq' : IsTup s.heap q' #[.ref k']) (hk' : IsTup s.heap k' #[.int 1 u3, .int own u4]) (hu : A.units + 8 < cLine) : SeqAt.EqAt A s (.ref a) (.ref b) true := by
  refine tup_at ha hb rfl (by omega) fun j h1 h2 => ?_
  have hj : j = 0 ∨ j = 1 ∨ j = 2 := by
    have : j < 3 := h1
    omega
  rcases hj with rfl | rfl | rfl
  · exact int_at _ _ _
  · refine tup_at hq hq' rfl (by show A.units + 1 + 5 < cLine; omega) fun j h1 h2 => ?_
    have hj : j = 0 := by
      have : j < 1 := h1
      omega
    subst hj
    exact key_at hk hk' (by show A.units + 1 + 1 + 5 < cLine; omega)
  · exact int_at _ _ _
theorem hits_true {ka kb : List (Int × Value)} (h : ∀ kv ∈ ka, ∃ y, valueAt kb kv.1 = some y ∧ SeqAt.EqAt A s kv.2 y true) : KeqHits A s kb ka true := by
  induction ka with
  | nil => exact .nil
  | cons kv r ih =>
    obtain ⟨y, h1, h2⟩ := h kv (.head _)
    exact KeqHits.hit (e := true) (b := true) h1 h2 (ih fun kv' h' => h kv' (.tail _ h'))
theorem value_at {kvs : List (Int × Value)} {k : Int} {v : Value} (hn : (kvs.map (·.1)).Nodup) (h : (k, v) ∈ kvs) : valueAt kvs k = some v := by
  unfold valueAt
  induction kvs with
  | nil => cases h
  | cons y r ih =>
    rw [List.map_cons, List.nodup_cons] at hn
    by_cases hy : y.1 = k
    · rcases List.mem_cons.mp h with rfl | hm
      · simp
      · exact absurd (hy ▸ List.mem_map.mpr ⟨(k, v), hm, rfl⟩) hn.1
    · rcases List.mem_cons.mp h with rfl | hm
      · exact absurd rfl hy
      · rw [List.find?_cons_of_neg (by simpa using hy)]
        exact ih hn.2 hm
end
end Mine

end

section
open PySem PySem.W PyProof.Rows PySem.Calls
open PyProof.Rows.LCg
namespace Mine
section
variable {prog : Program} {w : World} {A : Around} {s : Shared}
/-- a range, another (frozen) object standing for the source -/
theorem Src.rangeF {r ax : Addr} {lo : Obj} {a b : Int} {t u v : Tok} {n : Nat} {x : PySem.Str} {px : Pos} (hh : A.handled = none) (hlo : s.heap.get? ax = some lo) (hr : IsRange s.heap r a b 1 t u v) (hsm : Builtin.Range.small a b 1 = true) (hn : Builtin.Range.rangeSize a b 1 = ((n : Nat) : Int)) :
    Src prog w A (.Name x px) s r ax lo n (fun i v => ∃ t, v = .int (a + (i : Int)) t) := by
  have W := range_walks (prog := prog) (w := w) (I := s.heap.objs.size) hh a n
  refine ⟨_, _, fun E Q hq => wpAny_pyIter_range hr hsm hq, ⟨fun b hb => by rw [List.mem_singleton.mp hb]; exact .head _, fun i h h' st hk => W.frame i h h' st fun b hb o e => hk b (by rw [List.mem_singleton.mp hb]; exact .head _) o e, W.item, W.done, W.self⟩, ?_, hlo, fun i h st => ⟨_, st⟩, fun i v s' Q E st q => wpAny_pure q⟩
  show IsRangeIter _ _ _ _ _
  rw [hn]; simpa using Heap.get?_push_size _ rfl
theorem range_size {n : Nat} (h : n ≤ 6) : Builtin.Range.rangeSize 1 ((n : Int) + 1) 1 = (n : Int) ∧ Builtin.Range.small 1 ((n : Int) + 1) 1 = true := by
  have h' : n = 0 ∨ n = 1 ∨ n = 2 ∨ n = 3 ∨ n = 4 ∨ n = 5 ∨ n = 6 := by omega
  rcases h' with rfl | rfl | rfl | rfl | rfl | rfl | rfl <;> exact ⟨by decide, by decide⟩
theorem range_size0 {n : Nat} (h : n ≤ 6) : Builtin.Range.rangeSize 0 (n : Int) 1 = (n : Int) ∧ Builtin.Range.small 0 (n : Int) 1 = true := by
  have h' : n = 0 ∨ n = 1 ∨ n = 2 ∨ n = 3 ∨ n = 4 ∨ n = 5 ∨ n = 6 := by omega
  rcases h' with rfl | rfl | rfl | rfl | rfl | rfl | rfl <;> exact ⟨by decide, by decide⟩
end

structure BD where
  own : Int
  val : Value
  flag : Int
  links : List LnkD
def LinkS (tl : Led) (v : Value) (l : LnkD) : Prop := ∃ a t1 t2 t3 t4 k, v = .ref a ∧ (a, tupO [.int l.id t1, .int l.data t2, .int 1 t3, .int l.metric t4] k) ∈ tl
theorem LinkS.mono {tl tl' : Led} {v : Value} {l : LnkD} (K : LinkS tl v l) (hs : ∀ p ∈ tl, p ∈ tl') : LinkS tl' v l := let ⟨a, t1, t2, t3, t4, k, e, h⟩ := K; ⟨a, t1, t2, t3, t4, k, e, hs _ h⟩
def SrcAll (tl : Led) (vs : List Value) (G : List LnkD) : Prop := vs.length = G.length ∧ ∀ (j : Nat) (v : Value) (l : LnkD), vs[j]? = some v → G[j]? = some l → LinkS tl v l
theorem SrcAll.mono {tl tl' : Led} {vs : List Value} {G : List LnkD} (K : SrcAll tl vs G) (hs : ∀ p ∈ tl, p ∈ tl') : SrcAll tl' vs G := ⟨K.1, fun j v l a b => (K.2 j v l a b).mono hs⟩
theorem SrcAll.snoc {tl : Led} {vs : List Value} {G : List LnkD} {v : Value} {l : LnkD} (K : SrcAll tl vs G) (h : LinkS tl v l) : SrcAll tl (vs ++ [v]) (G ++ [l]) := by
  refine ⟨by simp [K.1], fun j v' l' hv hl => ?_⟩
  by_cases hj : j < vs.length
  · rw [List.getElem?_append_left hj] at hv
    rw [List.getElem?_append_left (by rw [← K.1]; exact hj)] at hl
    exact K.2 j v' l' hv hl
  · rw [List.getElem?_append_right (by omega)] at hv
    rw [List.getElem?_append_right (by rw [← K.1]; omega)] at hl
    rw [← K.1] at hl
    rcases hjj : j - vs.length with _ | k
    · rw [hjj] at hv hl
      simp at hv hl
      subst hv; subst hl; exact h
    · rw [hjj] at hv; simp at hv
/-- the numbers 1 .. n -/
def upTo (n : Nat) : List Int := (List.range n).map (fun (j : Nat) => (1 : Int) + (j : Int))
theorem upTo_succ (n : Nat) : upTo (n + 1) = upTo n ++ [1 + (n : Int)] := by unfold upTo; rw [List.range_succ, List.map_append]; rfl
theorem upTo_nodup (n : Nat) : (upTo n).Nodup := by
  unfold upTo
  exact List.pairwise_map.mpr (List.Pairwise.imp (fun h => by omega) (List.nodup_range (n := n)))
def BodTl (tl : Led) (n : Nat) (b : BD) : Prop := ∃ a lt vs t0 t1 k k', b.val = .ref a ∧ (a, tupO [.str (PySem.Str.ofString "router") t0, .int b.flag t1, .ref lt] k) ∈ tl ∧ (lt, tupO vs k') ∈ tl ∧ SrcAll tl vs b.links ∧ b.links.map (·.id) = (upTo n).filter (fun x => decide (x ≠ b.own))
theorem BodTl.mono {tl tl' : Led} {n : Nat} {b : BD} (K : BodTl tl n b) (hs : ∀ p ∈ tl, p ∈ tl') : BodTl tl' n b := let ⟨a, lt, vs, t0, t1, k, k', e, h1, h2, h3, h4⟩ := K; ⟨a, lt, vs, t0, t1, k, k', e, hs _ h1, hs _ h2, h3.mono hs, h4⟩
end Mine

end

section
open PySem PySem.W PyProof.Rows PySem.Calls
open PyProof.Rows.LCg
namespace Mine

/-- the k-th statement -/
def nthS : List Stmt → Nat → Stmt
  | [], _ => .Pass ⟨0, 0, 0, 0⟩
  | x :: _, 0 => x
  | _ :: r, k + 1 => nthS r k
def lawDef : Stmt := nthS PySem.Challenge.pw_rh0193_01.main.body 14
def lawBody : List Stmt := match lawDef with
  | .FunctionDef _ _ b _ _ _ _ _ _ _ => b
  | _ => []
def lawSc : PySem.Scope := match lawDef with
  | .FunctionDef _ _ _ _ _ _ sc _ _ _ => sc
  | _ => ⟨.function, [], false, false, []⟩
def lawSt (k : Nat) : Stmt := nthS lawBody k
abbrev lawEnv (L fa : Addr) (cd : Value) : Env := envOfC (PySem.Str.ofString "law") lawSc L fa cd
abbrev lawA (L fa : Addr) (cd : Value) : Around := callerA.deeper (lawEnv L fa cd)

/-- the cells of the law's frame, and what it turns; the rest of the ledger is `tl` -/
abbrev Led9 (L dB lB sl lR : Addr) (oB box oO oG oLs oCB oCX oSl oR : Obj) (tl : Led) : Led :=
  (dB, oB) :: (lB, box) :: (L + 1 + 1 + 1, oO) :: (sl, oSl) :: (L + 1 + 1 + 1 + 1, oG) :: (L + 1 + 1 + 1 + 1 + 1, oLs) :: (L + 1 + 1, oCB) :: (L + 1, oCX) :: (lR, oR) :: tl

theorem lawSc_eq : ∃ sc : PySem.Scope, lawSc = sc ∧ sc.kind = .function := ⟨_, rfl, rfl⟩
end Mine

end

section
open PySem PySem.W PyProof.Rows PySem.Calls
open PyProof.Rows.LCg
namespace Mine

section
variable {prog : Program} {w : World} {A : Around} {s : Shared} {target : PySem.Expr}
theorem Src.mono {r ax : Addr} {lo : Obj} {n : Nat} {P P' : Nat → Value → Prop} (S : Src prog w A target s r ax lo n P) (h : ∀ i v, P i v → P' i v) : Src prog w A target s r ax lo n P' := by
  obtain ⟨oI, St, a, W, b⟩ := S
  exact ⟨oI, St, a, ⟨W.sub, W.frame, fun i s Q E hi st hQ => W.item i s Q E hi st fun v h' tk hP => hQ v h' tk (h i v hP), W.done, W.self⟩, b⟩
theorem pairs_at {K : Type} [DecidableEq K] {knd : KeyKind prog w K} {es : List DictEntry} {kvs : List (K × Value)} (h : Pairs knd es kvs) : ∀ (i : Nat) (e : DictEntry), es[i]? = some e → ∃ kv, kvs[i]? = some kv ∧ knd.is kv.1 e.key = true := by
  induction h with
  | nil => intro i e he; simp at he
  | cons h1 h2 _ ih =>
    intro i e he
    cases i with
    | zero => simp at he; subst he; exact ⟨_, rfl, h1⟩
    | succ i => simp at he; obtain ⟨kv, a, b⟩ := ih i e he; exact ⟨kv, by simpa using a, b⟩
theorem Src.dictInt {d : Addr} {lo : Obj} {kvs : List (Int × Value)} (hh : A.handled = none) (sys : (d == sysModules) = false) (hlo : s.heap.get? d = some lo) (hD : lo.IsDictOf (PySem.intKind prog w) kvs) :
    Src prog w A target s d d lo kvs.length (fun i v => ∃ k x t, kvs[i]? = some (k, x) ∧ v = .int k t) := by
  obtain ⟨es, ep, hx, hd, _, hp, _⟩ := hD
  have hl : es.size = kvs.length := by
    have := hp.length
    simpa using this
  rw [← hl]
  refine (Src.raw hh sys hlo hx hd).mono ?_
  rintro i v ⟨e, he, rfl⟩
  obtain ⟨⟨k, x⟩, a, b⟩ := pairs_at hp i e (by rw [Array.getElem?_toList]; exact he)
  obtain ⟨t, ht⟩ := Value.isInt_shape b
  exact ⟨k, x, t, a, ht⟩
end

/-- a row in the ledger -/
def RowTl (tl : Led) (v : Value) (r : RowD) : Prop := ∃ a hd b t1 t2 t3 t4 t5 t6 t7, v = .ref a ∧ r.body = .ref b ∧ (a, tupO [.ref hd, r.body]) ∈ tl ∧ (hd, tupO [.int r.age t1, .int 2 t2, .int 1 t3, .int r.ls t4, .int r.adv t5, .int 9 t6, .int 0 t7]) ∈ tl
theorem RowTl.mono {tl tl' : Led} {v : Value} {r : RowD} (K : RowTl tl v r) (hs : ∀ p ∈ tl, p ∈ tl') : RowTl tl' v r := let ⟨a, hd, b, t1, t2, t3, t4, t5, t6, t7, e, e', h, h'⟩ := K; ⟨a, hd, b, t1, t2, t3, t4, t5, t6, t7, e, e', hs _ h, hs _ h'⟩
theorem RowTl.at {h₀ h : Heap} {L : Addr} {tl : Led} {v : Value} {r : RowD} (K : RowTl tl v r) (N : News h₀ L h tl) : RowAt h v r := by
  obtain ⟨a, hd, b, t1, t2, t3, t4, t5, t6, t7, e, _, H, H'⟩ := K
  exact ⟨a, hd, t1, t2, t3, t4, t5, t6, t7, e, ⟨_, (N _ H).1, rfl, _, rfl⟩, ⟨_, (N _ H').1, rfl, _, rfl⟩⟩
def RowsTl (tl : Led) (vs : List Value) (R : List RowD) : Prop := vs.length = R.length ∧ ∀ (j : Nat) (v : Value) (r : RowD), vs[j]? = some v → R[j]? = some r → RowTl tl v r
theorem RowsTl.mono {tl tl' : Led} {vs : List Value} {R : List RowD} (K : RowsTl tl vs R) (hs : ∀ p ∈ tl, p ∈ tl') : RowsTl tl' vs R := ⟨K.1, fun j v r a b => (K.2 j v r a b).mono hs⟩
theorem RowsTl.at {h₀ h : Heap} {L : Addr} {tl : Led} {vs : List Value} {R : List RowD} (K : RowsTl tl vs R) (N : News h₀ L h tl) : RowsAt h vs R := ⟨K.1, fun j v r a b => (K.2 j v r a b).at N⟩
theorem RowsTl.nil {tl : Led} : RowsTl tl [] [] := ⟨rfl, fun _ _ _ h => nomatch h⟩
theorem RowsTl.snoc {tl : Led} {vs : List Value} {R : List RowD} {v : Value} {r : RowD} (K : RowsTl tl vs R) (h : RowTl tl v r) : RowsTl tl (vs ++ [v]) (R ++ [r]) := by
  refine ⟨by simp [K.1], fun j v' l' hv hl => ?_⟩
  by_cases hj : j < vs.length
  · rw [List.getElem?_append_left hj] at hv
    rw [List.getElem?_append_left (by rw [← K.1]; exact hj)] at hl
    exact K.2 j v' l' hv hl
  · rw [List.getElem?_append_right (by omega)] at hv
    rw [List.getElem?_append_right (by rw [← K.1]; omega)] at hl
    rw [← K.1] at hl
    rcases hjj : j - vs.length with _ | k
    · rw [hjj] at hv hl
      simp at hv hl
      subst hv; subst hl; exact h
    · rw [hjj] at hv; simp at hv

/-- what the law's frame turns -/
abbrev Adr9 (L dB lB lR : Addr) : List Addr := [dB, lB, L + 1 + 1 + 1, L + 1 + 1 + 1 + 1, L + 1 + 1 + 1 + 1 + 1, lR]
theorem off_fresh {h₀ h h' : Heap} {L : Addr} {news nw tl : Led} {adr : List Addr} (N : News h₀ L h news) (fr : Fresh h h' nw) (off : OwnOff tl adr) (hadr : ∀ b ∈ adr, ∃ o, (b, o) ∈ news) : OwnOff (nw ++ tl) adr := fun p hp b hb => by
  rcases List.mem_append.mp hp with hp | hp
  · obtain ⟨o, ho⟩ := hadr b hb
    exact fresh_ne N fr hp ho
  · exact off p hp b hb
theorem off9 {h₀ h h' : Heap} {L : Addr} {pre nw tl : Led} {dB lB sl lR : Addr} {oB box oO oG oLs oCB oCX oSl oR : Obj} (N : News h₀ L h (pre ++ Led9 L dB lB sl lR oB box oO oG oLs oCB oCX oSl oR tl)) (fr : Fresh h h' nw) (off : OwnOff tl (Adr9 L dB lB lR)) : OwnOff (nw ++ tl) (Adr9 L dB lB lR) := by
  refine off_fresh N fr off fun b hb => ?_
  simp only [List.mem_cons, List.not_mem_nil, or_false] at hb
  rcases hb with rfl | rfl | rfl | rfl | rfl | rfl
  · exact ⟨_, List.mem_append_right _ (.head _)⟩
  · exact ⟨_, List.mem_append_right _ (.tail _ (.head _))⟩
  · exact ⟨_, List.mem_append_right _ (.tail _ (.tail _ (.head _)))⟩
  · exact ⟨_, List.mem_append_right _ (.tail _ (.tail _ (.tail _ (.tail _ (.head _)))))⟩
  · exact ⟨_, List.mem_append_right _ (.tail _ (.tail _ (.tail _ (.tail _ (.tail _ (.head _))))))⟩
  · exact ⟨_, List.mem_append_right _ (.tail _ (.tail _ (.tail _ (.tail _ (.tail _ (.tail _ (.tail _ (.tail _ (.head _)))))))))⟩

theorem bod_at {bs : List BD} {n i : Nat} {k : Int} {x : Value} (hbs : bs.map (·.own) = upTo n) (h : (bs.map fun b => (b.own, b.val))[i]? = some (k, x)) : ∃ b, bs[i]? = some b ∧ b ∈ bs ∧ b.own = k ∧ b.val = x ∧ k = 1 + (i : Int) ∧ i < n ∧ valueAt (bs.map fun b => (b.own, b.val)) k = some x := by
  rw [List.getElem?_map] at h
  cases hb : bs[i]? with
  | none => rw [hb] at h; cases h
  | some b =>
    rw [hb] at h
    have h' : (b.own, b.val) = (k, x) := Option.some.inj h
    injection h' with h1 h2
    have hm : (bs.map (·.own))[i]? = some b.own := by rw [List.getElem?_map, hb]; rfl
    rw [hbs] at hm
    unfold upTo at hm
    rw [List.getElem?_map] at hm
    obtain ⟨j, hj, hj2⟩ := Option.map_eq_some_iff.mp hm
    obtain ⟨hlt, hj'⟩ := List.getElem?_eq_some_iff.mp hj
    have hj3 : i = j := by simpa using hj'
    subst hj3
    rw [List.length_range] at hlt
    refine ⟨b, rfl, List.mem_of_getElem? hb, h1, h2, by rw [← h1]; exact hj2.symm, hlt, ?_⟩
    refine value_at ?_ (List.mem_map.mpr ⟨b, List.mem_of_getElem? hb, by rw [h1, h2]⟩)
    rw [List.map_map]
    have : ((fun x => x.fst) ∘ fun (b : BD) => (b.own, b.val)) = (·.own) := rfl
    rw [this, hbs]
    exact upTo_nodup n
end Mine

end

section
open PySem PySem.W PyProof.Rows PySem.Calls
namespace Mine
/-- the addresses of the law's frame, in their order -/
def Sep (L sl lB dB lR : Nat) : Prop := L + 6 < sl ∧ sl < lB ∧ lB < dB ∧ dB < lR
section
variable {L sl lB dB lR : Nat} (h : Sep L sl lB dB lR)
include h
theorem Sep.a1a2 : @LT.lt Nat _ (L + 1) (L + 1 + 1) := Nat.lt_succ_self _
theorem Sep.a2a3 : @LT.lt Nat _ (L + 1 + 1) (L + 1 + 1 + 1) := Nat.lt_succ_self _
theorem Sep.a3a4 : @LT.lt Nat _ (L + 1 + 1 + 1) (L + 1 + 1 + 1 + 1) := Nat.lt_succ_self _
theorem Sep.a4a5 : @LT.lt Nat _ (L + 1 + 1 + 1 + 1) (L + 1 + 1 + 1 + 1 + 1) := Nat.lt_succ_self _
theorem Sep.a5s : @LT.lt Nat _ (L + 1 + 1 + 1 + 1 + 1) (sl) := Nat.lt_trans (Nat.lt_succ_self (L + 5)) h.1
theorem Sep.sb : @LT.lt Nat _ (sl) (lB) := h.2.1
theorem Sep.bd : @LT.lt Nat _ (lB) (dB) := h.2.2.1
theorem Sep.dr : @LT.lt Nat _ (dB) (lR) := h.2.2.2
theorem Sep.a1a3 : @LT.lt Nat _ (L + 1) (L + 1 + 1 + 1) := Nat.lt_trans (Sep.a1a2 h) (Sep.a2a3 h)
theorem Sep.a2a4 : @LT.lt Nat _ (L + 1 + 1) (L + 1 + 1 + 1 + 1) := Nat.lt_trans (Sep.a2a3 h) (Sep.a3a4 h)
theorem Sep.a3a5 : @LT.lt Nat _ (L + 1 + 1 + 1) (L + 1 + 1 + 1 + 1 + 1) := Nat.lt_trans (Sep.a3a4 h) (Sep.a4a5 h)
theorem Sep.a4s : @LT.lt Nat _ (L + 1 + 1 + 1 + 1) (sl) := Nat.lt_trans (Sep.a4a5 h) (Sep.a5s h)
theorem Sep.a5b : @LT.lt Nat _ (L + 1 + 1 + 1 + 1 + 1) (lB) := Nat.lt_trans (Sep.a5s h) (Sep.sb h)
theorem Sep.sd : @LT.lt Nat _ (sl) (dB) := Nat.lt_trans (Sep.sb h) (Sep.bd h)
theorem Sep.br : @LT.lt Nat _ (lB) (lR) := Nat.lt_trans (Sep.bd h) (Sep.dr h)
theorem Sep.a1a4 : @LT.lt Nat _ (L + 1) (L + 1 + 1 + 1 + 1) := Nat.lt_trans (Sep.a1a3 h) (Sep.a3a4 h)
theorem Sep.a2a5 : @LT.lt Nat _ (L + 1 + 1) (L + 1 + 1 + 1 + 1 + 1) := Nat.lt_trans (Sep.a2a4 h) (Sep.a4a5 h)
theorem Sep.a3s : @LT.lt Nat _ (L + 1 + 1 + 1) (sl) := Nat.lt_trans (Sep.a3a5 h) (Sep.a5s h)
theorem Sep.a4b : @LT.lt Nat _ (L + 1 + 1 + 1 + 1) (lB) := Nat.lt_trans (Sep.a4s h) (Sep.sb h)
theorem Sep.a5d : @LT.lt Nat _ (L + 1 + 1 + 1 + 1 + 1) (dB) := Nat.lt_trans (Sep.a5b h) (Sep.bd h)
theorem Sep.sr : @LT.lt Nat _ (sl) (lR) := Nat.lt_trans (Sep.sd h) (Sep.dr h)
theorem Sep.a1a5 : @LT.lt Nat _ (L + 1) (L + 1 + 1 + 1 + 1 + 1) := Nat.lt_trans (Sep.a1a4 h) (Sep.a4a5 h)
theorem Sep.a2s : @LT.lt Nat _ (L + 1 + 1) (sl) := Nat.lt_trans (Sep.a2a5 h) (Sep.a5s h)
theorem Sep.a3b : @LT.lt Nat _ (L + 1 + 1 + 1) (lB) := Nat.lt_trans (Sep.a3s h) (Sep.sb h)
theorem Sep.a4d : @LT.lt Nat _ (L + 1 + 1 + 1 + 1) (dB) := Nat.lt_trans (Sep.a4b h) (Sep.bd h)
theorem Sep.a5r : @LT.lt Nat _ (L + 1 + 1 + 1 + 1 + 1) (lR) := Nat.lt_trans (Sep.a5d h) (Sep.dr h)
theorem Sep.a1s : @LT.lt Nat _ (L + 1) (sl) := Nat.lt_trans (Sep.a1a5 h) (Sep.a5s h)
theorem Sep.a2b : @LT.lt Nat _ (L + 1 + 1) (lB) := Nat.lt_trans (Sep.a2s h) (Sep.sb h)
theorem Sep.a3d : @LT.lt Nat _ (L + 1 + 1 + 1) (dB) := Nat.lt_trans (Sep.a3b h) (Sep.bd h)
theorem Sep.a4r : @LT.lt Nat _ (L + 1 + 1 + 1 + 1) (lR) := Nat.lt_trans (Sep.a4d h) (Sep.dr h)
theorem Sep.a1b : @LT.lt Nat _ (L + 1) (lB) := Nat.lt_trans (Sep.a1s h) (Sep.sb h)
theorem Sep.a2d : @LT.lt Nat _ (L + 1 + 1) (dB) := Nat.lt_trans (Sep.a2b h) (Sep.bd h)
theorem Sep.a3r : @LT.lt Nat _ (L + 1 + 1 + 1) (lR) := Nat.lt_trans (Sep.a3d h) (Sep.dr h)
theorem Sep.a1d : @LT.lt Nat _ (L + 1) (dB) := Nat.lt_trans (Sep.a1b h) (Sep.bd h)
theorem Sep.a2r : @LT.lt Nat _ (L + 1 + 1) (lR) := Nat.lt_trans (Sep.a2d h) (Sep.dr h)
theorem Sep.a1r : @LT.lt Nat _ (L + 1) (lR) := Nat.lt_trans (Sep.a1d h) (Sep.dr h)
end
end Mine

end

section
open PySem PySem.W PyProof.Rows PySem.Calls
open PyProof.Rows.LCg

namespace Mine
set_option maxRecDepth 100000 in
set_option maxHeartbeats 8000000 in
theorem seg4 {w : World} {p : Program} {loose : List PySem.Str} {mg mb : PySem.Str → Option Value} {mean : ExcName → Option Value} {h₀ : Heap} {L fa : Addr} {cd : Value} {s : Shared} {Q : Flow → Shared → Prop} {E : Value → Shared → Prop}
   (B : Below callerA h₀ [] h₀) (X : (hd.heap_39 w.params).In h₀) (T : Top p loose mean mg mb h₀) 
   {u : PySem.Str → Option Value} {lR dB lB sl : Addr} {n : Nat} {tkm : Tok} {oB oO oG oLs oCB oCX oR : Obj} {tl : Led} {c : Int} {t : Tok} {e csl : Nat} {ws : List Value} {zs : List Int}
   (F : Fr h₀ L s.heap fun y => if y = PySem.Str.ofString "rows" then some (.ref lR) else if y = PySem.Str.ofString "many" then some (.int n tkm) else u y)
   (N : News h₀ L s.heap (Led9 L dB lB sl lR oB (boxO sl c t e) oO oG oLs oCB oCX (listOf ws.toArray csl) oR tl))
   (hws : IntsAre ws zs) (hzs : zs.length ≤ 30) (c0 : 0 ≤ c)
   (o1 : @LT.lt Nat _ (L + 6) sl) (o2 : @LT.lt Nat _ sl lB) (o3 : @LT.lt Nat _ lB dB) (o4 : @LT.lt Nat _ dB lR) 
   (off : OwnOff tl [dB, lB, L + 1 + 1 + 1, L + 1 + 1 + 1 + 1, L + 1 + 1 + 1 + 1 + 1, lR])
   (dX : oCX.data = .cell (some (.ref lB))) {vG : Option Value} (dG : oG.data = .cell vG)
   (ret : ∀ h' tk' t' e' g tg oG', 1 ≤ g → g ≤ 4 → oG'.data = .cell (some (.int g tg)) → Fr h₀ L h' (fun y => if y = PySem.Str.ofString "rows" then some (.ref lR) else if y = PySem.Str.ofString "many" then some (.int n tkm) else u y) →
     News h₀ L h' (Led9 L dB lB sl lR oB (boxO sl (c + 1) t' e') oO oG' oLs oCB oCX (listOf ws.toArray csl) oR tl) → Q .next { s with heap := h', toks := tk' }) :
   wpAny (model PySem.Challenge.rw_rh0193_01.row.prog w) (lawA L fa cd) (exec (lawSt 3) (lawEnv L fa cd)) Q E s := by
  k_with_none
  k_with "k_ne" => (refine neN ?_; (try dsimp only); first | (with_reducible first | assumption | exact Ne.symm (by assumption) | exact Nat.ne_of_gt (And.left (by assumption)) | exact Nat.ne_of_lt (And.left (by assumption)) | exact Nat.ne_of_gt (And.left (And.right (by assumption))) | exact Nat.ne_of_lt (And.left (And.right (by assumption))) | exact Nat.ne_of_gt (And.left (And.right (And.right (by assumption)))) | exact Nat.ne_of_lt (And.left (And.right (And.right (by assumption)))) | exact Nat.ne_of_gt (And.left (And.right (And.right (And.right (by assumption))))) | exact Nat.ne_of_lt (And.left (And.right (And.right (And.right (by assumption))))) | exact Nat.ne_of_gt (And.left (And.right (And.right (And.right (And.right (by assumption)))))) | exact Nat.ne_of_lt (And.left (And.right (And.right (And.right (And.right (by assumption)))))) | exact Nat.ne_of_gt (And.left (And.right (And.right (And.right (And.right (And.right (by assumption))))))) | exact Nat.ne_of_lt (And.left (And.right (And.right (And.right (And.right (And.right (by assumption))))))) | exact Nat.ne_of_gt (And.left (And.right (And.right (And.right (And.right (And.right (And.right (by assumption)))))))) | exact Nat.ne_of_lt (And.left (And.right (And.right (And.right (And.right (And.right (And.right (by assumption)))))))) | exact Nat.ne_of_gt (And.left (And.right (And.right (And.right (And.right (And.right (And.right (And.right (by assumption))))))))) | exact Nat.ne_of_lt (And.left (And.right (And.right (And.right (And.right (And.right (And.right (And.right (by assumption))))))))) | exact Nat.ne_of_gt (And.left (And.right (And.right (And.right (And.right (And.right (And.right (And.right (And.right (by assumption)))))))))) | exact Nat.ne_of_lt (And.left (And.right (And.right (And.right (And.right (And.right (And.right (And.right (And.right (by assumption)))))))))) | exact Nat.ne_of_gt (And.left (And.right (And.right (And.right (And.right (And.right (And.right (And.right (And.right (And.right (by assumption))))))))))) | exact Nat.ne_of_lt (And.left (And.right (And.right (And.right (And.right (And.right (And.right (And.right (And.right (And.right (by assumption))))))))))) | exact Nat.ne_of_gt (And.left (And.right (And.right (And.right (And.right (And.right (And.right (And.right (And.right (And.right (And.right (by assumption)))))))))))) | exact Nat.ne_of_lt (And.left (And.right (And.right (And.right (And.right (And.right (And.right (And.right (And.right (And.right (And.right (by assumption)))))))))))) | exact Nat.ne_of_gt (And.left (And.right (And.right (And.right (And.right (And.right (And.right (And.right (And.right (And.right (And.right (And.right (by assumption))))))))))))) | exact Nat.ne_of_lt (And.left (And.right (And.right (And.right (And.right (And.right (And.right (And.right (And.right (And.right (And.right (And.right (by assumption))))))))))))) | exact Nat.ne_of_gt (And.left (And.right (And.right (And.right (And.right (And.right (And.right (And.right (And.right (And.right (And.right (And.right (And.right (by assumption)))))))))))))) | exact Nat.ne_of_lt (And.left (And.right (And.right (And.right (And.right (And.right (And.right (And.right (And.right (And.right (And.right (And.right (And.right (by assumption)))))))))))))) | exact Nat.ne_of_gt (And.left (And.right (And.right (And.right (And.right (And.right (And.right (And.right (And.right (And.right (And.right (And.right (And.right (And.right (by assumption))))))))))))))) | exact Nat.ne_of_lt (And.left (And.right (And.right (And.right (And.right (And.right (And.right (And.right (And.right (And.right (And.right (And.right (And.right (And.right (by assumption))))))))))))))) | exact Nat.ne_of_gt (And.left (And.right (And.right (And.right (And.right (And.right (And.right (And.right (And.right (And.right (And.right (And.right (And.right (And.right (And.right (by assumption)))))))))))))))) | exact Nat.ne_of_lt (And.left (And.right (And.right (And.right (And.right (And.right (And.right (And.right (And.right (And.right (And.right (And.right (And.right (And.right (And.right (by assumption)))))))))))))))) | exact Nat.ne_of_gt (by assumption) | exact Nat.ne_of_lt (by assumption)) | (with_reducible first | exact Nat.ne_of_gt (Sep.a1a2 hsep) | exact Nat.ne_of_lt (Sep.a1a2 hsep) | exact Nat.ne_of_gt (Sep.a2a3 hsep) | exact Nat.ne_of_lt (Sep.a2a3 hsep) | exact Nat.ne_of_gt (Sep.a3a4 hsep) | exact Nat.ne_of_lt (Sep.a3a4 hsep) | exact Nat.ne_of_gt (Sep.a4a5 hsep) | exact Nat.ne_of_lt (Sep.a4a5 hsep) | exact Nat.ne_of_gt (Sep.a5s hsep) | exact Nat.ne_of_lt (Sep.a5s hsep) | exact Nat.ne_of_gt (Sep.sb hsep) | exact Nat.ne_of_lt (Sep.sb hsep) | exact Nat.ne_of_gt (Sep.bd hsep) | exact Nat.ne_of_lt (Sep.bd hsep) | exact Nat.ne_of_gt (Sep.dr hsep) | exact Nat.ne_of_lt (Sep.dr hsep) | exact Nat.ne_of_gt (Sep.a1a3 hsep) | exact Nat.ne_of_lt (Sep.a1a3 hsep) | exact Nat.ne_of_gt (Sep.a2a4 hsep) | exact Nat.ne_of_lt (Sep.a2a4 hsep) | exact Nat.ne_of_gt (Sep.a3a5 hsep) | exact Nat.ne_of_lt (Sep.a3a5 hsep) | exact Nat.ne_of_gt (Sep.a4s hsep) | exact Nat.ne_of_lt (Sep.a4s hsep) | exact Nat.ne_of_gt (Sep.a5b hsep) | exact Nat.ne_of_lt (Sep.a5b hsep) | exact Nat.ne_of_gt (Sep.sd hsep) | exact Nat.ne_of_lt (Sep.sd hsep) | exact Nat.ne_of_gt (Sep.br hsep) | exact Nat.ne_of_lt (Sep.br hsep) | exact Nat.ne_of_gt (Sep.a1a4 hsep) | exact Nat.ne_of_lt (Sep.a1a4 hsep) | exact Nat.ne_of_gt (Sep.a2a5 hsep) | exact Nat.ne_of_lt (Sep.a2a5 hsep) | exact Nat.ne_of_gt (Sep.a3s hsep) | exact Nat.ne_of_lt (Sep.a3s hsep) | exact Nat.ne_of_gt (Sep.a4b hsep) | exact Nat.ne_of_lt (Sep.a4b hsep) | exact Nat.ne_of_gt (Sep.a5d hsep) | exact Nat.ne_of_lt (Sep.a5d hsep) | exact Nat.ne_of_gt (Sep.sr hsep) | exact Nat.ne_of_lt (Sep.sr hsep) | exact Nat.ne_of_gt (Sep.a1a5 hsep) | exact Nat.ne_of_lt (Sep.a1a5 hsep) | exact Nat.ne_of_gt (Sep.a2s hsep) | exact Nat.ne_of_lt (Sep.a2s hsep) | exact Nat.ne_of_gt (Sep.a3b hsep) | exact Nat.ne_of_lt (Sep.a3b hsep) | exact Nat.ne_of_gt (Sep.a4d hsep) | exact Nat.ne_of_lt (Sep.a4d hsep) | exact Nat.ne_of_gt (Sep.a5r hsep) | exact Nat.ne_of_lt (Sep.a5r hsep) | exact Nat.ne_of_gt (Sep.a1s hsep) | exact Nat.ne_of_lt (Sep.a1s hsep) | exact Nat.ne_of_gt (Sep.a2b hsep) | exact Nat.ne_of_lt (Sep.a2b hsep) | exact Nat.ne_of_gt (Sep.a3d hsep) | exact Nat.ne_of_lt (Sep.a3d hsep) | exact Nat.ne_of_gt (Sep.a4r hsep) | exact Nat.ne_of_lt (Sep.a4r hsep) | exact Nat.ne_of_gt (Sep.a1b hsep) | exact Nat.ne_of_lt (Sep.a1b hsep) | exact Nat.ne_of_gt (Sep.a2d hsep) | exact Nat.ne_of_lt (Sep.a2d hsep) | exact Nat.ne_of_gt (Sep.a3r hsep) | exact Nat.ne_of_lt (Sep.a3r hsep) | exact Nat.ne_of_gt (Sep.a1d hsep) | exact Nat.ne_of_lt (Sep.a1d hsep) | exact Nat.ne_of_gt (Sep.a2r hsep) | exact Nat.ne_of_lt (Sep.a2r hsep) | exact Nat.ne_of_gt (Sep.a1r hsep) | exact Nat.ne_of_lt (Sep.a1r hsep)) | omega)
  k_with "call ref" => (k_here; (with_reducible rename Below callerA _ _ _ => KB); (with_reducible rename IntsAre _ _ => hws); k_dflt (refine' draw_call KB ?mF ?mX ?mT ?mk ?md ?mu ?mN ?mU ?msb ?ms ?msc ?msd hws ?ml ?m0 ?mm ?_; (case mF => k_asm); (case mX => assumption); (case mT => k_asm); (case mN => k_asm); (case mk => rfl); (case md => decide); (case mu => decide); (case mU => k_updF); (case ms => k_mem); (case msc => rfl); (case msd => rfl); (case msb => k_ne); (case ml => assumption); (case m0 => omega); (case mm => omega)); intro _ _ _ _ _ _ _ N9 V8 V9; (try dsimp only at N9); revert N9 V8 V9; intro _ _ _; (try k_sweep))
  w_top off
  revert X; k_fill; intro X
  have hsep : Sep L sl lB dB lR := ⟨o1, o2, o3, o4⟩
  dsimp only [Led9] at N
  show wpAny _ (callerA.deeper (envOfC _ (PySem.Scope.mk _ _ _ _ _) _ _ _)) (exec (Stmt.Assign _ _ _) (envOfC _ (PySem.Scope.mk _ _ _ _ _) _ _ _)) _ _ _

  (try k_fold)
  k_steps
  (rename Fr _ _ _ _ => F2)
  (rename News _ _ _ _ => N2)
  rename_i dX2
  exact ret _ _ _ _ _ _ _ (by omega) (by omega) dX2 F2 N2
end Mine

end

section
open PySem PySem.W PyProof.Rows PySem.Calls
open PyProof.Rows.LCg
namespace Mine

theorem row_call2 {w : World} {p : Program} {loose : List PySem.Str} {mg mb : PySem.Str → Option Value} {mean : ExcName → Option Value} {A₀ : Around} {base h₀ : Heap} {outer : List Env} {L : Addr} {m : PySem.Str → Option Value} {s : Shared} {Q E : Value → Shared → Prop}
   {dp un : Nat} {gd : Option (List Code)} {cn : PySem.Str} {cs : PySem.Scope} {a : Addr} {ccd : Value} {cl : List (PySem.Str × Addr)}
   (B : Below A₀ base outer h₀) (F : Fr h₀ L s.heap m) (X : (hd.heap_39 w.params).In h₀)
   (T : Top p loose mean mg mb h₀) (hk : cs.kind = .function) (hd1 : dp + 5 < recursionLimit) (hu : un + 50 < cLine)
   {age ls adv : Int} {t1 t2 t3 : Tok} {body : Addr}
   (ret : ∀ d nw h' tk', s.heap.StaysIn h' → Fresh s.heap h' nw → RowTl nw (.ref d) ⟨age, ls, adv, .ref body⟩ → Q (.ref d) { s with heap := h', toks := tk' }) :
   wpAny (model PySem.Challenge.rw_rh0193_01.row.prog w) (ktrTop dp un gd cn cs L a ccd cl outer) (call (.ref 65) [.int age t1, .int ls t2, .int adv t3, .ref body]) Q E s :=
  row_call B F X T hk hd1 hu fun d e h' tk' u2 u3 u6 u7 st fr => ret d _ h' tk' st fr ⟨d, e, body, _, _, _, _, _, _, _, rfl, rfl, .head _, .tail _ (.head _)⟩
def genRow (gone : Int) (b : BD) : RowD := ⟨if b.own = gone then 3600 else 5, b.own, b.own, b.val⟩
def Row5J (L dB lB sl lR : Addr) (oB box oG oLs oCB oCX oSl : Obj) (tl0 : Led) (g : Int) (bs : List BD) (m0 : PySem.Str → Option Value) (i : Nat) (m : PySem.Str → Option Value) (nx : Led) : Prop :=
  ∃ (oO : Obj) (co : Option Value) (vs : List Value) (e : Nat) (tl : Led), nx = Led9 L dB lB sl lR oB box oO oG oLs oCB oCX oSl (listOf vs.toArray e) tl ∧ OwnOff tl (Adr9 L dB lB lR) ∧ oO.data = .cell co ∧ (∀ p ∈ tl0, p ∈ tl) ∧ RowsTl tl vs ((bs.take i).map (genRow g)) ∧ m = m0

set_option maxRecDepth 100000 in
set_option maxHeartbeats 8000000 in
theorem seg5 {w : World} {p : Program} {loose : List PySem.Str} {mg mb : PySem.Str → Option Value} {mean : ExcName → Option Value} {h₀ : Heap} {L fa : Addr} {cd : Value} {s : Shared} {Q : Flow → Shared → Prop} {E : Value → Shared → Prop}
   (hE : PassesOwn (model PySem.Challenge.rw_rh0193_01.row.prog w) (lawA L fa cd) (lawEnv L fa cd) E)
   (B : Below callerA h₀ [] h₀) (X : (hd.heap_39 w.params).In h₀) (T : Top p loose mean mg mb h₀) 
   {u : PySem.Str → Option Value} {lR dB lB sl : Addr} {n : Nat} {tkm : Tok} {oB oO oG oLs oCB oCX box oSl : Obj} {tl : Led} {g : Int} {tg : Tok} {bs : List BD}
   (F : Fr h₀ L s.heap fun y => if y = PySem.Str.ofString "rows" then some (.ref lR) else if y = PySem.Str.ofString "many" then some (.int n tkm) else u y)
   (N : News h₀ L s.heap (Led9 L dB lB sl lR oB box oO oG oLs oCB oCX oSl (listOf #[] 0) tl))
   (o1 : @LT.lt Nat _ (L + 6) sl) (o2 : @LT.lt Nat _ sl lB) (o3 : @LT.lt Nat _ lB dB) (o4 : @LT.lt Nat _ dB lR) (sB : (dB == sysModules) = false)
   (off : OwnOff tl (Adr9 L dB lB lR)) (hB : oB.IsDictOf (PySem.intKind PySem.Challenge.rw_rh0193_01.row.prog w) (bs.map fun b => (b.own, b.val)))
   (hbs : bs.map (·.own) = upTo n) (hbt : ∀ b ∈ bs, BodTl tl n b) (hn3 : n ≤ 3)
   (dB' : oCB.data = .cell (some (.ref dB))) (dG : oG.data = .cell (some (.int g tg))) {vO : Option Value} (dO : oO.data = .cell vO)
   (ret : ∀ h' tk' oO' vO' tl' vs e, (∀ p ∈ tl, p ∈ tl') → oO'.data = .cell vO' → OwnOff tl' (Adr9 L dB lB lR) → RowsTl tl' vs (bs.map (genRow g)) → Fr h₀ L h' (fun y => if y = PySem.Str.ofString "rows" then some (.ref lR) else if y = PySem.Str.ofString "many" then some (.int n tkm) else u y) →
     News h₀ L h' (Led9 L dB lB sl lR oB box oO' oG oLs oCB oCX oSl (listOf vs.toArray e) tl') → Q .next { s with heap := h', toks := tk' }) :
   wpAny (model PySem.Challenge.rw_rh0193_01.row.prog w) (lawA L fa cd) (exec (lawSt 4) (lawEnv L fa cd)) Q E s := by
  k_with_none
  k_with "k_ne" => (refine neN ?_; (try dsimp only); first | (with_reducible first | assumption | exact Ne.symm (by assumption) | exact Nat.ne_of_gt (And.left (by assumption)) | exact Nat.ne_of_lt (And.left (by assumption)) | exact Nat.ne_of_gt (And.left (And.right (by assumption))) | exact Nat.ne_of_lt (And.left (And.right (by assumption))) | exact Nat.ne_of_gt (And.left (And.right (And.right (by assumption)))) | exact Nat.ne_of_lt (And.left (And.right (And.right (by assumption)))) | exact Nat.ne_of_gt (And.left (And.right (And.right (And.right (by assumption))))) | exact Nat.ne_of_lt (And.left (And.right (And.right (And.right (by assumption))))) | exact Nat.ne_of_gt (And.left (And.right (And.right (And.right (And.right (by assumption)))))) | exact Nat.ne_of_lt (And.left (And.right (And.right (And.right (And.right (by assumption)))))) | exact Nat.ne_of_gt (And.left (And.right (And.right (And.right (And.right (And.right (by assumption))))))) | exact Nat.ne_of_lt (And.left (And.right (And.right (And.right (And.right (And.right (by assumption))))))) | exact Nat.ne_of_gt (And.left (And.right (And.right (And.right (And.right (And.right (And.right (by assumption)))))))) | exact Nat.ne_of_lt (And.left (And.right (And.right (And.right (And.right (And.right (And.right (by assumption)))))))) | exact Nat.ne_of_gt (And.left (And.right (And.right (And.right (And.right (And.right (And.right (And.right (by assumption))))))))) | exact Nat.ne_of_lt (And.left (And.right (And.right (And.right (And.right (And.right (And.right (And.right (by assumption))))))))) | exact Nat.ne_of_gt (And.left (And.right (And.right (And.right (And.right (And.right (And.right (And.right (And.right (by assumption)))))))))) | exact Nat.ne_of_lt (And.left (And.right (And.right (And.right (And.right (And.right (And.right (And.right (And.right (by assumption)))))))))) | exact Nat.ne_of_gt (And.left (And.right (And.right (And.right (And.right (And.right (And.right (And.right (And.right (And.right (by assumption))))))))))) | exact Nat.ne_of_lt (And.left (And.right (And.right (And.right (And.right (And.right (And.right (And.right (And.right (And.right (by assumption))))))))))) | exact Nat.ne_of_gt (And.left (And.right (And.right (And.right (And.right (And.right (And.right (And.right (And.right (And.right (And.right (by assumption)))))))))))) | exact Nat.ne_of_lt (And.left (And.right (And.right (And.right (And.right (And.right (And.right (And.right (And.right (And.right (And.right (by assumption)))))))))))) | exact Nat.ne_of_gt (And.left (And.right (And.right (And.right (And.right (And.right (And.right (And.right (And.right (And.right (And.right (And.right (by assumption))))))))))))) | exact Nat.ne_of_lt (And.left (And.right (And.right (And.right (And.right (And.right (And.right (And.right (And.right (And.right (And.right (And.right (by assumption))))))))))))) | exact Nat.ne_of_gt (And.left (And.right (And.right (And.right (And.right (And.right (And.right (And.right (And.right (And.right (And.right (And.right (And.right (by assumption)))))))))))))) | exact Nat.ne_of_lt (And.left (And.right (And.right (And.right (And.right (And.right (And.right (And.right (And.right (And.right (And.right (And.right (And.right (by assumption)))))))))))))) | exact Nat.ne_of_gt (And.left (And.right (And.right (And.right (And.right (And.right (And.right (And.right (And.right (And.right (And.right (And.right (And.right (And.right (by assumption))))))))))))))) | exact Nat.ne_of_lt (And.left (And.right (And.right (And.right (And.right (And.right (And.right (And.right (And.right (And.right (And.right (And.right (And.right (And.right (by assumption))))))))))))))) | exact Nat.ne_of_gt (And.left (And.right (And.right (And.right (And.right (And.right (And.right (And.right (And.right (And.right (And.right (And.right (And.right (And.right (And.right (by assumption)))))))))))))))) | exact Nat.ne_of_lt (And.left (And.right (And.right (And.right (And.right (And.right (And.right (And.right (And.right (And.right (And.right (And.right (And.right (And.right (And.right (by assumption)))))))))))))))) | exact Nat.ne_of_gt (by assumption) | exact Nat.ne_of_lt (by assumption)) | (with_reducible first | exact Nat.ne_of_gt (Sep.a1a2 hsep) | exact Nat.ne_of_lt (Sep.a1a2 hsep) | exact Nat.ne_of_gt (Sep.a2a3 hsep) | exact Nat.ne_of_lt (Sep.a2a3 hsep) | exact Nat.ne_of_gt (Sep.a3a4 hsep) | exact Nat.ne_of_lt (Sep.a3a4 hsep) | exact Nat.ne_of_gt (Sep.a4a5 hsep) | exact Nat.ne_of_lt (Sep.a4a5 hsep) | exact Nat.ne_of_gt (Sep.a5s hsep) | exact Nat.ne_of_lt (Sep.a5s hsep) | exact Nat.ne_of_gt (Sep.sb hsep) | exact Nat.ne_of_lt (Sep.sb hsep) | exact Nat.ne_of_gt (Sep.bd hsep) | exact Nat.ne_of_lt (Sep.bd hsep) | exact Nat.ne_of_gt (Sep.dr hsep) | exact Nat.ne_of_lt (Sep.dr hsep) | exact Nat.ne_of_gt (Sep.a1a3 hsep) | exact Nat.ne_of_lt (Sep.a1a3 hsep) | exact Nat.ne_of_gt (Sep.a2a4 hsep) | exact Nat.ne_of_lt (Sep.a2a4 hsep) | exact Nat.ne_of_gt (Sep.a3a5 hsep) | exact Nat.ne_of_lt (Sep.a3a5 hsep) | exact Nat.ne_of_gt (Sep.a4s hsep) | exact Nat.ne_of_lt (Sep.a4s hsep) | exact Nat.ne_of_gt (Sep.a5b hsep) | exact Nat.ne_of_lt (Sep.a5b hsep) | exact Nat.ne_of_gt (Sep.sd hsep) | exact Nat.ne_of_lt (Sep.sd hsep) | exact Nat.ne_of_gt (Sep.br hsep) | exact Nat.ne_of_lt (Sep.br hsep) | exact Nat.ne_of_gt (Sep.a1a4 hsep) | exact Nat.ne_of_lt (Sep.a1a4 hsep) | exact Nat.ne_of_gt (Sep.a2a5 hsep) | exact Nat.ne_of_lt (Sep.a2a5 hsep) | exact Nat.ne_of_gt (Sep.a3s hsep) | exact Nat.ne_of_lt (Sep.a3s hsep) | exact Nat.ne_of_gt (Sep.a4b hsep) | exact Nat.ne_of_lt (Sep.a4b hsep) | exact Nat.ne_of_gt (Sep.a5d hsep) | exact Nat.ne_of_lt (Sep.a5d hsep) | exact Nat.ne_of_gt (Sep.sr hsep) | exact Nat.ne_of_lt (Sep.sr hsep) | exact Nat.ne_of_gt (Sep.a1a5 hsep) | exact Nat.ne_of_lt (Sep.a1a5 hsep) | exact Nat.ne_of_gt (Sep.a2s hsep) | exact Nat.ne_of_lt (Sep.a2s hsep) | exact Nat.ne_of_gt (Sep.a3b hsep) | exact Nat.ne_of_lt (Sep.a3b hsep) | exact Nat.ne_of_gt (Sep.a4d hsep) | exact Nat.ne_of_lt (Sep.a4d hsep) | exact Nat.ne_of_gt (Sep.a5r hsep) | exact Nat.ne_of_lt (Sep.a5r hsep) | exact Nat.ne_of_gt (Sep.a1s hsep) | exact Nat.ne_of_lt (Sep.a1s hsep) | exact Nat.ne_of_gt (Sep.a2b hsep) | exact Nat.ne_of_lt (Sep.a2b hsep) | exact Nat.ne_of_gt (Sep.a3d hsep) | exact Nat.ne_of_lt (Sep.a3d hsep) | exact Nat.ne_of_gt (Sep.a4r hsep) | exact Nat.ne_of_lt (Sep.a4r hsep) | exact Nat.ne_of_gt (Sep.a1b hsep) | exact Nat.ne_of_lt (Sep.a1b hsep) | exact Nat.ne_of_gt (Sep.a2d hsep) | exact Nat.ne_of_lt (Sep.a2d hsep) | exact Nat.ne_of_gt (Sep.a3r hsep) | exact Nat.ne_of_lt (Sep.a3r hsep) | exact Nat.ne_of_gt (Sep.a1d hsep) | exact Nat.ne_of_lt (Sep.a1d hsep) | exact Nat.ne_of_gt (Sep.a2r hsep) | exact Nat.ne_of_lt (Sep.a2r hsep) | exact Nat.ne_of_gt (Sep.a1r hsep) | exact Nat.ne_of_lt (Sep.a1r hsep)) | omega)
  k_with "call ref" => (k_here; refine halt ?_)
  k_with "pyIter ref" => (k_here; refine halt ?_)
  k_with "subscriptTail Name Name ref int" => (k_here; k_dflt (refine' kda_item (knd := PySem.intKind _ _) ?a ?b ?c (intKind_is _ _ _ _) ?d ?_; (case a => k_asm); (case b => k_mem); (case c => assumption); (case d => assumption)))
  w_top off
  revert X; k_fill; intro X
  have hsep : Sep L sl lB dB lR := ⟨o1, o2, o3, o4⟩
  have N0 := N
  dsimp only [Led9] at N
  show wpAny _ (callerA.deeper (envOfC _ (PySem.Scope.mk _ _ _ _ _) _ _ _)) (exec (Stmt.For _ _ _ _ _) (envOfC _ (PySem.Scope.mk _ _ _ _ _) _ _ _)) _ _ _
  (try k_fold)
  refine For_turns F ?_ (hE := hE)
  k_steps
  unfold Halt
  refine turns_src (Row5J L dB lB sl lR oB box oG oLs oCB oCX oSl tl g bs (fun y => if y = PySem.Str.ofString "rows" then some (.ref lR) else if y = PySem.Str.ofString "many" then some (.int n tkm) else u y))
    (Src.dictInt rfl sB (N0 _ (.head _)).1 hB) (.inr ?_) (N0 _ (.head _)).2.1 F N0 ⟨oO, vO, [], 0, tl, rfl, off, dO, fun _ h => h, RowsTl.nil, rfl⟩ ?_ ?_
  · rintro i m nx ⟨oO, co, vs, e, tl, rfl, _⟩
    exact .head _
  · clear F N N0
    rintro I i v m₁ nx oI h tk hi ⟨k, x, t, hkx, rfl⟩ hd0 ⟨oO', co, vs, e, tl', rfl, off', dO', htl, hrow, rfl⟩ F1 N1
    obtain ⟨b, hb, hbm, hb1, hb2, hb3, hb4, hb5⟩ := bod_at hbs hkx
    obtain ⟨ab, lt, us, t0, t1, k0, k1, hbv, hbb⟩ := hbt b hbm
    have hI1 : @Ne Nat dB I := hd0 (dB, oB) (.head _)
    have hI2 : @Ne Nat lB I := hd0 (lB, _) (.tail _ (.head _))
    have hI3 : @Ne Nat (L + 1 + 1 + 1) I := hd0 (L + 1 + 1 + 1, oO') (.tail _ (.tail _ (.head _)))
    have hI4 : @Ne Nat (L + 1 + 1 + 1 + 1) I := hd0 (L + 1 + 1 + 1 + 1, oG) (.tail _ (.tail _ (.tail _ (.tail _ (.head _)))))
    have hI6 : @Ne Nat sl I := hd0 (sl, oSl) (.tail _ (.tail _ (.tail _ (.head _))))
    have hI7 : @Ne Nat (L + 1 + 1 + 1 + 1 + 1) I := hd0 (L + 1 + 1 + 1 + 1 + 1, oLs) (.tail _ (.tail _ (.tail _ (.tail _ (.tail _ (.head _))))))
    have hI8 : @Ne Nat (L + 1 + 1) I := hd0 (L + 1 + 1, oCB) (.tail _ (.tail _ (.tail _ (.tail _ (.tail _ (.tail _ (.head _)))))))
    have hI9 : @Ne Nat (L + 1) I := hd0 (L + 1, oCX) (.tail _ (.tail _ (.tail _ (.tail _ (.tail _ (.tail _ (.tail _ (.head _))))))))
    have hI5 : @Ne Nat lR I := hd0 (lR, _) (.tail _ (.tail _ (.tail _ (.tail _ (.tail _ (.tail _ (.tail _ (.tail _ (.head _)))))))))
    dsimp only [Led9] at N1
    obtain rfl : x = .ref ab := hb2.symm.trans hbv
    have hvl : vs.length ≤ 3 := by
      have e1 := hrow.1
      rw [List.length_map, List.length_take] at e1
      omega
    by_cases hq : k = g
    all_goals
      k_steps
      all_goals try (exfalso; omega)
      unfold Halt
      (rename Fr _ _ _ _ => F2)
      (rename News _ _ _ _ => N2)
      rename_i oO2 dO2 _
      refine row_call2 B F2 X T rfl (by decide) (by decide) ?_
      intro d nw h2 tk2 st fr hrt
      obtain ⟨F3, N3⟩ := after F2 N2 st fr
      have off3 := off9 (pre := [(I, oI)]) N2 fr off'
      have hII : ∀ p ∈ nw ++ tl', p.1 ≠ I := fun p hp => by
        rcases List.mem_append.mp hp with hp | hp
        · exact fresh_ne N2 fr hp (.head _)
        · exact hd0 p (.tail _ (.tail _ (.tail _ (.tail _ (.tail _ (.tail _ (.tail _ (.tail _ (.tail _ hp)))))))))
      replace hrt : RowTl (nw ++ tl') (.ref d) (genRow g b) := by
        have e9 : genRow g b = ⟨if k = g then 3600 else 5, k, k, .ref ab⟩ := by unfold genRow; rw [hb1, hbv]
        rw [e9]
        simp only [hq, if_true, if_false]
        exact RowTl.mono (by first | exact hrt | (rw [← hq]; exact hrt)) fun p hp => List.mem_append_left _ hp
      have htl4 : ∀ p ∈ tl', p ∈ nw ++ tl' := fun p hp => List.mem_append_right _ hp
      have hsub : ∀ p ∈ (I, oI) :: Led9 L dB lB sl lR oB box oO2 oG oLs oCB oCX oSl (listOf vs.toArray e) (nw ++ tl'), p ∈ nw ++ ((I, oI) :: Led9 L dB lB sl lR oB box oO2 oG oLs oCB oCX oSl (listOf vs.toArray e) tl') := by
        intro p hp
        simp only [List.mem_cons, List.mem_append] at hp ⊢
        rcases hp with h | h | h | h | h | h | h | h | h | h | h | h <;> simp [h]
      replace N3 := News.sub N3 hsub
      clear hsub
      have hMk : ∀ p ∈ nw, p ∈ nw ++ tl' := fun p hp => List.mem_append_left _ hp
      clear hMk
      generalize nw ++ tl' = tl3 at off3 hII hrt htl4 N3
      dsimp only [Led9] at N3
      dsimp only [Adr9] at off3
      clear F2 N2 N1 F1
      k_steps
      (rename Fr _ _ _ _ => F4)
      (rename News _ _ _ _ => N4)
      have hvs : vs.toArray.push (.ref d) = (vs ++ [Value.ref d]).toArray := by simp
      rw [hvs] at N4
      refine TEnd.intro (nx := Led9 L dB lB sl lR oB box oO2 oG oLs oCB oCX oSl (listOf (vs ++ [Value.ref d]).toArray (e + 1)) tl3) F4 N4 ?_ ⟨oO2, _, vs ++ [.ref d], e + 1, tl3, rfl, off3, dO2, fun p hp => htl4 p (htl p hp), ?_, rfl⟩
      · intro p hp
        simp only [List.mem_cons] at hp
        rcases hp with rfl | rfl | rfl | rfl | rfl | rfl | rfl | rfl | rfl | hp
        · exact hI1
        · exact hI2
        · exact hI3
        · exact hI6
        · exact hI4
        · exact hI7
        · exact hI8
        · exact hI9
        · exact hI5
        · exact hII p hp
      · rw [List.take_add_one, hb, List.map_append]
        exact (hrow.mono htl4).snoc hrt
  · rintro m₁ nx h tk ⟨oO', co, vs, e, tl', rfl, off', dO', htl, hrow, rfl⟩ F1 N1
    rw [List.length_map, List.take_length] at hrow
    exact ret h tk oO' co tl' vs e htl dO' off' hrow F1 N1
end Mine

end

section
open PySem PySem.W PyProof.Rows PySem.Calls
open PyProof.Rows.LCg
namespace Mine
section
variable {prog : Program} {w : World} {A : Around} {E : Value → Shared → Prop} {s : Shared}
theorem menu3_ints {value slice : PySem.Expr} {l : Addr} {a b c k : Int} {t1 t2 t3 u : Tok} {Q : Value → Shared → Prop} (hl : s.heap.IsList l #[.int a t1, .int b t2, .int c t3]) (h0 : 0 ≤ k) (h1 : k < 3) (h : ∀ x t, (x = a ∨ x = b ∨ x = c) → Q (.int x t) s)
    (hs : subscripted slice false (.ref l) (.int k u) = operate [.ref l, .int k u] (getItem (.ref l) (.int k u))) : wpAny (model prog w) A (subscriptTail value slice (.ref l) (.int k u)) Q E s := by
  have hk : k = 0 ∨ k = 1 ∨ k = 2 := by omega
  rcases hk with rfl | rfl | rfl
  · exact tail_any hl.typeIs slot_list_getitem.lookup (wpAny_getItem_list hl h0 (by decide) rfl (h _ _ (.inl rfl))) hs
  · exact tail_any hl.typeIs slot_list_getitem.lookup (wpAny_getItem_list hl h0 (by decide) rfl (h _ _ (.inr (.inl rfl)))) hs
  · exact tail_any hl.typeIs slot_list_getitem.lookup (wpAny_getItem_list hl h0 (by decide) rfl (h _ _ (.inr (.inr rfl)))) hs
theorem menu3_refs {value slice : PySem.Expr} {l a b c : Addr} {k : Int} {u : Tok} {Q : Value → Shared → Prop} (hl : s.heap.IsList l #[.ref a, .ref b, .ref c]) (h0 : 0 ≤ k) (h1 : k < 3) (h : ∀ x, Q (.ref x) s)
    (hs : subscripted slice false (.ref l) (.int k u) = operate [.ref l, .int k u] (getItem (.ref l) (.int k u))) : wpAny (model prog w) A (subscriptTail value slice (.ref l) (.int k u)) Q E s := by
  have hk : k = 0 ∨ k = 1 ∨ k = 2 := by omega
  rcases hk with rfl | rfl | rfl
  · exact tail_any hl.typeIs slot_list_getitem.lookup (wpAny_getItem_list hl h0 (by decide) rfl (h _)) hs
  · exact tail_any hl.typeIs slot_list_getitem.lookup (wpAny_getItem_list hl h0 (by decide) rfl (h _)) hs
  · exact tail_any hl.typeIs slot_list_getitem.lookup (wpAny_getItem_list hl h0 (by decide) rfl (h _)) hs
end
theorem subc {x : Addr × Obj} {l l' : Led} (h1 : x ∈ l') (h2 : ∀ p ∈ l, p ∈ l') : ∀ p ∈ x :: l, p ∈ l' := fun p hp => by
  rcases List.mem_cons.mp hp with rfl | hp
  · exact h1
  · exact h2 p hp
theorem pick3 {a k : Int} (h0 : 0 ≤ k) (h1 : k < 3) : [1 + a + 1, 1 + a + 3, 1 + a - 1].getD k.toNat 0 ≠ 1 + a := by
  have hk : k = 0 ∨ k = 1 ∨ k = 2 := by omega
  rcases hk with rfl | rfl | rfl
  · show 1 + a + 1 ≠ 1 + a; omega
  · show 1 + a + 3 ≠ 1 + a; omega
  · show 1 + a - 1 ≠ 1 + a; omega
theorem pick3' {o : Obj} {a k : Int} {t : Tok} (h : o.data = .cell (some (.int ([1 + a + 1, 1 + a + 3, 1 + a - 1].getD k.toNat 0) t))) (h0 : 0 ≤ k) (h1 : k < 3) : ∃ x, o.data = .cell (some (.int x t)) ∧ x ≠ 1 + a := ⟨_, h, pick3 h0 h1⟩
/-- the bodies' addresses and flags -/
def ValsAt (n : Nat) (kvs : List (Int × Value)) (ab : Int → Addr) : Prop := ∀ k : Int, 1 ≤ k → k ≤ n → valueAt kvs k = some (.ref (ab k))


def Row6J (many : Value) (L dB lB sl lR : Addr) (oB oG oCB oCX oSl : Obj) (tl0 : Led) (R0 : List RowD) (i : Nat) (m : PySem.Str → Option Value) (nx : Led) : Prop :=
  ∃ (oO oLs : Obj) (co cl : Option Value) (c : Int) (t : Tok) (e0 : Nat) (vs : List Value) (e : Nat) (al : List RowD) (tl : Led) (u : PySem.Str → Option Value), nx = Led9 L dB lB sl lR oB (boxO sl c t e0) oO oG oLs oCB oCX oSl (listOf vs.toArray e) tl ∧ OwnOff tl (Adr9 L dB lB lR) ∧ oO.data = .cell co ∧ oLs.data = .cell cl ∧ 0 ≤ c ∧ (∀ p ∈ tl0, p ∈ tl) ∧ RowsTl tl vs (R0 ++ al) ∧ (∀ r ∈ al, r.ls ≠ r.adv) ∧ al.length ≤ i ∧
    m = fun y => if y = PySem.Str.ofString "rows" then some (.ref lR) else if y = PySem.Str.ofString "many" then some many else u y


theorem item_mid {prog : Program} {w : World} {A : Around} {E : Value → Shared → Prop} {s : Shared} {value slice : PySem.Expr} {h₀ : Heap} {L t : Addr} {news : Led} {x0 x1 x2 : Value} {n : Nat} {u : Tok} {Q : Value → Shared → Prop} (N : News h₀ L s.heap news) (hm : (t, tupO [x0, x1, x2] n) ∈ news) (h : Q x1 s)
    (hs : subscripted slice false (.ref t) (.int 1 u) = operate [.ref t, .int 1 u] (getItem (.ref t) (.int 1 u))) (hg : ∀ r, letTemporaryGo value (.ref t) r = pure ()) : wpAny (model prog w) A (subscriptTail value slice (.ref t) (.int 1 u)) Q E s :=
  item_tuple (j := 1) (x := x1) (items := #[x0, x1, x2]) ⟨_, (N _ hm).1, rfl, _, rfl⟩ (by decide) (by decide) rfl rfl h hs hg
def forBody : Stmt → List Stmt
  | .For _ _ b _ _ => b
  | _ => []
set_option maxRecDepth 100000 in
set_option maxHeartbeats 8000000 in
theorem seg6_if {w : World} {p : Program} {loose : List PySem.Str} {mg mb : PySem.Str → Option Value} {mean : ExcName → Option Value} {h₀ : Heap} {L fa : Addr} {cd : Value} {s : Shared} {Q : Flow → Shared → Prop} {E : Value → Shared → Prop}
   (B : Below callerA h₀ [] h₀) (X : (hd.heap_39 w.params).In h₀) (T : Top p loose mean mg mb h₀) 
   {u : PySem.Str → Option Value} {lR dB lB sl I xl : Addr} {n : Nat} {tv many : Value} {oI oB oO oG oLs oCB oCX box oSl : Obj} {tl : Led} {e : Nat} {vs : List Value} {kvs : List (Int × Value)} {R0 : List RowD} {ab lt : Int → Addr} {fl : Int → Int} {own lsv : Int} {tO tL : Tok}
   (F : Fr h₀ L s.heap fun y => if y = PySem.Str.ofString "links" then some (.ref xl) else if y = PySem.Str.ofString "turn" then some tv else if y = PySem.Str.ofString "rows" then some (.ref lR) else if y = PySem.Str.ofString "many" then some many else u y)
   (N : News h₀ L s.heap ((I, oI) :: Led9 L dB lB sl lR oB box oO oG oLs oCB oCX oSl (listOf vs.toArray e) tl))
   (o1 : @LT.lt Nat _ (L + 6) sl) (o2 : @LT.lt Nat _ sl lB) (o3 : @LT.lt Nat _ lB dB) (o4 : @LT.lt Nat _ dB lR) (sB : (dB == sysModules) = false)
   (off : OwnOff tl (Adr9 L dB lB lR)) (hB : oB.IsDictOf (PySem.intKind PySem.Challenge.rw_rh0193_01.row.prog w) kvs)
   (hvals : ValsAt n kvs ab) (hab : ∀ k : Int, 1 ≤ k → k ≤ n → ∃ t0 t1 k0, (ab k, tupO [.str (PySem.Str.ofString "router") t0, .int (fl k) t1, .ref (lt k)] k0) ∈ tl)
   (hw1 : 1 ≤ own) (hw2 : own ≤ n) (hne : lsv ≠ own) (hI : ∀ p ∈ Led9 L dB lB sl lR oB box oO oG oLs oCB oCX oSl (listOf vs.toArray e) tl, p.1 ≠ I)
   (hrow : RowsTl tl vs R0) (hR0 : R0.length ≤ 9)
   (dB' : oCB.data = .cell (some (.ref dB))) (dO : oO.data = .cell (some (.int own tO))) (dL : oLs.data = .cell (some (.int lsv tL)))
   (ret : ∀ h' tk' tl' vs' e' al, (∀ p ∈ tl, p ∈ tl') → OwnOff tl' (Adr9 L dB lB lR) → RowsTl tl' vs' (R0 ++ al) → (∀ r ∈ al, r.ls ≠ r.adv) → al.length ≤ 1 → (∀ p ∈ tl', p.1 ≠ I) → Fr h₀ L h' (fun y => if y = PySem.Str.ofString "links" then some (.ref xl) else if y = PySem.Str.ofString "turn" then some tv else if y = PySem.Str.ofString "rows" then some (.ref lR) else if y = PySem.Str.ofString "many" then some many else u y) →
     News h₀ L h' ((I, oI) :: Led9 L dB lB sl lR oB box oO oG oLs oCB oCX oSl (listOf vs'.toArray e') tl') → Q .next { s with heap := h', toks := tk' }) :
   wpAny (model PySem.Challenge.rw_rh0193_01.row.prog w) (lawA L fa cd) (exec (nthS (forBody (lawSt 5)) 3) (lawEnv L fa cd)) Q E s := by
  k_with_none
  k_with "k_ne" => (refine neN ?_; (try dsimp only); first | (with_reducible first | assumption | exact Ne.symm (by assumption) | exact Nat.ne_of_gt (And.left (by assumption)) | exact Nat.ne_of_lt (And.left (by assumption)) | exact Nat.ne_of_gt (And.left (And.right (by assumption))) | exact Nat.ne_of_lt (And.left (And.right (by assumption))) | exact Nat.ne_of_gt (And.left (And.right (And.right (by assumption)))) | exact Nat.ne_of_lt (And.left (And.right (And.right (by assumption)))) | exact Nat.ne_of_gt (And.left (And.right (And.right (And.right (by assumption))))) | exact Nat.ne_of_lt (And.left (And.right (And.right (And.right (by assumption))))) | exact Nat.ne_of_gt (And.left (And.right (And.right (And.right (And.right (by assumption)))))) | exact Nat.ne_of_lt (And.left (And.right (And.right (And.right (And.right (by assumption)))))) | exact Nat.ne_of_gt (And.left (And.right (And.right (And.right (And.right (And.right (by assumption))))))) | exact Nat.ne_of_lt (And.left (And.right (And.right (And.right (And.right (And.right (by assumption))))))) | exact Nat.ne_of_gt (And.left (And.right (And.right (And.right (And.right (And.right (And.right (by assumption)))))))) | exact Nat.ne_of_lt (And.left (And.right (And.right (And.right (And.right (And.right (And.right (by assumption)))))))) | exact Nat.ne_of_gt (And.left (And.right (And.right (And.right (And.right (And.right (And.right (And.right (by assumption))))))))) | exact Nat.ne_of_lt (And.left (And.right (And.right (And.right (And.right (And.right (And.right (And.right (by assumption))))))))) | exact Nat.ne_of_gt (And.left (And.right (And.right (And.right (And.right (And.right (And.right (And.right (And.right (by assumption)))))))))) | exact Nat.ne_of_lt (And.left (And.right (And.right (And.right (And.right (And.right (And.right (And.right (And.right (by assumption)))))))))) | exact Nat.ne_of_gt (And.left (And.right (And.right (And.right (And.right (And.right (And.right (And.right (And.right (And.right (by assumption))))))))))) | exact Nat.ne_of_lt (And.left (And.right (And.right (And.right (And.right (And.right (And.right (And.right (And.right (And.right (by assumption))))))))))) | exact Nat.ne_of_gt (And.left (And.right (And.right (And.right (And.right (And.right (And.right (And.right (And.right (And.right (And.right (by assumption)))))))))))) | exact Nat.ne_of_lt (And.left (And.right (And.right (And.right (And.right (And.right (And.right (And.right (And.right (And.right (And.right (by assumption)))))))))))) | exact Nat.ne_of_gt (And.left (And.right (And.right (And.right (And.right (And.right (And.right (And.right (And.right (And.right (And.right (And.right (by assumption))))))))))))) | exact Nat.ne_of_lt (And.left (And.right (And.right (And.right (And.right (And.right (And.right (And.right (And.right (And.right (And.right (And.right (by assumption))))))))))))) | exact Nat.ne_of_gt (And.left (And.right (And.right (And.right (And.right (And.right (And.right (And.right (And.right (And.right (And.right (And.right (And.right (by assumption)))))))))))))) | exact Nat.ne_of_lt (And.left (And.right (And.right (And.right (And.right (And.right (And.right (And.right (And.right (And.right (And.right (And.right (And.right (by assumption)))))))))))))) | exact Nat.ne_of_gt (And.left (And.right (And.right (And.right (And.right (And.right (And.right (And.right (And.right (And.right (And.right (And.right (And.right (And.right (by assumption))))))))))))))) | exact Nat.ne_of_lt (And.left (And.right (And.right (And.right (And.right (And.right (And.right (And.right (And.right (And.right (And.right (And.right (And.right (And.right (by assumption))))))))))))))) | exact Nat.ne_of_gt (And.left (And.right (And.right (And.right (And.right (And.right (And.right (And.right (And.right (And.right (And.right (And.right (And.right (And.right (And.right (by assumption)))))))))))))))) | exact Nat.ne_of_lt (And.left (And.right (And.right (And.right (And.right (And.right (And.right (And.right (And.right (And.right (And.right (And.right (And.right (And.right (And.right (by assumption)))))))))))))))) | exact Nat.ne_of_gt (by assumption) | exact Nat.ne_of_lt (by assumption)) | (with_reducible first | exact Nat.ne_of_gt (Sep.a1a2 hsep) | exact Nat.ne_of_lt (Sep.a1a2 hsep) | exact Nat.ne_of_gt (Sep.a2a3 hsep) | exact Nat.ne_of_lt (Sep.a2a3 hsep) | exact Nat.ne_of_gt (Sep.a3a4 hsep) | exact Nat.ne_of_lt (Sep.a3a4 hsep) | exact Nat.ne_of_gt (Sep.a4a5 hsep) | exact Nat.ne_of_lt (Sep.a4a5 hsep) | exact Nat.ne_of_gt (Sep.a5s hsep) | exact Nat.ne_of_lt (Sep.a5s hsep) | exact Nat.ne_of_gt (Sep.sb hsep) | exact Nat.ne_of_lt (Sep.sb hsep) | exact Nat.ne_of_gt (Sep.bd hsep) | exact Nat.ne_of_lt (Sep.bd hsep) | exact Nat.ne_of_gt (Sep.dr hsep) | exact Nat.ne_of_lt (Sep.dr hsep) | exact Nat.ne_of_gt (Sep.a1a3 hsep) | exact Nat.ne_of_lt (Sep.a1a3 hsep) | exact Nat.ne_of_gt (Sep.a2a4 hsep) | exact Nat.ne_of_lt (Sep.a2a4 hsep) | exact Nat.ne_of_gt (Sep.a3a5 hsep) | exact Nat.ne_of_lt (Sep.a3a5 hsep) | exact Nat.ne_of_gt (Sep.a4s hsep) | exact Nat.ne_of_lt (Sep.a4s hsep) | exact Nat.ne_of_gt (Sep.a5b hsep) | exact Nat.ne_of_lt (Sep.a5b hsep) | exact Nat.ne_of_gt (Sep.sd hsep) | exact Nat.ne_of_lt (Sep.sd hsep) | exact Nat.ne_of_gt (Sep.br hsep) | exact Nat.ne_of_lt (Sep.br hsep) | exact Nat.ne_of_gt (Sep.a1a4 hsep) | exact Nat.ne_of_lt (Sep.a1a4 hsep) | exact Nat.ne_of_gt (Sep.a2a5 hsep) | exact Nat.ne_of_lt (Sep.a2a5 hsep) | exact Nat.ne_of_gt (Sep.a3s hsep) | exact Nat.ne_of_lt (Sep.a3s hsep) | exact Nat.ne_of_gt (Sep.a4b hsep) | exact Nat.ne_of_lt (Sep.a4b hsep) | exact Nat.ne_of_gt (Sep.a5d hsep) | exact Nat.ne_of_lt (Sep.a5d hsep) | exact Nat.ne_of_gt (Sep.sr hsep) | exact Nat.ne_of_lt (Sep.sr hsep) | exact Nat.ne_of_gt (Sep.a1a5 hsep) | exact Nat.ne_of_lt (Sep.a1a5 hsep) | exact Nat.ne_of_gt (Sep.a2s hsep) | exact Nat.ne_of_lt (Sep.a2s hsep) | exact Nat.ne_of_gt (Sep.a3b hsep) | exact Nat.ne_of_lt (Sep.a3b hsep) | exact Nat.ne_of_gt (Sep.a4d hsep) | exact Nat.ne_of_lt (Sep.a4d hsep) | exact Nat.ne_of_gt (Sep.a5r hsep) | exact Nat.ne_of_lt (Sep.a5r hsep) | exact Nat.ne_of_gt (Sep.a1s hsep) | exact Nat.ne_of_lt (Sep.a1s hsep) | exact Nat.ne_of_gt (Sep.a2b hsep) | exact Nat.ne_of_lt (Sep.a2b hsep) | exact Nat.ne_of_gt (Sep.a3d hsep) | exact Nat.ne_of_lt (Sep.a3d hsep) | exact Nat.ne_of_gt (Sep.a4r hsep) | exact Nat.ne_of_lt (Sep.a4r hsep) | exact Nat.ne_of_gt (Sep.a1b hsep) | exact Nat.ne_of_lt (Sep.a1b hsep) | exact Nat.ne_of_gt (Sep.a2d hsep) | exact Nat.ne_of_lt (Sep.a2d hsep) | exact Nat.ne_of_gt (Sep.a3r hsep) | exact Nat.ne_of_lt (Sep.a3r hsep) | exact Nat.ne_of_gt (Sep.a1d hsep) | exact Nat.ne_of_lt (Sep.a1d hsep) | exact Nat.ne_of_gt (Sep.a2r hsep) | exact Nat.ne_of_lt (Sep.a2r hsep) | exact Nat.ne_of_gt (Sep.a1r hsep) | exact Nat.ne_of_lt (Sep.a1r hsep)) | omega)
  k_with "call ref" => (k_here; first | ((with_reducible rename Below callerA _ _ _ => KB); (with_reducible rename IntsAre _ _ => hws); k_dflt (refine' draw_call KB ?mF ?mX ?mT ?mk ?md ?mu ?mN ?mU ?msb ?ms ?msc ?msd hws ?ml ?m0 ?mm ?_; (case mF => k_asm); (case mX => assumption); (case mT => k_asm); (case mN => k_asm); (case mk => rfl); (case md => decide); (case mu => decide); (case mU => k_updF); (case ms => k_mem); (case msc => rfl); (case msd => rfl); (case msb => k_ne); (case ml => assumption); (case m0 => omega); (case mm => omega)); intro _ _ _ _ _ _ _ N9 V8 V9; (try dsimp only at N9); revert N9 V8 V9; intro _ _ _; (try k_sweep)) | refine halt ?_)
  k_with "pyIter ref" => (k_here; refine halt ?_)
  k_with "subscriptTail Name Name ref int" => (k_here; (with_reducible rename ValsAt _ _ _ => hv9); k_dflt (refine' kda_item (knd := PySem.intKind _ _) ?a ?b ?c (intKind_is _ _ _ _) ?d ?_; (case a => k_asm); (case b => k_mem); (case c => assumption); (case d => exact hv9 _ (by omega) (by omega))))
  k_with "subscriptTail Name Call ref int" => (k_here; k_dflt (first
  | (refine' menu3_ints ?ml ?m0 ?m1 ?_ ?ms; (case ml => exact ⟨_, (News.get (by k_asm) (by k_mem)), rfl, _, rfl⟩); (case m0 => omega); (case m1 => omega); (case ms => with_unfolding_all rfl); intro _ _ _)
  | (refine' menu3_refs ?ml ?m0 ?m1 ?_ ?ms; (case ml => exact ⟨_, (News.get (by k_asm) (by k_mem)), rfl, _, rfl⟩); (case m0 => omega); (case m1 => omega); (case ms => with_unfolding_all rfl); intro _)))
  k_with "newTuple" => (k_here; k_dflt (refine' new_tup ?mF ?mN ?_ ?mz; (case mF => k_asm); (case mN => k_asm); (case mz => exact Nat.le_of_ble_eq_true rfl)); intro _ _ _ _ L9; (try k_lt L9); (try (revert L9; intro _)); (try k_sweep))
  k_with "eval ListComp" => (k_here; k_dflt (refine' comp_eval ?mF ?mcl ?mce ?mki ?mna ?mfo ?_; (case mF => k_asm); (case mcl => with_unfolding_all rfl); (case mce => decide); (case mki => rfl); (case mna => decide); (case mfo => (intro _; rfl))))
  k_with "compareOp Eq ref ref" => (k_here; k_dflt (first
  | (refine' eq_two ?ma ?mb ?mu ?_; (case ma => exact ⟨_, (News.get (by k_asm) (by k_mem)), rfl, _, rfl⟩); (case mb => exact ⟨_, (News.get (by k_asm) (by k_mem)), rfl, _, rfl⟩); (case mu => decide))
  | (refine' eq_intsK ?ma ?mi ?mb ?mj ?mu ?_; (case ma => exact ⟨_, (News.get (by k_asm) (by k_mem)), rfl, _, rfl⟩); (case mi => assumption); (case mb => exact ⟨_, (News.get (by k_asm) (by k_mem)), rfl, _, rfl⟩); (case mj => exact IntsAre.nil); (case mu => decide))))
  k_with "subscriptTail Name Slice ref ref" => (k_here; k_dflt (refine' cut_tup ?mF ?mN ?mt ?mp ?mq ?ma ?mz ?my ?_ ?ms ?mg; (case mF => k_asm); (case mN => k_asm); (case mt => exact ⟨_, (News.get (by k_asm) (by repeat (first | assumption | refine List.Mem.tail _ ?_))), rfl, _, rfl⟩); (case mp => first | exact IsPart.none | exact IsPart.int _ _); (case mq => first | exact IsPart.none | exact IsPart.int _ _); (case ma => exact rfl); (case mz => kl_lit); (case my => exact Nat.le_of_ble_eq_true rfl); (case ms => with_unfolding_all rfl); (case mg => (intro _; with_unfolding_all rfl))); intro _ _ _ _ L9; (try k_lt L9); (try (revert L9; intro _)); (try k_sweep))
  k_with "subscriptTail Name Constant ref int" => (k_here; k_dflt (refine' item_mid ?N ?t ?_ ?hs ?hg; (case N => k_asm); (case t => (repeat (first | assumption | refine List.Mem.tail _ ?_))); (case hs => with_unfolding_all rfl); (case hg => intro _; with_unfolding_all rfl)))
  w_top off
  revert X; k_fill; intro X
  have hsep : Sep L sl lB dB lR := ⟨o1, o2, o3, o4⟩
  have hI1 : @Ne Nat dB I := hI (dB, oB) (.head _)
  have hI2 : @Ne Nat lB I := hI (lB, _) (.tail _ (.head _))
  have hI3 : @Ne Nat (L + 1 + 1 + 1) I := hI (L + 1 + 1 + 1, oO) (.tail _ (.tail _ (.head _)))
  have hI4 : @Ne Nat (L + 1 + 1 + 1 + 1) I := hI (L + 1 + 1 + 1 + 1, oG) (.tail _ (.tail _ (.tail _ (.tail _ (.head _)))))
  have hI5 : @Ne Nat lR I := hI (lR, _) (.tail _ (.tail _ (.tail _ (.tail _ (.tail _ (.tail _ (.tail _ (.tail _ (.head _)))))))))
  have hIt : ∀ p ∈ tl, p.1 ≠ I := fun p hp => hI p (.tail _ (.tail _ (.tail _ (.tail _ (.tail _ (.tail _ (.tail _ (.tail _ (.tail _ hp)))))))))
  have N0 := N
  dsimp only [Led9, Adr9] at N off
  show wpAny _ (callerA.deeper (envOfC _ (PySem.Scope.mk _ _ _ _ _) _ _ _)) (exec (Stmt.If _ _ _ _) (envOfC _ (PySem.Scope.mk _ _ _ _ _) _ _ _)) _ _ _
  (try k_fold)
  k_steps
  refine CompOk.intro (news := (I, oI) :: Led9 L dB lB sl lR oB box oO oG oLs oCB oCX oSl (listOf vs.toArray e) tl) (fun i ys nx => nx = (I, oI) :: Led9 L dB lB sl lR oB box oO oG oLs oCB oCX oSl (listOf vs.toArray e) tl ∧ ∃ ns, IntsAre ys ns)
    (fun i v m' => ∃ (r : RowD) (hdd : Addr) (t1 t2 t3 t4 t5 t6 t7 : Tok), m' (PySem.Str.ofString "head") = some (.ref hdd) ∧ (hdd, tupO [.int r.age t1, .int 2 t2, .int 1 t3, .int r.ls t4, .int r.adv t5, .int 9 t6, .int 0 t7]) ∈ tl)
    (Src.list rfl (N0 (lR, _) (.tail _ (.tail _ (.tail _ (.tail _ (.tail _ (.tail _ (.tail _ (.tail _ (.tail _ (.head _))))))))))).1 rfl rfl) (by rw [sizeLine_eq, hrow.1]; omega) (.inr fun i ys nx h => h.1 ▸ .tail _ (.tail _ (.tail _ (.tail _ (.tail _ (.tail _ (.tail _ (.tail _ (.tail _ (.head _)))))))))) (N0 (lR, _) (.tail _ (.tail _ (.tail _ (.tail _ (.tail _ (.tail _ (.tail _ (.tail _ (.tail _ (.head _))))))))))).2.1 F N0 ⟨rfl, [], .nil⟩ ?_ ?_ ?_
  · rintro i v C mC ys nx s' Q E hi hv ⟨rfl, hJ⟩ F1 N1 hn nC n2 h
    obtain ⟨r, hr⟩ : ∃ r, R0[i]? = some r := ⟨_, List.getElem?_eq_getElem (by rw [← hrow.1]; exact hi)⟩
    obtain ⟨a, hdd, b, t1, t2, t3, t4, t5, t6, t7, rfl, hbd, hm1, hm2⟩ := hrow.2 i v r hv hr
    refine asg_Names (ns := [(_, _), (_, _)]) (vs := [.ref hdd, r.body]) rfl rfl (by decide) rfl (⟨_, (N1 _ (.tail _ (.tail _ (.tail _ (.tail _ (.tail _ (.tail _ (.tail _ (.tail _ (.tail _ (.tail _ hm1))))))))))).1, rfl, _, rfl⟩ : Heap.IsTuple _ _ _) hn fun h' m' tk hn' hm he => h h' m' tk hn' ⟨r, hdd, t1, t2, t3, t4, t5, t6, t7, ?_, hm2⟩ he
    rw [hm]; rfl
  · rintro i v ys nx I2 oI2 C oC D m₂ h tk E' hi hv ⟨rfl, hJ⟩ hC ⟨r, hdd, t1, t2, t3, t4, t5, t6, t7, hhead, hm2⟩ F1 N1 off3 ne hyl
    show wpAny _ _ (isTrue _ _ _) _ _ _
    clear F N N0
    obtain ⟨ns, hns⟩ := hJ
    dsimp only [Led9] at N1
    k_steps
    · (rename Fr _ _ _ _ => F6)
      (rename News _ _ _ _ => N6)
      exact CEnd.intro F6 (News.sub N6 fun p hp => .tail _ (.tail _ hp)) off3 ⟨rfl, ns ++ [1], IntsAre.append hns (.cons _ _ .nil)⟩
    · (rename Fr _ _ _ _ => F6)
      (rename News _ _ _ _ => N6)
      exact CEnd.intro F6 (News.sub N6 fun p hp => .tail _ (.tail _ hp)) off3 ⟨rfl, ns, hns⟩
  · rintro D ys nx offD ⟨rfl, ns, hns⟩ h tk F1 N1
    clear F N N0
    obtain ⟨bt0, bt1, bk0, hbm⟩ := hab own hw1 hw2
    have hvl : vs.length ≤ 9 := by rw [hrow.1]; exact hR0
    have hDn : ∀ p ∈ (I, oI) :: Led9 L dB lB sl lR oB box oO oG oLs oCB oCX oSl (listOf vs.toArray e) tl, p.1 ≠ D := offD
    dsimp only [Led9] at N1
    k_steps
    · unfold Halt
      (rename Fr _ _ _ _ => F2)
      (rename News _ _ _ _ => N2)
      refine row_call2 B F2 X T rfl (by decide) (by decide) ?_
      intro d nw h2 tk2 st fr hrt
      obtain ⟨F3, N3⟩ := after F2 N2 st fr
      have off3 : OwnOff (nw ++ tl) (Adr9 L dB lB lR) := off_fresh N2 fr off fun b hb => by
        simp only [List.mem_cons, List.not_mem_nil, or_false] at hb
        rcases hb with rfl | rfl | rfl | rfl | rfl | rfl
        all_goals exact ⟨_, by k_mem⟩
      have hII : ∀ p ∈ nw ++ tl, p.1 ≠ I := fun p hp => by
        rcases List.mem_append.mp hp with hp | hp
        · exact fresh_ne N2 fr hp (q := (I, oI)) (by k_mem)
        · exact hIt p hp
      replace N3 := News.sub N3 (news' := (I, oI) :: Led9 L dB lB sl lR oB box oO oG oLs oCB oCX oSl (listOf vs.toArray e) (nw ++ tl)) (by
        repeat (refine subc (List.mem_append_right _ (by k_mem)) ?_)
        intro p hp
        rcases List.mem_append.mp hp with hp | hp
        · exact List.mem_append_left _ hp
        · exact List.mem_append_right _ (by repeat (first | exact hp | refine List.Mem.tail _ ?_)))
      have htl4 : ∀ p ∈ tl, p ∈ nw ++ tl := fun p hp => List.mem_append_right _ hp
      replace hrt := RowTl.mono hrt fun p hp => List.mem_append_left tl hp
      generalize nw ++ tl = tl3 at off3 hII hrt htl4 N3
      have off4 := off3
      dsimp only [Led9] at N3
      dsimp only [Adr9] at off3
      clear F2 N2 off
      k_steps
      (rename Fr _ _ _ _ => F4)
      (rename News _ _ _ _ => N4)
      have hvs : vs.toArray.push (.ref d) = (vs ++ [Value.ref d]).toArray := by simp
      rw [hvs] at N4
      exact ret _ _ tl3 (vs ++ [.ref d]) (e + 1) [_] htl4 off4 ((hrow.mono htl4).snoc hrt) (fun r hr => by rw [List.mem_singleton.mp hr]; exact hne) (Nat.le_refl _) hII F4 N4
    · (rename Fr _ _ _ _ => F2)
      (rename News _ _ _ _ => N2)
      exact ret _ _ tl vs e [] (fun _ h => h) off (by rw [List.append_nil]; exact hrow) (fun _ h => nomatch h) (Nat.zero_le _) hIt F2 (News.sub N2 fun p hp => .tail _ (.tail _ hp))
end Mine

end

section
open PySem PySem.W PyProof.Rows PySem.Calls
open PyProof.Rows.LCg
namespace Mine

set_option maxRecDepth 100000 in
set_option maxHeartbeats 8000000 in
theorem seg6 {w : World} {p : Program} {loose : List PySem.Str} {mg mb : PySem.Str → Option Value} {mean : ExcName → Option Value} {h₀ : Heap} {L fa : Addr} {cd : Value} {s : Shared} {Q : Flow → Shared → Prop} {E : Value → Shared → Prop}
   (hE : PassesOwn (model PySem.Challenge.rw_rh0193_01.row.prog w) (lawA L fa cd) (lawEnv L fa cd) E)
   (B : Below callerA h₀ [] h₀) (X : (hd.heap_39 w.params).In h₀) (T : Top p loose mean mg mb h₀) 
   {u : PySem.Str → Option Value} {lR dB lB sl : Addr} {n : Nat} {tkm : Tok} {oB oO oG oLs oCB oCX : Obj} {tl : Led} {c : Int} {t : Tok} {e0 csl e : Nat} {ws vs : List Value} {zs : List Int} {bs : List BD} {R0 : List RowD}
   (F : Fr h₀ L s.heap fun y => if y = PySem.Str.ofString "rows" then some (.ref lR) else if y = PySem.Str.ofString "many" then some (.int n tkm) else u y)
   (N : News h₀ L s.heap (Led9 L dB lB sl lR oB (boxO sl c t e0) oO oG oLs oCB oCX (listOf ws.toArray csl) (listOf vs.toArray e) tl))
   (hws : IntsAre ws zs) (hzs : zs.length ≤ 30) (c0 : 0 ≤ c)
   (o1 : @LT.lt Nat _ (L + 6) sl) (o2 : @LT.lt Nat _ sl lB) (o3 : @LT.lt Nat _ lB dB) (o4 : @LT.lt Nat _ dB lR) (sB : (dB == sysModules) = false)
   (off : OwnOff tl (Adr9 L dB lB lR)) (hB : oB.IsDictOf (PySem.intKind PySem.Challenge.rw_rh0193_01.row.prog w) (bs.map fun b => (b.own, b.val)))
   (hbs : bs.map (·.own) = upTo n) (hbt : ∀ b ∈ bs, BodTl tl n b) (hn2 : 2 ≤ n) (hn3 : n ≤ 3)
   (hrow : RowsTl tl vs R0) (hR0 : R0.length ≤ 3)
   (dX : oCX.data = .cell (some (.ref lB))) (dB' : oCB.data = .cell (some (.ref dB))) {vO vL : Option Value} (dO : oO.data = .cell vO) (dL : oLs.data = .cell vL)
   (ret : ∀ h' tk' oO' vO' oLs' box' tl' vs e al m, (∀ p ∈ tl, p ∈ tl') → oO'.data = .cell vO' → OwnOff tl' (Adr9 L dB lB lR) → RowsTl tl' vs (R0 ++ al) → (∀ r ∈ al, r.ls ≠ r.adv) → al.length ≤ 3 → m (PySem.Str.ofString "rows") = some (.ref lR) → Fr h₀ L h' m →
     News h₀ L h' (Led9 L dB lB sl lR oB box' oO' oG oLs' oCB oCX (listOf ws.toArray csl) (listOf vs.toArray e) tl') → Q .next { s with heap := h', toks := tk' }) :
   wpAny (model PySem.Challenge.rw_rh0193_01.row.prog w) (lawA L fa cd) (exec (lawSt 5) (lawEnv L fa cd)) Q E s := by
  k_with_none
  k_with "k_ne" => (refine neN ?_; (try dsimp only); first | (with_reducible first | assumption | exact Ne.symm (by assumption) | exact Nat.ne_of_gt (And.left (by assumption)) | exact Nat.ne_of_lt (And.left (by assumption)) | exact Nat.ne_of_gt (And.left (And.right (by assumption))) | exact Nat.ne_of_lt (And.left (And.right (by assumption))) | exact Nat.ne_of_gt (And.left (And.right (And.right (by assumption)))) | exact Nat.ne_of_lt (And.left (And.right (And.right (by assumption)))) | exact Nat.ne_of_gt (And.left (And.right (And.right (And.right (by assumption))))) | exact Nat.ne_of_lt (And.left (And.right (And.right (And.right (by assumption))))) | exact Nat.ne_of_gt (And.left (And.right (And.right (And.right (And.right (by assumption)))))) | exact Nat.ne_of_lt (And.left (And.right (And.right (And.right (And.right (by assumption)))))) | exact Nat.ne_of_gt (And.left (And.right (And.right (And.right (And.right (And.right (by assumption))))))) | exact Nat.ne_of_lt (And.left (And.right (And.right (And.right (And.right (And.right (by assumption))))))) | exact Nat.ne_of_gt (And.left (And.right (And.right (And.right (And.right (And.right (And.right (by assumption)))))))) | exact Nat.ne_of_lt (And.left (And.right (And.right (And.right (And.right (And.right (And.right (by assumption)))))))) | exact Nat.ne_of_gt (And.left (And.right (And.right (And.right (And.right (And.right (And.right (And.right (by assumption))))))))) | exact Nat.ne_of_lt (And.left (And.right (And.right (And.right (And.right (And.right (And.right (And.right (by assumption))))))))) | exact Nat.ne_of_gt (And.left (And.right (And.right (And.right (And.right (And.right (And.right (And.right (And.right (by assumption)))))))))) | exact Nat.ne_of_lt (And.left (And.right (And.right (And.right (And.right (And.right (And.right (And.right (And.right (by assumption)))))))))) | exact Nat.ne_of_gt (And.left (And.right (And.right (And.right (And.right (And.right (And.right (And.right (And.right (And.right (by assumption))))))))))) | exact Nat.ne_of_lt (And.left (And.right (And.right (And.right (And.right (And.right (And.right (And.right (And.right (And.right (by assumption))))))))))) | exact Nat.ne_of_gt (And.left (And.right (And.right (And.right (And.right (And.right (And.right (And.right (And.right (And.right (And.right (by assumption)))))))))))) | exact Nat.ne_of_lt (And.left (And.right (And.right (And.right (And.right (And.right (And.right (And.right (And.right (And.right (And.right (by assumption)))))))))))) | exact Nat.ne_of_gt (And.left (And.right (And.right (And.right (And.right (And.right (And.right (And.right (And.right (And.right (And.right (And.right (by assumption))))))))))))) | exact Nat.ne_of_lt (And.left (And.right (And.right (And.right (And.right (And.right (And.right (And.right (And.right (And.right (And.right (And.right (by assumption))))))))))))) | exact Nat.ne_of_gt (And.left (And.right (And.right (And.right (And.right (And.right (And.right (And.right (And.right (And.right (And.right (And.right (And.right (by assumption)))))))))))))) | exact Nat.ne_of_lt (And.left (And.right (And.right (And.right (And.right (And.right (And.right (And.right (And.right (And.right (And.right (And.right (And.right (by assumption)))))))))))))) | exact Nat.ne_of_gt (And.left (And.right (And.right (And.right (And.right (And.right (And.right (And.right (And.right (And.right (And.right (And.right (And.right (And.right (by assumption))))))))))))))) | exact Nat.ne_of_lt (And.left (And.right (And.right (And.right (And.right (And.right (And.right (And.right (And.right (And.right (And.right (And.right (And.right (And.right (by assumption))))))))))))))) | exact Nat.ne_of_gt (And.left (And.right (And.right (And.right (And.right (And.right (And.right (And.right (And.right (And.right (And.right (And.right (And.right (And.right (And.right (by assumption)))))))))))))))) | exact Nat.ne_of_lt (And.left (And.right (And.right (And.right (And.right (And.right (And.right (And.right (And.right (And.right (And.right (And.right (And.right (And.right (And.right (by assumption)))))))))))))))) | exact Nat.ne_of_gt (by assumption) | exact Nat.ne_of_lt (by assumption)) | (with_reducible first | exact Nat.ne_of_gt (Sep.a1a2 hsep) | exact Nat.ne_of_lt (Sep.a1a2 hsep) | exact Nat.ne_of_gt (Sep.a2a3 hsep) | exact Nat.ne_of_lt (Sep.a2a3 hsep) | exact Nat.ne_of_gt (Sep.a3a4 hsep) | exact Nat.ne_of_lt (Sep.a3a4 hsep) | exact Nat.ne_of_gt (Sep.a4a5 hsep) | exact Nat.ne_of_lt (Sep.a4a5 hsep) | exact Nat.ne_of_gt (Sep.a5s hsep) | exact Nat.ne_of_lt (Sep.a5s hsep) | exact Nat.ne_of_gt (Sep.sb hsep) | exact Nat.ne_of_lt (Sep.sb hsep) | exact Nat.ne_of_gt (Sep.bd hsep) | exact Nat.ne_of_lt (Sep.bd hsep) | exact Nat.ne_of_gt (Sep.dr hsep) | exact Nat.ne_of_lt (Sep.dr hsep) | exact Nat.ne_of_gt (Sep.a1a3 hsep) | exact Nat.ne_of_lt (Sep.a1a3 hsep) | exact Nat.ne_of_gt (Sep.a2a4 hsep) | exact Nat.ne_of_lt (Sep.a2a4 hsep) | exact Nat.ne_of_gt (Sep.a3a5 hsep) | exact Nat.ne_of_lt (Sep.a3a5 hsep) | exact Nat.ne_of_gt (Sep.a4s hsep) | exact Nat.ne_of_lt (Sep.a4s hsep) | exact Nat.ne_of_gt (Sep.a5b hsep) | exact Nat.ne_of_lt (Sep.a5b hsep) | exact Nat.ne_of_gt (Sep.sd hsep) | exact Nat.ne_of_lt (Sep.sd hsep) | exact Nat.ne_of_gt (Sep.br hsep) | exact Nat.ne_of_lt (Sep.br hsep) | exact Nat.ne_of_gt (Sep.a1a4 hsep) | exact Nat.ne_of_lt (Sep.a1a4 hsep) | exact Nat.ne_of_gt (Sep.a2a5 hsep) | exact Nat.ne_of_lt (Sep.a2a5 hsep) | exact Nat.ne_of_gt (Sep.a3s hsep) | exact Nat.ne_of_lt (Sep.a3s hsep) | exact Nat.ne_of_gt (Sep.a4b hsep) | exact Nat.ne_of_lt (Sep.a4b hsep) | exact Nat.ne_of_gt (Sep.a5d hsep) | exact Nat.ne_of_lt (Sep.a5d hsep) | exact Nat.ne_of_gt (Sep.sr hsep) | exact Nat.ne_of_lt (Sep.sr hsep) | exact Nat.ne_of_gt (Sep.a1a5 hsep) | exact Nat.ne_of_lt (Sep.a1a5 hsep) | exact Nat.ne_of_gt (Sep.a2s hsep) | exact Nat.ne_of_lt (Sep.a2s hsep) | exact Nat.ne_of_gt (Sep.a3b hsep) | exact Nat.ne_of_lt (Sep.a3b hsep) | exact Nat.ne_of_gt (Sep.a4d hsep) | exact Nat.ne_of_lt (Sep.a4d hsep) | exact Nat.ne_of_gt (Sep.a5r hsep) | exact Nat.ne_of_lt (Sep.a5r hsep) | exact Nat.ne_of_gt (Sep.a1s hsep) | exact Nat.ne_of_lt (Sep.a1s hsep) | exact Nat.ne_of_gt (Sep.a2b hsep) | exact Nat.ne_of_lt (Sep.a2b hsep) | exact Nat.ne_of_gt (Sep.a3d hsep) | exact Nat.ne_of_lt (Sep.a3d hsep) | exact Nat.ne_of_gt (Sep.a4r hsep) | exact Nat.ne_of_lt (Sep.a4r hsep) | exact Nat.ne_of_gt (Sep.a1b hsep) | exact Nat.ne_of_lt (Sep.a1b hsep) | exact Nat.ne_of_gt (Sep.a2d hsep) | exact Nat.ne_of_lt (Sep.a2d hsep) | exact Nat.ne_of_gt (Sep.a3r hsep) | exact Nat.ne_of_lt (Sep.a3r hsep) | exact Nat.ne_of_gt (Sep.a1d hsep) | exact Nat.ne_of_lt (Sep.a1d hsep) | exact Nat.ne_of_gt (Sep.a2r hsep) | exact Nat.ne_of_lt (Sep.a2r hsep) | exact Nat.ne_of_gt (Sep.a1r hsep) | exact Nat.ne_of_lt (Sep.a1r hsep)) | omega)
  k_with "call ref" => (k_here; first | ((with_reducible rename Below callerA _ _ _ => KB); (with_reducible rename IntsAre _ _ => hws); k_dflt (refine' draw_call KB ?mF ?mX ?mT ?mk ?md ?mu ?mN ?mU ?msb ?ms ?msc ?msd hws ?ml ?m0 ?mm ?_; (case mF => k_asm); (case mX => assumption); (case mT => k_asm); (case mN => k_asm); (case mk => rfl); (case md => decide); (case mu => decide); (case mU => k_updF); (case ms => k_mem); (case msc => rfl); (case msd => rfl); (case msb => k_ne); (case ml => assumption); (case m0 => omega); (case mm => omega)); intro _ _ _ _ _ _ _ N9 V8 V9; (try dsimp only at N9); revert N9 V8 V9; intro _ _ _; (try k_sweep)) | refine halt ?_)
  k_with "pyIter ref" => (k_here; refine halt ?_)
  k_with "subscriptTail Name Name ref int" => (k_here; (with_reducible rename ValsAt _ _ _ => hv9); k_dflt (refine' kda_item (knd := PySem.intKind _ _) ?a ?b ?c (intKind_is _ _ _ _) ?d ?_; (case a => k_asm); (case b => k_mem); (case c => assumption); (case d => exact hv9 _ (by omega) (by omega))))
  k_with "subscriptTail Name Call ref int" => (k_here; k_dflt (first
  | (refine' menu3_ints ?ml ?m0 ?m1 ?_ ?ms; (case ml => exact ⟨_, (News.get (by k_asm) (by k_mem)), rfl, _, rfl⟩); (case m0 => omega); (case m1 => omega); (case ms => with_unfolding_all rfl); intro _ _ _)
  | (refine' menu3_refs ?ml ?m0 ?m1 ?_ ?ms; (case ml => exact ⟨_, (News.get (by k_asm) (by k_mem)), rfl, _, rfl⟩); (case m0 => omega); (case m1 => omega); (case ms => with_unfolding_all rfl); intro _)))
  k_with "newTuple" => (k_here; k_dflt (refine' new_tup ?mF ?mN ?_ ?mz; (case mF => k_asm); (case mN => k_asm); (case mz => exact Nat.le_of_ble_eq_true rfl)); intro _ _ _ _ L9; (try k_lt L9); (try (revert L9; intro _)); (try k_sweep))
  k_with "eval ListComp" => (k_here; k_dflt (refine' comp_eval ?mF ?mcl ?mce ?mki ?mna ?mfo ?_; (case mF => k_asm); (case mcl => with_unfolding_all rfl); (case mce => decide); (case mki => rfl); (case mna => decide); (case mfo => (intro _; rfl))))
  k_with "exec If" => (k_here; refine halt ?_)
  w_top off
  revert X; k_fill; intro X
  have hsep : Sep L sl lB dB lR := ⟨o1, o2, o3, o4⟩
  dsimp only [Led9, Adr9] at N off
  show wpAny _ (callerA.deeper (envOfC _ (PySem.Scope.mk _ _ _ _ _) _ _ _)) (exec (Stmt.For _ _ _ _ _) (envOfC _ (PySem.Scope.mk _ _ _ _ _) _ _ _)) _ _ _
  (try k_fold)
  refine For_turns F ?_ (hE := hE)
  k_steps
  unfold Halt
  (rename Fr _ _ _ _ => F1)
  (rename News _ _ _ _ => N1)
  (rename IsRange _ _ _ _ _ _ _ _ => hR)
  rename_i h1 tk1 vv t1 e1 t2 F0 N0 v0 v1 h2 tk2 _ _ _ keep
  clear F0 N0
  obtain ⟨k3, hk3⟩ : ∃ k3 : Nat, (k3 : Int) = 1 + vv := ⟨(1 + vv).toNat, by omega⟩
  rw [← hk3] at hR
  have hrs := range_size0 (n := k3) (by omega)
  refine turns_src (Row6J (.int n tkm) L dB lB sl lR oB oG oCB oCX (listOf ws.toArray csl) tl R0)
    (Src.rangeF (n := k3) rfl (N1 _ (.head _)).1 hR hrs.2 hrs.1) (.inr ?_) (N1 _ (.head _)).2.1 F1 N1 ⟨oO, oLs, _, _, c + 1, t1, e1, vs, e, [], tl, u, rfl, off, dO, dL, by omega, fun _ h => h, by rw [List.append_nil]; exact hrow, (fun _ h => nomatch h), Nat.le_refl _, rfl⟩ ?_ ?_
  · rintro i m nx ⟨oO, oLs, co, cl, c, t, e0, vs, e, al, tl, u, rfl, _⟩
    exact .head _
  · clear F1 N1 keep
    obtain ⟨ab, lt, us, fl, hab⟩ : ∃ (ab lt : Int → Addr) (us : Int → List Value) (fl : Int → Int), ∀ k : Int, 1 ≤ k → k ≤ n → valueAt (bs.map fun b => (b.own, b.val)) k = some (.ref (ab k)) ∧ ∃ t0 t1 k0, (ab k, tupO [.str (PySem.Str.ofString "router") t0, .int (fl k) t1, .ref (lt k)] k0) ∈ tl := by
      have H : ∀ k : Int, ∃ (a l : Addr) (f : Int), 1 ≤ k → k ≤ n → valueAt (bs.map fun b => (b.own, b.val)) k = some (.ref a) ∧ ∃ t0 t1 k0, (a, tupO [.str (PySem.Str.ofString "router") t0, .int f t1, .ref l] k0) ∈ tl := by
        intro k
        by_cases hk : 1 ≤ k ∧ k ≤ n
        · have hm : k ∈ bs.map (·.own) := by
            rw [hbs]
            exact List.mem_map.mpr ⟨(k - 1).toNat, List.mem_range.mpr (by omega), by omega⟩
          obtain ⟨b, hb, rfl⟩ := List.mem_map.mp hm
          obtain ⟨a, l, us, t0, t1, k0, k1, hv, hm1, _⟩ := hbt b hb
          refine ⟨a, l, b.flag, fun _ _ => ⟨?_, t0, t1, k0, hm1⟩⟩
          rw [← hv]
          refine value_at ?_ (List.mem_map.mpr ⟨b, hb, rfl⟩)
          rw [List.map_map]
          have : ((fun x => x.fst) ∘ fun (b : BD) => (b.own, b.val)) = (·.own) := rfl
          rw [this, hbs]
          exact upTo_nodup n
        · exact ⟨0, 0, 0, fun h1 h2 => absurd ⟨h1, h2⟩ hk⟩
      exact ⟨fun k => (H k).choose, fun k => (H k).choose_spec.choose, fun _ => [], fun k => (H k).choose_spec.choose_spec.choose, fun k h1 h2 => (H k).choose_spec.choose_spec.choose_spec h1 h2⟩
    have hvals : ValsAt n (bs.map fun b => (b.own, b.val)) ab := fun k a b => (hab k a b).1
    rintro I i v m₁ nx oI h tk hi ⟨tq, rfl⟩ hd0 ⟨oO', oLs', co, cl, c', t', e0', vs', e', al, tl', u', rfl, off', dO', dL', c0', htl, hrow', hal, hall, rfl⟩ F1 N1
    have hI1 : @Ne Nat dB I := hd0 (dB, oB) (.head _)
    have hI2 : @Ne Nat lB I := hd0 (lB, _) (.tail _ (.head _))
    have hI3 : @Ne Nat (L + 1 + 1 + 1) I := hd0 (L + 1 + 1 + 1, oO') (.tail _ (.tail _ (.head _)))
    have hI4 : @Ne Nat (L + 1 + 1 + 1 + 1) I := hd0 (L + 1 + 1 + 1 + 1, oG) (.tail _ (.tail _ (.tail _ (.tail _ (.head _)))))
    have hI6 : @Ne Nat sl I := hd0 (sl, _) (.tail _ (.tail _ (.tail _ (.head _))))
    have hI7 : @Ne Nat (L + 1 + 1 + 1 + 1 + 1) I := hd0 (L + 1 + 1 + 1 + 1 + 1, oLs') (.tail _ (.tail _ (.tail _ (.tail _ (.tail _ (.head _))))))
    have hI8 : @Ne Nat (L + 1 + 1) I := hd0 (L + 1 + 1, oCB) (.tail _ (.tail _ (.tail _ (.tail _ (.tail _ (.tail _ (.head _)))))))
    have hI9 : @Ne Nat (L + 1) I := hd0 (L + 1, oCX) (.tail _ (.tail _ (.tail _ (.tail _ (.tail _ (.tail _ (.tail _ (.head _))))))))
    have hI5 : @Ne Nat lR I := hd0 (lR, _) (.tail _ (.tail _ (.tail _ (.tail _ (.tail _ (.tail _ (.tail _ (.tail _ (.head _)))))))))
    dsimp only [Led9, Adr9] at N1 off'
    k_steps
    unfold Halt
    (rename Fr _ _ _ _ => F2)
    (rename News _ _ _ _ => N2)
    (rename (Obj.data _ = Data.cell (some (Value.int (List.getD _ _ _) _))) => dL2)
    (rename (Obj.data _ = Data.cell (some (Value.int (1 + _) _))) => dO2)
    obtain ⟨lsv, dL3, hne⟩ := pick3' dL2 (by omega) (by omega)
    clear dL2
    rename_i tb3 eb3 _ _ xl _ _
    have off0 := off'
    have N3 := News.sub N2 (news' := (I, oI) :: Led9 L dB lB sl lR oB (boxO sl (c' + 1 + 1 + 1) tb3 eb3) _ oG _ oCB oCX (listOf ws.toArray csl) (listOf vs'.toArray e') tl') (by
      repeat (refine subc (by k_mem) ?_)
      exact fun p hp => by repeat (first | exact hp | refine List.Mem.tail _ ?_))
    clear N2 F1 N1
    (rename (Obj.data _ = Data.cell (some (Value.int lsv _))) => dL3)
    (rename (Obj.data _ = Data.cell (some (Value.int (1 + _) _))) => dO2)
    (rename Below callerA _ _ _ => B)
    refine seg6_if (lt := lt) (fl := fl) B X T F2 N3 o1 o2 o3 o4 sB off0 hB hvals (fun k a b => ?_) (by omega) (by omega) hne ?_ hrow' ?_ dB' dO2 dL3 ?_
    · obtain ⟨t0, t1, k0, hm⟩ := (hab k a b).2
      exact ⟨t0, t1, k0, htl _ hm⟩
    · intro p hp
      simp only [List.mem_cons] at hp
      rcases hp with rfl | rfl | rfl | rfl | rfl | rfl | rfl | rfl | rfl | hp
      · exact hI1
      · exact hI2
      · exact hI3
      · exact hI6
      · exact hI4
      · exact hI7
      · exact hI8
      · exact hI9
      · exact hI5
      · exact hd0 p (.tail _ (.tail _ (.tail _ (.tail _ (.tail _ (.tail _ (.tail _ (.tail _ (.tail _ hp)))))))))
    · rw [List.length_append]; omega
    · intro h' tk' tl2 vs2 e2 al2 htl2 offs hrow2 hal2 hall2 hII F4 N4
      dsimp only
      k_steps
      refine TEnd.intro (nx := Led9 L dB lB sl lR oB _ _ oG _ oCB oCX _ _ tl2) F4 N4 ?_ ⟨_, _, _, _, _, _, _, vs2, e2, al ++ al2, tl2, _, rfl, offs, dO2, dL3, ?_, fun p hp => htl2 p (htl p hp), ?_, ?_, ?_, frame2 rfl rfl⟩
      · intro p hp
        simp only [List.mem_cons] at hp
        rcases hp with rfl | rfl | rfl | rfl | rfl | rfl | rfl | rfl | rfl | hp
        · exact hI1
        · exact hI2
        · exact hI3
        · exact hI6
        · exact hI4
        · exact hI7
        · exact hI8
        · exact hI9
        · exact hI5
        · exact hII p hp
      · omega
      · rw [← List.append_assoc]; exact hrow2
      · intro r hr
        rcases List.mem_append.mp hr with hr | hr
        · exact hal r hr
        · exact hal2 r hr
      · rw [List.length_append]; omega
  · rintro m₁ nx h tk ⟨oO', oLs', co, cl, c', t', e0', vs', e', al, tl', u', rfl, off', dO', dL', c0', htl, hrow', hal, hall, rfl⟩ F1 N1
    exact ret _ _ oO' co oLs' _ tl' vs' e' al _ htl dO' off' hrow' hal (by omega) rfl F1 N1
end Mine

end

section
open PySem PySem.W PyProof.Rows PySem.Calls
open PyProof.Rows.LCg
namespace Mine

/-- rows, in another order -/
theorem rows_perm {tl : Led} {vs out : List Value} {R : List RowD} (K : RowsTl tl vs R) (h : out.Perm vs) : ∃ R' : List RowD, R'.Perm R ∧ RowsTl tl out R' := by
  have hz : vs = (vs.zip R).map Prod.fst := by rw [List.map_fst_zip]; rw [K.1]; exact Nat.le_refl _
  have hz2 : R = (vs.zip R).map Prod.snd := by rw [List.map_snd_zip]; rw [K.1]; exact Nat.le_refl _
  obtain ⟨ps, hp, ho⟩ := perm_map_ex h (vs.zip R) hz
  refine ⟨ps.map Prod.snd, ?_, by rw [ho]; simp, fun j v r hv hr => ?_⟩
  · have := hp.map Prod.snd
    rwa [← hz2] at this
  · rw [ho, List.getElem?_map] at hv
    rw [List.getElem?_map] at hr
    cases hq : ps[j]? with
    | none => rw [hq] at hv; cases hv
    | some q =>
      rw [hq] at hv hr
      have hm : q ∈ vs.zip R := hp.mem_iff.mp (List.mem_of_getElem? hq)
      obtain ⟨i, hi⟩ := List.getElem?_of_mem hm
      rw [List.getElem?_zip_eq_some] at hi
      have e1 : q.1 = v := Option.some.inj hv
      have e2 : q.2 = r := Option.some.inj hr
      rw [← e1, ← e2]
      exact K.2 i q.1 q.2 hi.1 hi.2

set_option maxRecDepth 100000 in
set_option maxHeartbeats 8000000 in
theorem seg7 {w : World} {p : Program} {loose : List PySem.Str} {mg mb : PySem.Str → Option Value} {mean : ExcName → Option Value} {h₀ : Heap} {L fa : Addr} {cd : Value} {s : Shared} {Q : Flow → Shared → Prop} {E : Value → Shared → Prop}
   (B : Below callerA h₀ [] h₀) (X : (hd.heap_39 w.params).In h₀) (T : Top p loose mean mg mb h₀) 
   {u : PySem.Str → Option Value} {lR : Addr} {oR : Obj} {tl tlr : Led} {e : Nat} {vs : List Value} {R : List RowD}
   (F : Fr h₀ L s.heap fun y => if y = PySem.Str.ofString "rows" then some (.ref lR) else u y)
   (N : News h₀ L s.heap ((lR, oR) :: tl)) (hR : oR = listOf vs.toArray e) (hrow : RowsTl tlr vs R) (hsr : ∀ q ∈ tlr, q ∈ tl) (h2 : 2 ≤ R.length) (h64 : R.length < 64)
   (ret : ∀ h' tk' D out c R', (∀ q ∈ tl, q.1 < D) → R'.Perm R → RowsTl tlr out R' → Fr h₀ L h' (fun y => if y = PySem.Str.ofString "rows" then some (.ref D) else u y) →
     News h₀ L h' ((D, listOf (List.toArray out) c) :: tl) → Q .next { s with heap := h', toks := tk' }) :
   wpAny (model PySem.Challenge.rw_rh0193_01.row.prog w) (lawA L fa cd) (exec (lawSt 6) (lawEnv L fa cd)) Q E s := by
  k_with_none
  k_with "k_ne" => (refine neN ?_; (try dsimp only); first | (with_reducible first | assumption | exact Ne.symm (by assumption) | exact Nat.ne_of_gt (And.left (by assumption)) | exact Nat.ne_of_lt (And.left (by assumption)) | exact Nat.ne_of_gt (And.left (And.right (by assumption))) | exact Nat.ne_of_lt (And.left (And.right (by assumption))) | exact Nat.ne_of_gt (And.left (And.right (And.right (by assumption)))) | exact Nat.ne_of_lt (And.left (And.right (And.right (by assumption)))) | exact Nat.ne_of_gt (And.left (And.right (And.right (And.right (by assumption))))) | exact Nat.ne_of_lt (And.left (And.right (And.right (And.right (by assumption))))) | exact Nat.ne_of_gt (And.left (And.right (And.right (And.right (And.right (by assumption)))))) | exact Nat.ne_of_lt (And.left (And.right (And.right (And.right (And.right (by assumption)))))) | exact Nat.ne_of_gt (And.left (And.right (And.right (And.right (And.right (And.right (by assumption))))))) | exact Nat.ne_of_lt (And.left (And.right (And.right (And.right (And.right (And.right (by assumption))))))) | exact Nat.ne_of_gt (And.left (And.right (And.right (And.right (And.right (And.right (And.right (by assumption)))))))) | exact Nat.ne_of_lt (And.left (And.right (And.right (And.right (And.right (And.right (And.right (by assumption)))))))) | exact Nat.ne_of_gt (And.left (And.right (And.right (And.right (And.right (And.right (And.right (And.right (by assumption))))))))) | exact Nat.ne_of_lt (And.left (And.right (And.right (And.right (And.right (And.right (And.right (And.right (by assumption))))))))) | exact Nat.ne_of_gt (And.left (And.right (And.right (And.right (And.right (And.right (And.right (And.right (And.right (by assumption)))))))))) | exact Nat.ne_of_lt (And.left (And.right (And.right (And.right (And.right (And.right (And.right (And.right (And.right (by assumption)))))))))) | exact Nat.ne_of_gt (And.left (And.right (And.right (And.right (And.right (And.right (And.right (And.right (And.right (And.right (by assumption))))))))))) | exact Nat.ne_of_lt (And.left (And.right (And.right (And.right (And.right (And.right (And.right (And.right (And.right (And.right (by assumption))))))))))) | exact Nat.ne_of_gt (And.left (And.right (And.right (And.right (And.right (And.right (And.right (And.right (And.right (And.right (And.right (by assumption)))))))))))) | exact Nat.ne_of_lt (And.left (And.right (And.right (And.right (And.right (And.right (And.right (And.right (And.right (And.right (And.right (by assumption)))))))))))) | exact Nat.ne_of_gt (And.left (And.right (And.right (And.right (And.right (And.right (And.right (And.right (And.right (And.right (And.right (And.right (by assumption))))))))))))) | exact Nat.ne_of_lt (And.left (And.right (And.right (And.right (And.right (And.right (And.right (And.right (And.right (And.right (And.right (And.right (by assumption))))))))))))) | exact Nat.ne_of_gt (And.left (And.right (And.right (And.right (And.right (And.right (And.right (And.right (And.right (And.right (And.right (And.right (And.right (by assumption)))))))))))))) | exact Nat.ne_of_lt (And.left (And.right (And.right (And.right (And.right (And.right (And.right (And.right (And.right (And.right (And.right (And.right (And.right (by assumption)))))))))))))) | exact Nat.ne_of_gt (And.left (And.right (And.right (And.right (And.right (And.right (And.right (And.right (And.right (And.right (And.right (And.right (And.right (And.right (by assumption))))))))))))))) | exact Nat.ne_of_lt (And.left (And.right (And.right (And.right (And.right (And.right (And.right (And.right (And.right (And.right (And.right (And.right (And.right (And.right (by assumption))))))))))))))) | exact Nat.ne_of_gt (And.left (And.right (And.right (And.right (And.right (And.right (And.right (And.right (And.right (And.right (And.right (And.right (And.right (And.right (And.right (by assumption)))))))))))))))) | exact Nat.ne_of_lt (And.left (And.right (And.right (And.right (And.right (And.right (And.right (And.right (And.right (And.right (And.right (And.right (And.right (And.right (And.right (by assumption)))))))))))))))) | exact Nat.ne_of_gt (by assumption) | exact Nat.ne_of_lt (by assumption)) | omega)
  k_with "call builtin:sorted" => (k_here; refine halt ?_)
  w_top off
  revert X; k_fill; intro X
  show wpAny _ (callerA.deeper (envOfC _ (PySem.Scope.mk _ _ _ _ _) _ _ _)) (exec (Stmt.Assign _ _ _) (envOfC _ (PySem.Scope.mk _ _ _ _ _) _ _ _)) _ _ _
  (try k_fold)
  k_steps
  unfold Halt
  refine sorted_key (news := (lR, oR) :: tl) (vs := vs) F N ⟨oR, (N _ (.head _)).1, by rw [hR], e, by rw [hR]⟩ (by rw [hrow.1]; exact h2) (by rw [hrow.1]; exact h64) ?_ ?_
  · rintro v hv s' Q' tl' ⟨h, tk, rfl⟩ F1 N1 ret1
    obtain ⟨j, hj⟩ := List.getElem?_of_mem hv
    obtain ⟨r, hr⟩ : ∃ r, R[j]? = some r := ⟨_, List.getElem?_eq_getElem (by rw [← hrow.1]; exact (List.getElem?_eq_some_iff.mp hj).1)⟩
    have hrt := hrow.2 j v r hj hr
    have hra := RowTl.at (hrt.mono (tl' := tl' ++ (lR, oR) :: tl) fun p hp => List.mem_append_right _ (.tail _ (hsr p hp))) N1
    obtain ⟨a, ha⟩ : ∃ a, v = .ref a := let ⟨a, _, _, _, _, _, _, _, _, _, e, _⟩ := hrt; ⟨a, e⟩
    subst ha
    refine place_call B F1 X T rfl rfl rfl rfl (by simp only [depth_in1, depth_deeper, depth_caller]; decide) (by simp only [units_in1, units_deeper, units_caller]; decide) hra fun d h' tk' u1 u2 u3 st fr => ?_
    exact ret1 d _ h' tk' st (fr _ (.head _)).2 (fr _ (.head _)).1 ⟨rfl, _, _, 1, u1, _, [r.ls, r.adv], rfl, rfl, .cons _ _ (.cons _ _ .nil)⟩
  · intro D h' tk out c F1 N1 hD hp
    obtain ⟨R', hp', hrow'⟩ := rows_perm hrow hp
    replace N1 := News.sub N1 (news' := (D, listOf (List.toArray out) c) :: tl) (by
      intro p hp
      rcases List.mem_cons.mp hp with rfl | hp
      · exact .head _
      · exact .tail _ (.tail _ hp))
    clear F N
    k_steps
    (rename Fr _ _ _ _ => F2)
    (rename News _ _ _ _ => N2)
    have hf : (fun y => if y = PySem.Str.ofString "rows" then some (Value.ref D) else if y = PySem.Str.ofString "rows" then some (Value.ref lR) else u y) = fun y => if y = PySem.Str.ofString "rows" then some (Value.ref D) else u y := by
      funext y
      split <;> rfl
    rw [hf] at F2
    exact ret _ _ D out c R' (fun q hq => hD q (.tail _ hq)) hp' hrow' F2 N2
end Mine

end

section
open PySem PySem.W PyProof.Rows PySem.Calls
open PyProof.Rows.LCg
namespace Mine

def notGone (n : Nat) (g : Int) : List Int := (upTo n).filter fun x => decide (x ≠ g)
set_option maxRecDepth 100000 in
set_option maxHeartbeats 8000000 in
theorem seg8 {w : World} {p : Program} {loose : List PySem.Str} {mg mb : PySem.Str → Option Value} {mean : ExcName → Option Value} {h₀ : Heap} {L fa : Addr} {cd : Value} {s : Shared} {Q : Flow → Shared → Prop} {E : Value → Shared → Prop}
   (B : Below callerA h₀ [] h₀) (X : (hd.heap_39 w.params).In h₀) (T : Top p loose mean mg mb h₀) 
   {m : PySem.Str → Option Value} {dB : Addr} {oB oG oCB : Obj} {tl : Led} {n : Nat} {g : Int} {tg : Tok} {bs : List BD}
   (F : Fr h₀ L s.heap m) (N : News h₀ L s.heap ((L + 1 + 1, oCB) :: (dB, oB) :: (L + 1 + 1 + 1 + 1, oG) :: tl)) (sB : (dB == sysModules) = false)
   (hB : oB.IsDictOf (PySem.intKind PySem.Challenge.rw_rh0193_01.row.prog w) (bs.map fun b => (b.own, b.val)))
   (hbs : bs.map (·.own) = upTo n) (hn3 : n ≤ 3) (dB' : oCB.data = .cell (some (.ref dB))) (dG : oG.data = .cell (some (.int g tg)))
   (ret : ∀ h' tk' D ys, IntsAre ys (notGone n g) → (∀ p ∈ tl, p.1 ≠ D) → Fr h₀ L h' (fun y => if y = PySem.Str.ofString "there" then some (.ref D) else m y) →
     News h₀ L h' ((D, lst ys) :: (L + 1 + 1, oCB) :: (dB, oB) :: (L + 1 + 1 + 1 + 1, oG) :: tl) → Q .next { s with heap := h', toks := tk' }) :
   wpAny (model PySem.Challenge.rw_rh0193_01.row.prog w) (lawA L fa cd) (exec (lawSt 7) (lawEnv L fa cd)) Q E s := by
  k_with_none
  k_with "k_ne" => (refine neN ?_; (try dsimp only); first | (with_reducible first | assumption | exact Ne.symm (by assumption) | exact Nat.ne_of_gt (And.left (by assumption)) | exact Nat.ne_of_lt (And.left (by assumption)) | exact Nat.ne_of_gt (And.left (And.right (by assumption))) | exact Nat.ne_of_lt (And.left (And.right (by assumption))) | exact Nat.ne_of_gt (And.left (And.right (And.right (by assumption)))) | exact Nat.ne_of_lt (And.left (And.right (And.right (by assumption)))) | exact Nat.ne_of_gt (And.left (And.right (And.right (And.right (by assumption))))) | exact Nat.ne_of_lt (And.left (And.right (And.right (And.right (by assumption))))) | exact Nat.ne_of_gt (And.left (And.right (And.right (And.right (And.right (by assumption)))))) | exact Nat.ne_of_lt (And.left (And.right (And.right (And.right (And.right (by assumption)))))) | exact Nat.ne_of_gt (And.left (And.right (And.right (And.right (And.right (And.right (by assumption))))))) | exact Nat.ne_of_lt (And.left (And.right (And.right (And.right (And.right (And.right (by assumption))))))) | exact Nat.ne_of_gt (And.left (And.right (And.right (And.right (And.right (And.right (And.right (by assumption)))))))) | exact Nat.ne_of_lt (And.left (And.right (And.right (And.right (And.right (And.right (And.right (by assumption)))))))) | exact Nat.ne_of_gt (And.left (And.right (And.right (And.right (And.right (And.right (And.right (And.right (by assumption))))))))) | exact Nat.ne_of_lt (And.left (And.right (And.right (And.right (And.right (And.right (And.right (And.right (by assumption))))))))) | exact Nat.ne_of_gt (And.left (And.right (And.right (And.right (And.right (And.right (And.right (And.right (And.right (by assumption)))))))))) | exact Nat.ne_of_lt (And.left (And.right (And.right (And.right (And.right (And.right (And.right (And.right (And.right (by assumption)))))))))) | exact Nat.ne_of_gt (And.left (And.right (And.right (And.right (And.right (And.right (And.right (And.right (And.right (And.right (by assumption))))))))))) | exact Nat.ne_of_lt (And.left (And.right (And.right (And.right (And.right (And.right (And.right (And.right (And.right (And.right (by assumption))))))))))) | exact Nat.ne_of_gt (And.left (And.right (And.right (And.right (And.right (And.right (And.right (And.right (And.right (And.right (And.right (by assumption)))))))))))) | exact Nat.ne_of_lt (And.left (And.right (And.right (And.right (And.right (And.right (And.right (And.right (And.right (And.right (And.right (by assumption)))))))))))) | exact Nat.ne_of_gt (And.left (And.right (And.right (And.right (And.right (And.right (And.right (And.right (And.right (And.right (And.right (And.right (by assumption))))))))))))) | exact Nat.ne_of_lt (And.left (And.right (And.right (And.right (And.right (And.right (And.right (And.right (And.right (And.right (And.right (And.right (by assumption))))))))))))) | exact Nat.ne_of_gt (And.left (And.right (And.right (And.right (And.right (And.right (And.right (And.right (And.right (And.right (And.right (And.right (And.right (by assumption)))))))))))))) | exact Nat.ne_of_lt (And.left (And.right (And.right (And.right (And.right (And.right (And.right (And.right (And.right (And.right (And.right (And.right (And.right (by assumption)))))))))))))) | exact Nat.ne_of_gt (And.left (And.right (And.right (And.right (And.right (And.right (And.right (And.right (And.right (And.right (And.right (And.right (And.right (And.right (by assumption))))))))))))))) | exact Nat.ne_of_lt (And.left (And.right (And.right (And.right (And.right (And.right (And.right (And.right (And.right (And.right (And.right (And.right (And.right (And.right (by assumption))))))))))))))) | exact Nat.ne_of_gt (And.left (And.right (And.right (And.right (And.right (And.right (And.right (And.right (And.right (And.right (And.right (And.right (And.right (And.right (And.right (by assumption)))))))))))))))) | exact Nat.ne_of_lt (And.left (And.right (And.right (And.right (And.right (And.right (And.right (And.right (And.right (And.right (And.right (And.right (And.right (And.right (And.right (by assumption)))))))))))))))) | exact Nat.ne_of_gt (by assumption) | exact Nat.ne_of_lt (by assumption)) | omega)
  w_top off
  revert X; k_fill; intro X
  show wpAny _ (callerA.deeper (envOfC _ (PySem.Scope.mk _ _ _ _ _) _ _ _)) (exec (Stmt.Assign [PySem.Expr.Name _ _] (PySem.Expr.ListComp _ [⟨_, _, _, 0⟩] _ _) _) (envOfC _ (PySem.Scope.mk _ _ _ _ _) _ _ _)) _ _ _
  have hbl : bs.length = n := by
    have := congrArg List.length hbs
    simpa [upTo] using this
  k_dflt (refine' comp_assign F rfl ?hsw ?hcl ?hce ?hki ?hna ?hfo ?hy ?hp ?_)
  (case hsw => with_unfolding_all rfl)
  (case hcl => with_unfolding_all rfl)
  (case hce => decide)
  (case hki => rfl)
  (case hna => decide)
  (case hfo => (intro _; rfl))
  (case hy => rfl)
  (case hp => rfl)
  k_steps
  refine CompOk.intro (news := (L + 1 + 1, oCB) :: (dB, oB) :: (L + 1 + 1 + 1 + 1, oG) :: tl) (fun i ys nx => nx = (L + 1 + 1, oCB) :: (dB, oB) :: (L + 1 + 1 + 1 + 1, oG) :: tl ∧ IntsAre ys ((upTo i).filter fun x => decide (x ≠ g)))
    (fun i v m' => ∃ t, m' (PySem.Str.ofString "own") = some (.int (1 + (i : Int)) t))
    (Src.dictInt rfl sB (N _ (.tail _ (.head _))).1 hB) (by rw [sizeLine_eq, List.length_map, hbl]; omega) (.inr fun i ys nx h => h.1 ▸ .tail _ (.head _)) (N _ (.tail _ (.head _))).2.1 F N ⟨rfl, .nil⟩ ?_ ?_ ?_
  · rintro i v C mC ys nx s' Q E hi ⟨k, x, t, hkx, rfl⟩ ⟨rfl, hJ⟩ F1 N1 hn nC n2 h
    obtain ⟨b, hb, hbm, hb1, hb2, hb3, hb4, hb5⟩ := bod_at hbs hkx
    subst hb3
    exact asg_Name rfl (by decide) hn fun h' m' tk hn'' hm he => h h' m' tk hn'' ⟨t, hm⟩ he
  · rintro i v ys nx I2 oI2 C oC D m₂ h tk E' hi hv ⟨rfl, hJ⟩ hC ⟨t, hown⟩ F1 N1 off3 ne hyl
    show wpAny _ _ (isTrue _ _ _) _ _ _
    clear F N
    by_cases hq : 1 + (i : Int) = g
    · k_steps
      all_goals try (exfalso; omega)
      (rename Fr _ _ _ _ => F6)
      (rename News _ _ _ _ => N6)
      refine CEnd.intro F6 N6 off3 ⟨rfl, ?_⟩
      rw [upTo_succ, List.filter_append]
      simpa [hq] using hJ
    · k_steps
      all_goals try (exfalso; omega)
      (rename Fr _ _ _ _ => F6)
      (rename News _ _ _ _ => N6)
      refine CEnd.intro F6 N6 off3 ⟨rfl, ?_⟩
      rw [upTo_succ, List.filter_append]
      have e9 : [1 + (i : Int)].filter (fun x => decide (x ≠ g)) = [1 + (i : Int)] := by simp [hq]
      rw [e9]
      exact IntsAre.append hJ (.cons _ _ .nil)
  · rintro D ys nx off ⟨rfl, hJ⟩ h tk F1 N1
    rw [List.length_map, hbl] at hJ
    exact ret h tk D ys hJ (fun p hp => off p (.tail _ (.tail _ (.tail _ hp)))) F1 N1
end Mine

end

section
open PySem PySem.W PyProof.Rows PySem.Calls
open PyProof.Rows.LCg
namespace Mine
/-- the pairs of a dict yet to be, in a list -/
def PairTl (tl : Led) (v : Value) (x : List Int × Addr × Value) : Prop := ∃ a n, v = .ref a ∧ (a, tupO [.ref x.2.1, x.2.2] n) ∈ tl
theorem PairTl.mono {tl tl' : Led} {v : Value} {x : List Int × Addr × Value} (K : PairTl tl v x) (hs : ∀ p ∈ tl, p ∈ tl') : PairTl tl' v x := let ⟨a, n, e, h⟩ := K; ⟨a, n, e, hs _ h⟩
def PairsTl (tl : Led) (vs : List Value) (xs : List (List Int × Addr × Value)) : Prop := vs.length = xs.length ∧ ∀ (j : Nat) (v : Value) (x : List Int × Addr × Value), vs[j]? = some v → xs[j]? = some x → PairTl tl v x
theorem PairsTl.mono {tl tl' : Led} {vs : List Value} {xs : List (List Int × Addr × Value)} (K : PairsTl tl vs xs) (hs : ∀ p ∈ tl, p ∈ tl') : PairsTl tl' vs xs := ⟨K.1, fun j v x a b => (K.2 j v x a b).mono hs⟩
theorem PairsTl.snoc {tl : Led} {vs : List Value} {xs : List (List Int × Addr × Value)} {v : Value} {x : List Int × Addr × Value} (K : PairsTl tl vs xs) (h : PairTl tl v x) : PairsTl tl (vs ++ [v]) (xs ++ [x]) := by
  refine ⟨by simp [K.1], fun j v' l' hv hl => ?_⟩
  by_cases hj : j < vs.length
  · rw [List.getElem?_append_left hj] at hv
    rw [List.getElem?_append_left (by rw [← K.1]; exact hj)] at hl
    exact K.2 j v' l' hv hl
  · rw [List.getElem?_append_right (by omega)] at hv
    rw [List.getElem?_append_right (by rw [← K.1]; omega)] at hl
    rw [← K.1] at hl
    rcases hjj : j - vs.length with _ | k
    · rw [hjj] at hv hl
      simp at hv hl
      subst hv; subst hl; exact h
    · rw [hjj] at hv; simp at hv
theorem KeysTl.snoc {tl : Led} {xs : List (List Int × Addr × Value)} {x : List Int × Addr × Value} {o : Obj} (K : KeysTl tl xs) (h : (x.2.1, o) ∈ tl) (k : KObj o x.1) : KeysTl tl (xs ++ [x]) := fun y hy => by
  rcases List.mem_append.mp hy with hy | hy
  · exact K y hy
  · rw [List.mem_singleton.mp hy]; exact ⟨o, h, k⟩


theorem hits_same {A : Around} {s : Shared} {xs ys : List (List Int × Addr × Value)} (h : (xs.map fun x => (x.1, x.2.2)).Perm (ys.map fun x => (x.1, x.2.2))) (hn : (ys.map (·.1)).Nodup) : AllHit A s xs ys := by
  refine ⟨by simpa using h.length_eq, fun x hx => ?_⟩
  have hm : (x.1, x.2.2) ∈ ys.map fun x => (x.1, x.2.2) := h.mem_iff.mp (List.mem_map.mpr ⟨x, hx, rfl⟩)
  obtain ⟨y, hy, e⟩ := List.mem_map.mp hm
  have e1 : y.1 = x.1 := (Prod.mk.inj e).1
  have e2 : y.2.2 = x.2.2 := (Prod.mk.inj e).2
  obtain ⟨j, hj⟩ := List.getElem?_of_mem hy
  refine ⟨(y.2.1, y.2.2), by rw [← e1]; exact xs_at hn hj, ?_⟩
  rw [← e2]
  exact SeqAt.EqAt.same _
abbrev Led4 (L dB lR lT : Addr) (oCB oB oR oT : Obj) (tl : Led) : Led := (L + 1 + 1, oCB) :: (dB, oB) :: (lR, oR) :: (lT, oT) :: tl
theorem notGone_mem {n : Nat} {g x : Int} (h : x ∈ notGone n g) : 1 ≤ x ∧ x ≤ n ∧ x ≠ g := by
  obtain ⟨h1, h2⟩ := List.mem_filter.mp h
  obtain ⟨j, hj, rfl⟩ := List.mem_map.mp h1
  rw [List.mem_range] at hj
  exact ⟨by omega, by omega, by simpa using h2⟩
theorem notGone_nodup (n : Nat) (g : Int) : (notGone n g).Nodup := (upTo_nodup n).filter _
theorem notGone_len (n : Nat) (g : Int) : (notGone n g).length ≤ n := by
  have h := List.length_filter_le (fun x => decide (x ≠ g)) (upTo n)
  simpa [notGone, upTo] using h

set_option maxRecDepth 100000 in
set_option maxHeartbeats 8000000 in
theorem seg9 {w : World} {p : Program} {loose : List PySem.Str} {mg mb : PySem.Str → Option Value} {mean : ExcName → Option Value} {h₀ : Heap} {L fa : Addr} {cd : Value} {s : Shared} {Q : Flow → Shared → Prop} {E : Value → Shared → Prop}
   (B : Below callerA h₀ [] h₀) (X : (hd.heap_39 w.params).In h₀) (T : Top p loose mean mg mb h₀) 
   {u : PySem.Str → Option Value} {dB lR lT : Addr} {oB oCB oR : Obj} {tl : Led} {n e : Nat} {g : Int} {kvs : List (Int × Value)} {ab : Int → Addr} {vs ys : List Value} {R : List RowD}
   (F : Fr h₀ L s.heap fun y => if y = PySem.Str.ofString "there" then some (.ref lT) else if y = PySem.Str.ofString "rows" then some (.ref lR) else u y)
   (N : News h₀ L s.heap (Led4 L dB lR lT oCB oB oR (lst ys) tl))
   (hB : oB.IsDictOf (PySem.intKind PySem.Challenge.rw_rh0193_01.row.prog w) kvs) (hvals : ValsAt n kvs ab) (dB' : oCB.data = .cell (some (.ref dB)))
   (hR : oR = listOf vs.toArray e) (hrow : RowsTl tl vs R) (h64 : R.length ≤ 60) (hn3 : n ≤ 3)
   (hlive : ((R.filter RowD.live).map fun r => (r.adv, r.body)).Perm ((notGone n g).map fun o => (o, Value.ref (ab o)))) (hys : IntsAre ys (notGone n g))
   (ret : ∀ h' tk', Fr h₀ L h' (fun y => if y = PySem.Str.ofString "there" then some (.ref lT) else if y = PySem.Str.ofString "rows" then some (.ref lR) else u y) →
     News h₀ L h' (Led4 L dB lR lT oCB oB oR (lst ys) tl) → Q .next { s with heap := h', toks := tk' }) :
   wpAny (model PySem.Challenge.rw_rh0193_01.row.prog w) (lawA L fa cd) (exec (lawSt 8) (lawEnv L fa cd)) Q E s := by
  k_with_none
  k_with "k_ne" => (refine neN ?_; (try dsimp only); first | (with_reducible first | assumption | exact Ne.symm (by assumption) | exact Nat.ne_of_gt (And.left (by assumption)) | exact Nat.ne_of_lt (And.left (by assumption)) | exact Nat.ne_of_gt (And.left (And.right (by assumption))) | exact Nat.ne_of_lt (And.left (And.right (by assumption))) | exact Nat.ne_of_gt (And.left (And.right (And.right (by assumption)))) | exact Nat.ne_of_lt (And.left (And.right (And.right (by assumption)))) | exact Nat.ne_of_gt (And.left (And.right (And.right (And.right (by assumption))))) | exact Nat.ne_of_lt (And.left (And.right (And.right (And.right (by assumption))))) | exact Nat.ne_of_gt (And.left (And.right (And.right (And.right (And.right (by assumption)))))) | exact Nat.ne_of_lt (And.left (And.right (And.right (And.right (And.right (by assumption)))))) | exact Nat.ne_of_gt (And.left (And.right (And.right (And.right (And.right (And.right (by assumption))))))) | exact Nat.ne_of_lt (And.left (And.right (And.right (And.right (And.right (And.right (by assumption))))))) | exact Nat.ne_of_gt (And.left (And.right (And.right (And.right (And.right (And.right (And.right (by assumption)))))))) | exact Nat.ne_of_lt (And.left (And.right (And.right (And.right (And.right (And.right (And.right (by assumption)))))))) | exact Nat.ne_of_gt (And.left (And.right (And.right (And.right (And.right (And.right (And.right (And.right (by assumption))))))))) | exact Nat.ne_of_lt (And.left (And.right (And.right (And.right (And.right (And.right (And.right (And.right (by assumption))))))))) | exact Nat.ne_of_gt (And.left (And.right (And.right (And.right (And.right (And.right (And.right (And.right (And.right (by assumption)))))))))) | exact Nat.ne_of_lt (And.left (And.right (And.right (And.right (And.right (And.right (And.right (And.right (And.right (by assumption)))))))))) | exact Nat.ne_of_gt (And.left (And.right (And.right (And.right (And.right (And.right (And.right (And.right (And.right (And.right (by assumption))))))))))) | exact Nat.ne_of_lt (And.left (And.right (And.right (And.right (And.right (And.right (And.right (And.right (And.right (And.right (by assumption))))))))))) | exact Nat.ne_of_gt (And.left (And.right (And.right (And.right (And.right (And.right (And.right (And.right (And.right (And.right (And.right (by assumption)))))))))))) | exact Nat.ne_of_lt (And.left (And.right (And.right (And.right (And.right (And.right (And.right (And.right (And.right (And.right (And.right (by assumption)))))))))))) | exact Nat.ne_of_gt (And.left (And.right (And.right (And.right (And.right (And.right (And.right (And.right (And.right (And.right (And.right (And.right (by assumption))))))))))))) | exact Nat.ne_of_lt (And.left (And.right (And.right (And.right (And.right (And.right (And.right (And.right (And.right (And.right (And.right (And.right (by assumption))))))))))))) | exact Nat.ne_of_gt (And.left (And.right (And.right (And.right (And.right (And.right (And.right (And.right (And.right (And.right (And.right (And.right (And.right (by assumption)))))))))))))) | exact Nat.ne_of_lt (And.left (And.right (And.right (And.right (And.right (And.right (And.right (And.right (And.right (And.right (And.right (And.right (And.right (by assumption)))))))))))))) | exact Nat.ne_of_gt (And.left (And.right (And.right (And.right (And.right (And.right (And.right (And.right (And.right (And.right (And.right (And.right (And.right (And.right (by assumption))))))))))))))) | exact Nat.ne_of_lt (And.left (And.right (And.right (And.right (And.right (And.right (And.right (And.right (And.right (And.right (And.right (And.right (And.right (And.right (by assumption))))))))))))))) | exact Nat.ne_of_gt (And.left (And.right (And.right (And.right (And.right (And.right (And.right (And.right (And.right (And.right (And.right (And.right (And.right (And.right (And.right (by assumption)))))))))))))))) | exact Nat.ne_of_lt (And.left (And.right (And.right (And.right (And.right (And.right (And.right (And.right (And.right (And.right (And.right (And.right (And.right (And.right (And.right (by assumption)))))))))))))))) | exact Nat.ne_of_gt (by assumption) | exact Nat.ne_of_lt (by assumption)) | omega)
  k_with "call ref" => (k_here; refine halt ?_)
  k_with "call type:dict" => (k_here; refine halt ?_)
  k_with "compareOp NotEq ref ref" => (k_here; refine halt ?_)
  k_with "subscriptTail Name Name ref int" => (k_here; (with_reducible rename ValsAt _ _ _ => hv9); k_dflt (refine' kda_item (knd := PySem.intKind _ _) ?a ?b ?c (intKind_is _ _ _ _) ?d ?_; (case a => k_asm); (case b => k_mem); (case c => assumption); (case d => exact hv9 _ (by omega) (by omega))))
  k_with "newTuple" => (k_here; k_dflt (refine' new_tup ?mF ?mN ?_ ?mz; (case mF => k_asm); (case mN => k_asm); (case mz => exact Nat.le_of_ble_eq_true rfl)); intro _ _ _ _ L9; (try k_lt L9); (try (revert L9; intro _)); (try k_sweep))
  k_with "eval ListComp" => (k_here; k_dflt (refine' comp_eval ?mF ?mcl ?mce ?mki ?mna ?mfo ?_; (case mF => k_asm); (case mcl => with_unfolding_all rfl); (case mce => decide); (case mki => rfl); (case mna => decide); (case mfo => (intro _; rfl))))
  w_top off
  revert X; k_fill; intro X
  have hlv : (Lives R).Perm (notGone n g) := by
    have h := hlive.map Prod.fst
    simpa [List.map_map, Function.comp_def, Lives] using h
  have hn : (Lives R).Nodup := hlv.nodup_iff.mpr (notGone_nodup n g)
  have N0 := N
  dsimp only [Led4] at N
  show wpAny _ (callerA.deeper (envOfC _ (PySem.Scope.mk _ _ _ _ _) _ _ _)) (exec (Stmt.If _ _ _ _) (envOfC _ (PySem.Scope.mk _ _ _ _ _) _ _ _)) _ _ _
  (try k_fold)
  k_steps
  unfold Halt
  have hl : s.heap.IsList lR vs.toArray := ⟨oR, (N0 _ (.tail _ (.tail _ (.head _)))).1, by rw [hR], e, by rw [hR]⟩
  refine av_call B F X T rfl (by decide) (by decide) hl (hrow.at (News.sub N0 fun p hp => .tail _ (.tail _ (.tail _ (.tail _ hp))))) hn (by omega) ?_
  intro d1 oD1 tl1 h1 tk1 xs st1 fr1 D1 K1 nd1 sys1 hxs
  obtain ⟨F1, N1⟩ := after F N st1 fr1
  replace N1 := News.sub N1 (news' := Led4 L dB lR lT oCB oB oR (lst ys) ((d1, oD1) :: (tl1 ++ tl))) (by
    repeat (refine subc (List.mem_append_right _ (by k_mem)) ?_)
    intro p hp
    simp only [List.mem_cons, List.mem_append] at hp ⊢
    rcases hp with h | h | h <;> simp [h])
  obtain ⟨tl2, htl2⟩ : ∃ x, x = (d1, oD1) :: (tl1 ++ tl) := ⟨_, rfl⟩
  have hm1 : (d1, oD1) ∈ tl2 := by rw [htl2]; exact .head _
  have hm2 : ∀ p ∈ tl1, p ∈ tl2 := fun p hp => by rw [htl2]; exact .tail _ (List.mem_append_left _ hp)
  have hm3 : ∀ p ∈ tl, p ∈ tl2 := fun p hp => by rw [htl2]; exact .tail _ (List.mem_append_right _ hp)
  rw [← htl2] at N1
  clear htl2 F N N0
  k_steps
  refine CompOk.intro (news := Led4 L dB lR lT oCB oB oR (lst ys) tl2) (fun i zs nx => ∃ (tl' : Led) (xs2 : List (List Int × Addr × Value)), nx = Led4 L dB lR lT oCB oB oR (lst ys) tl' ∧ (∀ p ∈ tl2, p ∈ tl') ∧ PairsTl tl' zs xs2 ∧ KeysTl tl' xs2 ∧ xs2.map (fun x => (x.1, x.2.2)) = ((notGone n g).take i).map (fun o => ([1, o], Value.ref (ab o))))
    (fun i v m' => ∃ o t, (notGone n g)[i]? = some o ∧ m' (PySem.Str.ofString "own") = some (.int o t))
    (Src.list rfl (N1 (lT, _) (by k_mem)).1 rfl rfl) (by rw [sizeLine_eq, ints_len hys]; have := notGone_len n g; omega) (.inr ?_) (N1 (lT, _) (by k_mem)).2.1 F1 N1 ⟨tl2, [], rfl, fun _ h => h, ⟨rfl, fun _ _ _ h => nomatch h⟩, KeysTl.nil, rfl⟩ ?_ ?_ ?_
  · rintro i zs nx ⟨tl', xs2, rfl, _⟩
    exact .tail _ (.tail _ (.tail _ (.head _)))
  · rintro i v C mC zs nx s' Q E hi hv _ F1 N1 hn nC n2 h
    obtain ⟨o, ho⟩ : ∃ o, (notGone n g)[i]? = some o := ⟨_, List.getElem?_eq_getElem (by rw [← ints_len hys]; exact hi)⟩
    obtain ⟨t, ht⟩ := hys.get i _ ho
    rw [ht] at hv
    cases hv
    exact asg_Name rfl (by decide) hn fun h' m' tk hn'' hm he => h h' m' tk hn'' ⟨o, t, ho, hm⟩ he
  · rintro i v zs nx I2 oI2 C oC D m₂ h tk E' hi hv ⟨tl', xs2, rfl, htl, hps, hks, hxs2⟩ hC ⟨o, t, ho, hown⟩ F2 N2 off3 ne hyl
    show wpAny _ _ (eval _ _) _ _ _
    obtain ⟨ho1, ho2, ho3⟩ := notGone_mem (List.mem_of_getElem? ho)
    clear F1 N1
    dsimp only [Led4] at N2
    k_steps
    (rename Fr _ _ _ _ => F6)
    (rename News _ _ _ _ => N6)
    rename_i Dk _ lk Dp _ lp
    refine CEnd.intro (nx := Led4 L dB lR lT oCB oB oR (lst ys) ((Dp, tupO [.ref Dk, .ref (ab o)]) :: (Dk, tupO [.int 1 tk, .int o t]) :: tl')) F6 (News.sub N6 (by
      repeat (refine subc (by k_mem) ?_)
      exact fun p hp => by repeat (first | exact hp | refine List.Mem.tail _ ?_))) ?_ ⟨_, xs2 ++ [([1, o], Dk, .ref (ab o))], rfl, fun p hp => .tail _ (.tail _ (htl p hp)), (hps.mono fun p hp => .tail _ (.tail _ hp)).snoc ⟨Dp, 0, rfl, .head _⟩, (hks.mono fun p hp => .tail _ (.tail _ hp)).snoc (.tail _ (.head _)) (KObj.two rfl), ?_⟩
    · intro p hp
      simp only [List.mem_cons] at hp
      rcases hp with rfl | rfl | rfl | rfl | rfl | rfl | hp
      · exact off3 _ (.head _)
      · exact off3 _ (.tail _ (.head _))
      · exact off3 _ (.tail _ (.tail _ (.head _)))
      · exact off3 _ (.tail _ (.tail _ (.tail _ (.head _))))
      · refine ⟨?_, ?_, ?_⟩
        · show @Ne Nat Dp I2; k_ne
        · show @Ne Nat Dp C; k_ne
        · show @Ne Nat Dp D; k_ne
      · refine ⟨?_, ?_, ?_⟩
        · show @Ne Nat Dk I2; k_ne
        · show @Ne Nat Dk C; k_ne
        · show @Ne Nat Dk D; k_ne
      · exact off3 p (.tail _ (.tail _ (.tail _ (.tail _ hp))))
    · rw [List.take_add_one, ho, List.map_append, List.map_append, hxs2]; rfl
  · rintro D zs nx offD ⟨tl', xs2, rfl, htl, hps, hks, hxs2⟩ h tk F2 N2
    clear F1 N1
    rw [List.take_of_length_le (by rw [ints_len hys]; exact Nat.le_refl _)] at hxs2
    have hlen2 : xs2.length = (notGone n g).length := by simpa using congrArg List.length hxs2
    have N3 := N2
    dsimp only [Led4] at N2
    k_steps
    unfold Halt
    have hnd : (xs2.map (·.1)).Nodup := by
      have e1 : xs2.map (·.1) = (notGone n g).map fun o => [1, o] := by
        have := congrArg (List.map Prod.fst) hxs2
        simpa [List.map_map, Function.comp_def] using this
      rw [e1]
      exact List.pairwise_map.mpr (List.Pairwise.imp (fun h e => h (by simpa using e)) (notGone_nodup n g))
    refine dict_tup rfl (by simp only [units_deeper, units_caller]; decide) F2 N3 (modules_low T.nolimit) (.head _) hps.1 (fun j v x a b => ?_) (KeysIn.mono hks.led fun p hp => .tail _ (.tail _ (.tail _ (.tail _ (.tail _ hp))))) hnd (by have := notGone_len n g; omega) ?_
    · obtain ⟨a, k, e, hm⟩ := hps.2 j v x a b
      exact ⟨a, k, e, .inr (.tail _ (.tail _ (.tail _ (.tail _ (.tail _ hm)))))⟩
    intro d2 h2 tk2 oD2 F4 N4 l2 sys2 D2
    clear F2 N2 N3
    k_steps
    unfold Halt
    (rename Fr _ _ _ _ => F5)
    have hd1 := F5.keep
    refine tup_ne (xs := xs) (ys := xs2) (sys_of sys1) sys2 (by simp only [units_deeper, units_caller]; decide) (DObj.at D1 (KeysIn.mono K1.led fun p hp => .tail _ (.tail _ (.tail _ (.tail _ (.tail _ (.tail _ (htl p (hm2 p hp)))))))) (N4 _ (.tail _ (.tail _ (.tail _ (.tail _ (.tail _ (.tail _ (htl _ hm1)))))))).1 F5 N4)
      (DObj.at D2 (KeysIn.mono hks.led fun p hp => .tail _ (.tail _ (.tail _ (.tail _ (.tail _ (.tail _ hp)))))) (N4 _ (.head _)).1 F5 N4) (hits_same ?_ hnd) ?_
    · rw [hxs, hxs2]
      have h9 := hlive.map fun q => ([1, q.1], q.2)
      simpa [List.map_map, Function.comp_def] using h9
    · have N5 := News.sub N4 (news' := Led4 L dB lR lT oCB oB oR (lst ys) tl) (by
        repeat (refine subc (by k_mem) ?_)
        exact fun p hp => .tail _ (.tail _ (.tail _ (.tail _ (.tail _ (.tail _ (htl _ (hm3 _ hp))))))))
      clear N4
      k_steps
      exact ret _ _ F5 N5
end Mine

end

section
open PySem PySem.W PyProof.Rows PySem.Calls
open PyProof.Rows.LCg
namespace Mine
set_option maxRecDepth 100000 in
set_option maxHeartbeats 8000000 in
theorem seg10 {w : World} {p : Program} {loose : List PySem.Str} {mg mb : PySem.Str → Option Value} {mean : ExcName → Option Value} {h₀ : Heap} {L fa : Addr} {cd : Value} {s : Shared} {Q : Flow → Shared → Prop} {E : Value → Shared → Prop}
   (B : Below callerA h₀ [] h₀) (X : (hd.heap_39 w.params).In h₀) (T : Top p loose mean mg mb h₀) 
   {m : PySem.Str → Option Value} {tl : Led} 
   (F : Fr h₀ L s.heap m) (N : News h₀ L s.heap tl) 
   (ret : ∀ h' tk' d o, (∀ p ∈ tl, p.1 < d) → (d == sysModules) = false → DObj PySem.Challenge.rw_rh0193_01.row.prog w o [] → Fr h₀ L h' (fun y => if y = PySem.Str.ofString "due" then some (.ref d) else m y) → News h₀ L h' ((d, o) :: tl) → Q .next { s with heap := h', toks := tk' }) :
   wpAny (model PySem.Challenge.rw_rh0193_01.row.prog w) (lawA L fa cd) (exec (lawSt 9) (lawEnv L fa cd)) Q E s := by
  k_with_none
  k_with "k_ne" => (refine neN ?_; (try dsimp only); first | (with_reducible first | assumption | exact Ne.symm (by assumption) | exact Nat.ne_of_gt (And.left (by assumption)) | exact Nat.ne_of_lt (And.left (by assumption)) | exact Nat.ne_of_gt (And.left (And.right (by assumption))) | exact Nat.ne_of_lt (And.left (And.right (by assumption))) | exact Nat.ne_of_gt (And.left (And.right (And.right (by assumption)))) | exact Nat.ne_of_lt (And.left (And.right (And.right (by assumption)))) | exact Nat.ne_of_gt (And.left (And.right (And.right (And.right (by assumption))))) | exact Nat.ne_of_lt (And.left (And.right (And.right (And.right (by assumption))))) | exact Nat.ne_of_gt (And.left (And.right (And.right (And.right (And.right (by assumption)))))) | exact Nat.ne_of_lt (And.left (And.right (And.right (And.right (And.right (by assumption)))))) | exact Nat.ne_of_gt (And.left (And.right (And.right (And.right (And.right (And.right (by assumption))))))) | exact Nat.ne_of_lt (And.left (And.right (And.right (And.right (And.right (And.right (by assumption))))))) | exact Nat.ne_of_gt (And.left (And.right (And.right (And.right (And.right (And.right (And.right (by assumption)))))))) | exact Nat.ne_of_lt (And.left (And.right (And.right (And.right (And.right (And.right (And.right (by assumption)))))))) | exact Nat.ne_of_gt (And.left (And.right (And.right (And.right (And.right (And.right (And.right (And.right (by assumption))))))))) | exact Nat.ne_of_lt (And.left (And.right (And.right (And.right (And.right (And.right (And.right (And.right (by assumption))))))))) | exact Nat.ne_of_gt (And.left (And.right (And.right (And.right (And.right (And.right (And.right (And.right (And.right (by assumption)))))))))) | exact Nat.ne_of_lt (And.left (And.right (And.right (And.right (And.right (And.right (And.right (And.right (And.right (by assumption)))))))))) | exact Nat.ne_of_gt (And.left (And.right (And.right (And.right (And.right (And.right (And.right (And.right (And.right (And.right (by assumption))))))))))) | exact Nat.ne_of_lt (And.left (And.right (And.right (And.right (And.right (And.right (And.right (And.right (And.right (And.right (by assumption))))))))))) | exact Nat.ne_of_gt (And.left (And.right (And.right (And.right (And.right (And.right (And.right (And.right (And.right (And.right (And.right (by assumption)))))))))))) | exact Nat.ne_of_lt (And.left (And.right (And.right (And.right (And.right (And.right (And.right (And.right (And.right (And.right (And.right (by assumption)))))))))))) | exact Nat.ne_of_gt (And.left (And.right (And.right (And.right (And.right (And.right (And.right (And.right (And.right (And.right (And.right (And.right (by assumption))))))))))))) | exact Nat.ne_of_lt (And.left (And.right (And.right (And.right (And.right (And.right (And.right (And.right (And.right (And.right (And.right (And.right (by assumption))))))))))))) | exact Nat.ne_of_gt (And.left (And.right (And.right (And.right (And.right (And.right (And.right (And.right (And.right (And.right (And.right (And.right (And.right (by assumption)))))))))))))) | exact Nat.ne_of_lt (And.left (And.right (And.right (And.right (And.right (And.right (And.right (And.right (And.right (And.right (And.right (And.right (And.right (by assumption)))))))))))))) | exact Nat.ne_of_gt (And.left (And.right (And.right (And.right (And.right (And.right (And.right (And.right (And.right (And.right (And.right (And.right (And.right (And.right (by assumption))))))))))))))) | exact Nat.ne_of_lt (And.left (And.right (And.right (And.right (And.right (And.right (And.right (And.right (And.right (And.right (And.right (And.right (And.right (And.right (by assumption))))))))))))))) | exact Nat.ne_of_gt (And.left (And.right (And.right (And.right (And.right (And.right (And.right (And.right (And.right (And.right (And.right (And.right (And.right (And.right (And.right (by assumption)))))))))))))))) | exact Nat.ne_of_lt (And.left (And.right (And.right (And.right (And.right (And.right (And.right (And.right (And.right (And.right (And.right (And.right (And.right (And.right (And.right (by assumption)))))))))))))))) | exact Nat.ne_of_gt (by assumption) | exact Nat.ne_of_lt (by assumption)) | omega)
  w_top off
  revert X; k_fill; intro X
  show wpAny _ (callerA.deeper (envOfC _ (PySem.Scope.mk _ _ _ _ _) _ _ _)) (exec (Stmt.Assign _ _ _) (envOfC _ (PySem.Scope.mk _ _ _ _ _) _ _ _)) _ _ _
  (try k_fold)
  k_steps
  (rename Fr _ _ _ _ => F2)
  (rename News _ _ _ _ => N2)
  rename_i d _ o l1 lo _ _ hi _ _
  exact ret _ _ d o l1 lo (DObj.nil hi) F2 N2
end Mine

end

section
open PySem PySem.W PyProof.Rows PySem.Calls
open PyProof.Rows.LCg
namespace Mine
theorem item_last {prog : Program} {w : World} {A : Around} {E : Value → Shared → Prop} {s : Shared} {value slice : PySem.Expr} {h₀ : Heap} {L t : Addr} {news : Led} {x0 x1 x2 : Value} {n : Nat} {u : Tok} {Q : Value → Shared → Prop} (N : News h₀ L s.heap news) (hm : (t, tupO [x0, x1, x2] n) ∈ news) (h : Q x2 s)
    (hs : subscripted slice false (.ref t) (.int 2 u) = operate [.ref t, .int 2 u] (getItem (.ref t) (.int 2 u))) (hg : ∀ r, letTemporaryGo value (.ref t) r = pure ()) : wpAny (model prog w) A (subscriptTail value slice (.ref t) (.int 2 u)) Q E s :=
  item_tuple (j := 2) (x := x2) (items := #[x0, x1, x2]) ⟨_, (N _ hm).1, rfl, _, rfl⟩ (by decide) (by decide) rfl rfl h hs hg


abbrev Led7 (L dD dB lR lT : Addr) (oD oO oCB oB oG oR oT : Obj) (tl : Led) : Led := (dD, oD) :: (L + 1 + 1 + 1, oO) :: (L + 1 + 1, oCB) :: (dB, oB) :: (L + 1 + 1 + 1 + 1, oG) :: (lR, oR) :: (lT, oT) :: tl
def BodsTl (tl : Led) (n : Nat) (ab : Int → Addr) (fl : Int → Int) (G : Int → List LnkD) : Prop := ∀ k : Int, 1 ≤ k → k ≤ n → ∃ lt vs t0 t1 k0 k1, (ab k, tupO [.str (PySem.Str.ofString "router") t0, .int (fl k) t1, .ref lt] k0) ∈ tl ∧ (lt, tupO vs k1) ∈ tl ∧ SrcAll tl vs (G k)
theorem BodsTl.mono {tl tl' : Led} {n : Nat} {ab : Int → Addr} {fl : Int → Int} {G : Int → List LnkD} (K : BodsTl tl n ab fl G) (hs : ∀ p ∈ tl, p ∈ tl') : BodsTl tl' n ab fl G := fun k a b => let ⟨lt, vs, t0, t1, k0, k1, h1, h2, h3⟩ := K k a b; ⟨lt, vs, t0, t1, k0, k1, hs _ h1, hs _ h2, h3.mono hs⟩
def DueJ (w : World) (L dD dB lR lT : Addr) (oCB oB oG oR oT : Obj) (tl0 : Led) (n : Nat) (g : Int) (G : Int → List LnkD) (m0 : PySem.Str → Option Value) (i : Nat) (m : PySem.Str → Option Value) (nx : Led) : Prop :=
  ∃ (oD oO : Obj) (co : Option Value) (xs : List (List Int × Addr × Value)) (tl : Led), nx = Led7 L dD dB lR lT oD oO oCB oB oG oR oT tl ∧ OwnOff tl [dD, L + 1 + 1 + 1] ∧ oO.data = .cell co ∧ DObj PySem.Challenge.rw_rh0193_01.row.prog w oD xs ∧ KeysTl tl xs ∧ (∀ p ∈ tl0, p ∈ tl) ∧
    xs.map (·.1) = ((notGone n g).take i).map (fun o => [1, o]) ∧ (∀ x ∈ xs, ToldAt tl (fun a => (G a).filter fun l => decide (l.id ≠ g)) x) ∧ m = m0

set_option maxRecDepth 100000 in
set_option maxHeartbeats 8000000 in
theorem seg11 {w : World} {p : Program} {loose : List PySem.Str} {mg mb : PySem.Str → Option Value} {mean : ExcName → Option Value} {h₀ : Heap} {L fa : Addr} {cd : Value} {s : Shared} {Q : Flow → Shared → Prop} {E : Value → Shared → Prop}
   (hE : PassesOwn (model PySem.Challenge.rw_rh0193_01.row.prog w) (lawA L fa cd) (lawEnv L fa cd) E)
   (B : Below callerA h₀ [] h₀) (X : (hd.heap_39 w.params).In h₀) (T : Top p loose mean mg mb h₀) 
   {u : PySem.Str → Option Value} {dD dB lR lT : Addr} {oD oO oB oCB oG oR : Obj} {tl : Led} {n : Nat} {g : Int} {tg : Tok} {kvs : List (Int × Value)} {ab : Int → Addr} {fl : Int → Int} {G : Int → List LnkD} {ys : List Value} {co : Option Value}
   (F : Fr h₀ L s.heap fun y => if y = PySem.Str.ofString "due" then some (.ref dD) else if y = PySem.Str.ofString "there" then some (.ref lT) else if y = PySem.Str.ofString "rows" then some (.ref lR) else u y)
   (N : News h₀ L s.heap (Led7 L dD dB lR lT oD oO oCB oB oG oR (lst ys) tl)) (off : OwnOff tl [dD, L + 1 + 1 + 1]) (dO : oO.data = .cell co)
   (nB : @LT.lt Nat _ (L + 1 + 1 + 1 + 1) dB) (nR : @Ne Nat lR (L + 1 + 1 + 1)) (nT : @Ne Nat lT (L + 1 + 1 + 1)) (nD1 : @LT.lt Nat _ dB dD) (nD2 : @LT.lt Nat _ lR dD) (nD3 : @LT.lt Nat _ lT dD)
   (hB : oB.IsDictOf (PySem.intKind PySem.Challenge.rw_rh0193_01.row.prog w) kvs) (hvals : ValsAt n kvs ab) (hbod : BodsTl tl n ab fl G) (hGz : ∀ a, (G a).length ≤ 9) (dB' : oCB.data = .cell (some (.ref dB))) (dG : oG.data = .cell (some (.int g tg))) (hn3 : n ≤ 3)
   (hD : DObj PySem.Challenge.rw_rh0193_01.row.prog w oD []) (hys : IntsAre ys (notGone n g))
   (ret : ∀ h' tk' oD' oO' co' xs tl', OwnOff tl' [dD, L + 1 + 1 + 1] → oO'.data = .cell co' → DObj PySem.Challenge.rw_rh0193_01.row.prog w oD' xs → KeysTl tl' xs → (∀ p ∈ tl, p ∈ tl') → xs.map (·.1) = (notGone n g).map (fun o => [1, o]) →
     (∀ x ∈ xs, ToldAt tl' (fun a => (G a).filter fun l => decide (l.id ≠ g)) x) → Fr h₀ L h' (fun y => if y = PySem.Str.ofString "due" then some (.ref dD) else if y = PySem.Str.ofString "there" then some (.ref lT) else if y = PySem.Str.ofString "rows" then some (.ref lR) else u y) →
     News h₀ L h' (Led7 L dD dB lR lT oD' oO' oCB oB oG oR (lst ys) tl') → Q .next { s with heap := h', toks := tk' }) :
   wpAny (model PySem.Challenge.rw_rh0193_01.row.prog w) (lawA L fa cd) (exec (lawSt 10) (lawEnv L fa cd)) Q E s := by
  k_with_none
  k_with "k_ne" => (refine neN ?_; (try dsimp only); first | (with_reducible first | assumption | exact Ne.symm (by assumption) | exact Nat.ne_of_gt (And.left (by assumption)) | exact Nat.ne_of_lt (And.left (by assumption)) | exact Nat.ne_of_gt (And.left (And.right (by assumption))) | exact Nat.ne_of_lt (And.left (And.right (by assumption))) | exact Nat.ne_of_gt (And.left (And.right (And.right (by assumption)))) | exact Nat.ne_of_lt (And.left (And.right (And.right (by assumption)))) | exact Nat.ne_of_gt (And.left (And.right (And.right (And.right (by assumption))))) | exact Nat.ne_of_lt (And.left (And.right (And.right (And.right (by assumption))))) | exact Nat.ne_of_gt (And.left (And.right (And.right (And.right (And.right (by assumption)))))) | exact Nat.ne_of_lt (And.left (And.right (And.right (And.right (And.right (by assumption)))))) | exact Nat.ne_of_gt (And.left (And.right (And.right (And.right (And.right (And.right (by assumption))))))) | exact Nat.ne_of_lt (And.left (And.right (And.right (And.right (And.right (And.right (by assumption))))))) | exact Nat.ne_of_gt (And.left (And.right (And.right (And.right (And.right (And.right (And.right (by assumption)))))))) | exact Nat.ne_of_lt (And.left (And.right (And.right (And.right (And.right (And.right (And.right (by assumption)))))))) | exact Nat.ne_of_gt (And.left (And.right (And.right (And.right (And.right (And.right (And.right (And.right (by assumption))))))))) | exact Nat.ne_of_lt (And.left (And.right (And.right (And.right (And.right (And.right (And.right (And.right (by assumption))))))))) | exact Nat.ne_of_gt (And.left (And.right (And.right (And.right (And.right (And.right (And.right (And.right (And.right (by assumption)))))))))) | exact Nat.ne_of_lt (And.left (And.right (And.right (And.right (And.right (And.right (And.right (And.right (And.right (by assumption)))))))))) | exact Nat.ne_of_gt (And.left (And.right (And.right (And.right (And.right (And.right (And.right (And.right (And.right (And.right (by assumption))))))))))) | exact Nat.ne_of_lt (And.left (And.right (And.right (And.right (And.right (And.right (And.right (And.right (And.right (And.right (by assumption))))))))))) | exact Nat.ne_of_gt (And.left (And.right (And.right (And.right (And.right (And.right (And.right (And.right (And.right (And.right (And.right (by assumption)))))))))))) | exact Nat.ne_of_lt (And.left (And.right (And.right (And.right (And.right (And.right (And.right (And.right (And.right (And.right (And.right (by assumption)))))))))))) | exact Nat.ne_of_gt (And.left (And.right (And.right (And.right (And.right (And.right (And.right (And.right (And.right (And.right (And.right (And.right (by assumption))))))))))))) | exact Nat.ne_of_lt (And.left (And.right (And.right (And.right (And.right (And.right (And.right (And.right (And.right (And.right (And.right (And.right (by assumption))))))))))))) | exact Nat.ne_of_gt (And.left (And.right (And.right (And.right (And.right (And.right (And.right (And.right (And.right (And.right (And.right (And.right (And.right (by assumption)))))))))))))) | exact Nat.ne_of_lt (And.left (And.right (And.right (And.right (And.right (And.right (And.right (And.right (And.right (And.right (And.right (And.right (And.right (by assumption)))))))))))))) | exact Nat.ne_of_gt (And.left (And.right (And.right (And.right (And.right (And.right (And.right (And.right (And.right (And.right (And.right (And.right (And.right (And.right (by assumption))))))))))))))) | exact Nat.ne_of_lt (And.left (And.right (And.right (And.right (And.right (And.right (And.right (And.right (And.right (And.right (And.right (And.right (And.right (And.right (by assumption))))))))))))))) | exact Nat.ne_of_gt (And.left (And.right (And.right (And.right (And.right (And.right (And.right (And.right (And.right (And.right (And.right (And.right (And.right (And.right (And.right (by assumption)))))))))))))))) | exact Nat.ne_of_lt (And.left (And.right (And.right (And.right (And.right (And.right (And.right (And.right (And.right (And.right (And.right (And.right (And.right (And.right (And.right (by assumption)))))))))))))))) | exact Nat.ne_of_gt (by assumption) | exact Nat.ne_of_lt (by assumption)) | omega)
  k_with "pyIter ref" => (k_here; refine halt ?_)
  k_with "subscriptTail Name Name ref int" => (k_here; (with_reducible rename ValsAt _ _ _ => hv9); k_dflt (refine' kda_item (knd := PySem.intKind _ _) ?a ?b ?c (intKind_is _ _ _ _) ?d ?_; (case a => k_asm); (case b => k_mem); (case c => assumption); (case d => exact hv9 _ (by omega) (by omega))))
  k_with "subscriptTail Name Constant ref int" => (k_here; k_dflt (refine' item_last ?N ?t ?_ ?hs ?hg; (case N => k_asm); (case t => (repeat (first | assumption | refine List.Mem.tail _ ?_))); (case hs => with_unfolding_all rfl); (case hg => intro _; with_unfolding_all rfl)))
  k_with "newTuple" => (k_here; k_dflt (refine' new_tup ?mF ?mN ?_ ?mz; (case mF => k_asm); (case mN => k_asm); (case mz => exact Nat.le_of_ble_eq_true rfl)); intro _ _ _ _ L9; (try k_lt L9); (try (revert L9; intro _)); (try k_sweep))
  k_with "eval ListComp" => (k_here; k_dflt (refine' comp_eval ?mF ?mcl ?mce ?mki ?mna ?mfo ?_; (case mF => k_asm); (case mcl => with_unfolding_all rfl); (case mce => decide); (case mki => rfl); (case mna => decide); (case mfo => (intro _; rfl))))
  k_with "setItem ref ref" => (k_here; (with_reducible show wpAny _ _ (setItem (Value.ref _) (Value.ref _) _) _ _ _); k_dflt (refine' set_tup ?mu ?mF ?mN ?mU ?mD ?mK ?ma ?mk ?mz ?_; (case mF => k_asm); (case mN => k_asm); (case mU => k_updF); (case mD => assumption); (case mK => exact KeysIn.mono (KeysTl.led (by assumption)) (by intro p hp; repeat (first | exact hp | refine List.Mem.tail _ ?_))); (case ma => exact .inr (by k_mem)); (case mk => exact KObj.two rfl); (case mz => (rw [sizeLine_eq]; omega)); (case mu => (simp only [units_in1, units_deeper, units_caller]; decide))); intro _ _ _ N9 D9; (try dsimp only at N9); revert N9 D9; intro _ _; (try k_sweep))
  w_top off
  revert X; k_fill; intro X
  have N0 := N
  dsimp only [Led7] at N
  show wpAny _ (callerA.deeper (envOfC _ (PySem.Scope.mk _ _ _ _ _) _ _ _)) (exec (Stmt.For _ _ _ _ _) (envOfC _ (PySem.Scope.mk _ _ _ _ _) _ _ _)) _ _ _
  (try k_fold)
  refine For_turns F ?_ (hE := hE)
  k_steps
  unfold Halt
  refine turns_src (DueJ w L dD dB lR lT oCB oB oG oR (lst ys) tl n g G (fun y => if y = PySem.Str.ofString "due" then some (.ref dD) else if y = PySem.Str.ofString "there" then some (.ref lT) else if y = PySem.Str.ofString "rows" then some (.ref lR) else u y))
    (Src.list rfl (N0 (lT, _) (by k_mem)).1 rfl rfl) (.inr ?_) (N0 (lT, _) (by k_mem)).2.1 F N0 ⟨oD, oO, co, [], tl, rfl, off, dO, hD, KeysTl.nil, fun _ h => h, rfl, (fun _ h => nomatch h), rfl⟩ ?_ ?_
  · rintro i m nx ⟨oD, oO, co, xs, tl, rfl, _⟩
    exact .tail _ (.tail _ (.tail _ (.tail _ (.tail _ (.tail _ (.head _))))))
  · clear F N N0
    rintro I i v m₁ nx oI h tk hi hv hd0 ⟨oD', oO', co', xs, tl', rfl, off', dO', hD', hks, htl, hxs, htold, rfl⟩ F1 N1
    obtain ⟨o, ho⟩ : ∃ o, (notGone n g)[i]? = some o := ⟨_, List.getElem?_eq_getElem (by rw [← ints_len hys]; exact hi)⟩
    obtain ⟨ho1, ho2, ho3⟩ := notGone_mem (List.mem_of_getElem? ho)
    obtain ⟨t, ht⟩ := hys.get i _ ho
    rw [ht] at hv
    cases hv
    have hI1 : @Ne Nat dD I := hd0 (dD, oD') (.head _)
    have hI2 : @Ne Nat (L + 1 + 1 + 1) I := hd0 (L + 1 + 1 + 1, oO') (.tail _ (.head _))
    have hIa : ∀ p ∈ Led7 L dD dB lR lT oD' oO' oCB oB oG oR (lst ys) tl', p.1 ≠ I := hd0
    have hbod' := hbod.mono htl
    obtain ⟨lt, us, t0, t1, k0, k1, hb1, hb2, hb3⟩ := hbod' o ho1 ho2
    dsimp only [Led7] at N1
    k_steps
    (rename Fr _ _ _ _ => F2)
    (rename News _ _ _ _ => N2)
    (rename (Obj.data _ = Data.cell (some (Value.int o _))) => dO2)
    rename_i oO2
    have hmt : ∀ p ∈ tl', p.1 ≠ I := fun p hp => hd0 p (.tail _ (.tail _ (.tail _ (.tail _ (.tail _ (.tail _ (.tail _ hp)))))))
    refine CompOk.intro (news := (I, oI) :: Led7 L dD dB lR lT oD' oO2 oCB oB oG oR (lst ys) tl') (fun j zs nx => ∃ tlx : Led, nx = (I, oI) :: Led7 L dD dB lR lT oD' oO2 oCB oB oG oR (lst ys) tlx ∧ OwnOff tlx [dD, L + 1 + 1 + 1] ∧ (∀ p ∈ tlx, p.1 ≠ I) ∧ (∀ p ∈ tl', p ∈ tlx) ∧ LinkAll tlx zs (((G o).take j).filter fun l => decide (l.id ≠ g)))
      (fun j v m' => ∃ l t1 t2 t4, (G o)[j]? = some l ∧ m' (PySem.Str.ofString "other") = some (.int l.id t1) ∧ m' (PySem.Str.ofString "data") = some (.int l.data t2) ∧ m' (PySem.Str.ofString "cost") = some (.int l.metric t4))
      (Src.tuple (lo := tupO us k1) rfl (N2 (lt, tupO us k1) (by repeat (first | exact hb2 | refine List.Mem.tail _ ?_))).1 rfl rfl) (by rw [sizeLine_eq, hb3.1]; have := hGz o; omega) (.inr ?_) (N2 (lt, tupO us k1) (by repeat (first | exact hb2 | refine List.Mem.tail _ ?_))).2.1 F2 N2 ⟨tl', rfl, off', hmt, fun _ h => h, rfl, fun _ _ _ h => nomatch h⟩ ?_ ?_ ?_
    · rintro j zs nx ⟨tlx, rfl, _, _, hx, _⟩
      repeat (first | exact hx _ hb2 | refine List.Mem.tail _ ?_)
    · rintro j v C mC zs nx s' Q E hj hv ⟨tlx, rfl, _, _, hx, _⟩ F3 N3 hn nC n2 h
      obtain ⟨l, hl⟩ : ∃ l, (G o)[j]? = some l := ⟨_, List.getElem?_eq_getElem (by rw [← hb3.1]; exact hj)⟩
      obtain ⟨a, q1, q2, q3, q4, k, rfl, hm⟩ := hb3.2 j v l hv hl
      have hm' : (a, tupO [.int l.id q1, .int l.data q2, .int 1 q3, .int l.metric q4] k) ∈ (I, oI) :: Led7 L dD dB lR lT oD' oO2 oCB oB oG oR (lst ys) tlx := by
        repeat (first | exact hx _ hm | refine List.Mem.tail _ ?_)
      refine asg_Names (ns := [(_, _), (_, _), (_, _), (_, _)]) (vs := [.int l.id q1, .int l.data q2, .int 1 q3, .int l.metric q4]) rfl rfl (by decide) rfl ⟨_, (N3 _ hm').1, rfl, _, rfl⟩ hn fun h' m' tk hn' hm he => h h' m' tk hn' ⟨l, q1, q2, q4, hl, ?_, ?_, ?_⟩ he
      · rw [hm]; rfl
      · rw [hm]; rfl
      · rw [hm]; rfl
    · rintro j v zs nx I2 oI2 C oC D m₂ h tk E' hj hv ⟨tlx, rfl, offx, hIx, hx, hlk⟩ hC ⟨l, q1, q2, q4, hl, hother, hdata, hcost⟩ F3 N3 off3 ne hyl
      show wpAny _ _ (isTrue _ _ _) _ _ _
      clear F1 N1 F2 N2
      dsimp only [Led7] at N3
      have htk : ((G o).take (j + 1)).filter (fun l => decide (l.id ≠ g)) = ((G o).take j).filter (fun l => decide (l.id ≠ g)) ++ (if l.id ≠ g then [l] else []) := by
        rw [List.take_add_one, hl, List.filter_append]
        congr 1
        by_cases h : l.id = g <;> simp [h]
      by_cases hq : l.id = g
      · k_steps
        all_goals try (exfalso; omega)
        (rename Fr _ _ _ _ => F6)
        (rename News _ _ _ _ => N6)
        exact CEnd.intro F6 N6 off3 ⟨tlx, rfl, offx, hIx, hx, by rw [htk, if_neg (by simpa using hq), List.append_nil]; exact hlk⟩
      · k_steps
        all_goals try (exfalso; omega)
        (rename Fr _ _ _ _ => F6)
        (rename News _ _ _ _ => N6)
        rename_i Dk _ lk Dp _ lp
        refine CEnd.intro (nx := (I, oI) :: Led7 L dD dB lR lT oD' oO2 oCB oB oG oR (lst ys) ((Dp, tupO [.ref Dk, .int l.metric q4, .int l.data q2]) :: (Dk, tupO [.int 1 tk, .int l.id q1]) :: tlx)) F6 (News.sub N6 (by
          repeat (refine subc (by k_mem) ?_)
          exact fun p hp => by repeat (first | exact hp | refine List.Mem.tail _ ?_))) ?_ ⟨_, rfl, ?_, ?_, fun p hp => .tail _ (.tail _ (hx p hp)), ?_⟩
        · intro p hp
          simp only [List.mem_cons] at hp
          rcases hp with rfl | rfl | rfl | rfl | rfl | rfl | rfl | rfl | rfl | rfl | hp
          · exact off3 _ (.head _)
          · exact off3 _ (.tail _ (.head _))
          · exact off3 _ (.tail _ (.tail _ (.head _)))
          · exact off3 _ (.tail _ (.tail _ (.tail _ (.head _))))
          · exact off3 _ (.tail _ (.tail _ (.tail _ (.tail _ (.head _)))))
          · exact off3 _ (.tail _ (.tail _ (.tail _ (.tail _ (.tail _ (.head _))))))
          · exact off3 _ (.tail _ (.tail _ (.tail _ (.tail _ (.tail _ (.tail _ (.head _)))))))
          · exact off3 _ (.tail _ (.tail _ (.tail _ (.tail _ (.tail _ (.tail _ (.tail _ (.head _))))))))
          · exact ⟨show @Ne Nat Dp I2 by k_ne, show @Ne Nat Dp C by k_ne, show @Ne Nat Dp D by k_ne⟩
          · exact ⟨show @Ne Nat Dk I2 by k_ne, show @Ne Nat Dk C by k_ne, show @Ne Nat Dk D by k_ne⟩
          · exact off3 p (.tail _ (.tail _ (.tail _ (.tail _ (.tail _ (.tail _ (.tail _ (.tail _ hp))))))))
        · intro p hp b hb
          simp only [List.mem_cons, List.not_mem_nil, or_false] at hb
          rcases List.mem_cons.mp hp with rfl | hp
          · rcases hb with rfl | rfl
            · show @Ne Nat Dp _; k_ne
            · show @Ne Nat Dp _; k_ne
          · rcases List.mem_cons.mp hp with rfl | hp
            · rcases hb with rfl | rfl
              · show @Ne Nat Dk _; k_ne
              · show @Ne Nat Dk _; k_ne
            · exact offx p hp b (by simpa using hb)
        · intro p hp
          rcases List.mem_cons.mp hp with rfl | hp
          · show @Ne Nat Dp _; k_ne
          · rcases List.mem_cons.mp hp with rfl | hp
            · show @Ne Nat Dk _; k_ne
            · exact hIx p hp
        · rw [htk, if_pos hq]
          refine LinkAll.snoc ⟨hlk.1, fun j v l a b => (hlk.2 j v l a b).mono fun p hp => .tail _ (.tail _ hp)⟩ ⟨Dp, Dk, _, _, _, _, rfl, .head _, .tail _ (.head _)⟩
    · rintro D zs nx offD ⟨tlx, rfl, offx, hIx, hx, hlk⟩ h tk F3 N3
      clear F1 N1 F2 N2
      rw [List.take_of_length_le (by rw [hb3.1]; exact Nat.le_refl _)] at hlk
      have hDD : @Ne Nat dD D := offD (dD, oD') (.tail _ (.head _))
      have hDI : @Ne Nat I D := offD (I, oI) (.head _)
      have hDO : @Ne Nat (L + 1 + 1 + 1) D := offD (L + 1 + 1 + 1, oO2) (.tail _ (.tail _ (.head _)))
      have hks' := hks.mono hx
      have hxl : xs.length ≤ 3 := by
        have e1 := congrArg List.length hxs
        rw [List.length_map, List.length_map, List.length_take] at e1
        have e2 := notGone_len n g
        omega
      have hfr : atKey xs [1, o] = none := key_new fun x hx' e => by
        have hm : x.1 ∈ xs.map (·.1) := List.mem_map.mpr ⟨x, hx', rfl⟩
        rw [hxs, e] at hm
        obtain ⟨q, hq, he⟩ := List.mem_map.mp hm
        have hqo : q = o := by simpa using he
        subst hqo
        obtain ⟨j', hj'⟩ := List.getElem?_of_mem hq
        have hji : j' < i := by
          have := (List.getElem?_eq_some_iff.mp hj').1
          rw [List.length_take] at this
          omega
        rw [List.getElem?_take_of_lt hji] at hj'
        obtain ⟨b1, c1⟩ := List.getElem?_eq_some_iff.mp hj'
        obtain ⟨b2, c2⟩ := List.getElem?_eq_some_iff.mp ho
        have := (List.getElem_inj (h₀ := b1) (h₁ := b2) (notGone_nodup n g)).mp (c1.trans c2.symm)
        omega
      dsimp only [Led7] at N3
      k_steps
      (rename Fr _ _ _ _ => F6)
      (rename News _ _ _ _ => N6)
      (rename DObj _ _ _ (storedH xs _ _ _) => D6)
      rename_i Dk _ lk _ oD6
      rw [storedH_new hfr] at D6
      have hDL : ∀ p ∈ tlx, p.1 ≠ D := fun p hp => offD p (.tail _ (.tail _ (.tail _ (.tail _ (.tail _ (.tail _ (.tail _ (.tail _ hp))))))))
      refine TEnd.intro (nx := Led7 L dD dB lR lT oD6 oO2 oCB oB oG oR (lst ys) ((Dk, tupO [.int 1 _, .int o t]) :: (D, lst zs) :: tlx)) F6 (News.sub N6 (by
          repeat (refine subc (by k_mem) ?_)
          exact fun p hp => by repeat (first | exact hp | refine List.Mem.tail _ ?_))) ?_ ⟨oD6, oO2, _, xs ++ [([1, o], Dk, .ref D)], _, rfl, ?_, dO2, D6, (hks'.mono fun p hp => .tail _ (.tail _ hp)).snoc (.head _) (KObj.two rfl), fun p hp => .tail _ (.tail _ (hx p (htl p hp))), ?_, ?_, rfl⟩
      · intro p hp
        simp only [List.mem_cons] at hp
        rcases hp with rfl | rfl | rfl | rfl | rfl | rfl | rfl | rfl | rfl | hp
        · exact hI1
        · exact hI2
        · exact hIa _ (.tail _ (.tail _ (.head _)))
        · exact hIa _ (.tail _ (.tail _ (.tail _ (.head _))))
        · exact hIa _ (.tail _ (.tail _ (.tail _ (.tail _ (.head _)))))
        · exact hIa _ (.tail _ (.tail _ (.tail _ (.tail _ (.tail _ (.head _))))))
        · exact hIa _ (.tail _ (.tail _ (.tail _ (.tail _ (.tail _ (.tail _ (.head _)))))))
        · show @Ne Nat Dk I; k_ne
        · show @Ne Nat D I; k_ne
        · exact hIx p hp
      · intro p hp b hb
        simp only [List.mem_cons, List.not_mem_nil, or_false] at hb
        rcases List.mem_cons.mp hp with rfl | hp
        · rcases hb with rfl | rfl
          · show @Ne Nat Dk _; k_ne
          · show @Ne Nat Dk _; k_ne
        · rcases List.mem_cons.mp hp with rfl | hp
          · rcases hb with rfl | rfl
            · exact Ne.symm hDD
            · exact Ne.symm hDO
          · exact offx p hp b (by simpa using hb)
      · rw [List.take_add_one, ho, List.map_append, List.map_append, hxs]; rfl
      · intro x hx'
        rcases List.mem_append.mp hx' with hx' | hx'
        · exact (htold x hx').mono fun p hp => .tail _ (.tail _ (hx p hp))
        · rw [List.mem_singleton.mp hx']
          exact ⟨o, D, zs.length, zs, rfl, rfl, .tail _ (.head _), hlk.1, fun j v l a b => (hlk.2 j v l a b).mono fun p hp => .tail _ (.tail _ hp)⟩
  · rintro m₁ nx h tk ⟨oD', oO', co', xs, tl', rfl, off', dO', hD', hks, htl, hxs, htold, rfl⟩ F1 N1
    rw [List.take_of_length_le (by rw [ints_len hys]; exact Nat.le_refl _)] at hxs
    exact ret h tk oD' oO' co' xs tl' off' dO' hD' hks htl hxs htold F1 N1
end Mine

end

section
open PySem PySem.W PyProof.Rows PySem.Calls
open PyProof.Rows.LCg
namespace Mine

theorem SrcAll.src {h₀ h : Heap} {L : Addr} {tl : Led} {vs : List Value} {G : List LnkD} (K : SrcAll tl vs G) (N : News h₀ L h tl) : vs.length = G.length ∧ ∀ (i : Nat) (v : Value) (l : LnkD), vs[i]? = some v → G[i]? = some l → LinkSrc h v l :=
  ⟨K.1, fun i v l a b => let ⟨q, t1, t2, t3, t4, k, e, hm⟩ := K.2 i v l a b; ⟨q, t1, t2, t3, t4, e, _, (N _ hm).1, rfl, _, rfl⟩⟩
theorem BodsTl.body {h₀ h : Heap} {L : Addr} {tl : Led} {n : Nat} {ab : Int → Addr} {fl : Int → Int} {G : Int → List LnkD} (K : BodsTl tl n ab fl G) (N : News h₀ L h tl) {k : Int} (h1 : 1 ≤ k) (h2 : k ≤ n) (hz : (G k).length ≤ 1000) : BodyAt h (.ref (ab k)) (G k) := by
  obtain ⟨lt, vs, t0, t1, k0, k1, m1, m2, hs⟩ := K k h1 h2
  exact ⟨ab k, lt, vs, fl k, t0, t1, rfl, ⟨_, (N _ m1).1, rfl, _, rfl⟩, ⟨_, (N _ m2).1, rfl, _, rfl⟩, (hs.src N).1, (hs.src N).2, hz⟩
theorem BodsTl.flag {h₀ h : Heap} {L : Addr} {tl : Led} {n : Nat} {ab : Int → Addr} {fl : Int → Int} {G : Int → List LnkD} (K : BodsTl tl n ab fl G) (N : News h₀ L h tl) {k : Int} (h1 : 1 ≤ k) (h2 : k ≤ n) : FlagAt h (.ref (ab k)) (fl k) := by
  obtain ⟨lt, vs, t0, t1, k0, k1, m1, m2, hs⟩ := K k h1 h2
  exact ⟨ab k, lt, t0, t1, rfl, ⟨_, (N _ m1).1, rfl, _, rfl⟩⟩
theorem ToldAt.links {h₀ h : Heap} {L : Addr} {tl : Led} {G : Int → List LnkD} {y : List Int × Addr × Value} {a : Int} (K : ToldAt tl G y) (N : News h₀ L h tl) (hy : y.1 = [1, a]) : ∃ d, y.2.2 = .ref d ∧ LinksOut h d (G a) := by
  obtain ⟨adv, d, e, vs, h1, h2, h3, h4, h5⟩ := K
  have : adv = a := by rw [h1] at hy; simpa using hy
  subst this
  exact ⟨d, h2, vs, ⟨_, (N _ h3).1, rfl, _, rfl⟩, h4, fun j v l a b => (h5 j v l a b).out N⟩
theorem upTo_mem {n : Nat} {x : Int} : x ∈ upTo n ↔ 1 ≤ x ∧ x ≤ n := by
  constructor
  · intro h
    obtain ⟨j, hj, rfl⟩ := List.mem_map.mp h
    rw [List.mem_range] at hj
    exact ⟨by omega, by omega⟩
  · rintro ⟨h1, h2⟩
    exact List.mem_map.mpr ⟨(x - 1).toNat, List.mem_range.mpr (by omega), by omega⟩
theorem mem_notGone {n : Nat} {g x : Int} : x ∈ notGone n g ↔ 1 ≤ x ∧ x ≤ n ∧ x ≠ g := by
  unfold notGone
  rw [List.mem_filter, upTo_mem]
  simp [and_assoc]

set_option maxRecDepth 100000 in
set_option maxHeartbeats 8000000 in
theorem seg12 {w : World} {p : Program} {loose : List PySem.Str} {mg mb : PySem.Str → Option Value} {mean : ExcName → Option Value} {h₀ : Heap} {L fa : Addr} {cd : Value} {s : Shared} {Q : Flow → Shared → Prop} {E : Value → Shared → Prop}
   (B : Below callerA h₀ [] h₀) (X : (hd.heap_39 w.params).In h₀) (T : Top p loose mean mg mb h₀) 
   {u : PySem.Str → Option Value} {dD lR lT : Addr} {oD oR : Obj} {tl : Led} {n e : Nat} {g : Int} {ab : Int → Addr} {fl : Int → Int} {G : Int → List LnkD} {vs : List Value} {R : List RowD} {ys : List (List Int × Addr × Value)}
   (F : Fr h₀ L s.heap fun y => if y = PySem.Str.ofString "due" then some (.ref dD) else if y = PySem.Str.ofString "there" then some (.ref lT) else if y = PySem.Str.ofString "rows" then some (.ref lR) else u y)
   (N : News h₀ L s.heap ((dD, oD) :: (lR, oR) :: tl))
   (hbod : BodsTl tl n ab fl G) (hGz : ∀ a, (G a).length ≤ 9) (hGid : ∀ a : Int, 1 ≤ a → a ≤ n → (G a).map (·.id) = (upTo n).filter (fun x => decide (x ≠ a)))
   (hR : oR = listOf vs.toArray e) (hrow : RowsTl tl vs R) (h64 : R.length ≤ 60)
   (hlive : ((R.filter RowD.live).map fun r => (r.adv, r.body)).Perm ((notGone n g).map fun o => (o, Value.ref (ab o))))
   (sD : (dD == sysModules) = false) (hD : DObj PySem.Challenge.rw_rh0193_01.row.prog w oD ys) (hK : KeysTl tl ys) (hkeys : ys.map (·.1) = (notGone n g).map (fun o => [1, o]))
   (htold : ∀ x ∈ ys, ToldAt tl (fun a => (G a).filter fun l => decide (l.id ≠ g)) x)
   (ret : ∀ h' tk', Fr h₀ L h' (fun y => if y = PySem.Str.ofString "due" then some (.ref dD) else if y = PySem.Str.ofString "there" then some (.ref lT) else if y = PySem.Str.ofString "rows" then some (.ref lR) else u y) →
     News h₀ L h' ((dD, oD) :: (lR, oR) :: tl) → Q .next { s with heap := h', toks := tk' }) :
   wpAny (model PySem.Challenge.rw_rh0193_01.row.prog w) (lawA L fa cd) (exec (lawSt 11) (lawEnv L fa cd)) Q E s := by
  k_with_none
  k_with "k_ne" => (refine neN ?_; (try dsimp only); first | (with_reducible first | assumption | exact Ne.symm (by assumption) | exact Nat.ne_of_gt (And.left (by assumption)) | exact Nat.ne_of_lt (And.left (by assumption)) | exact Nat.ne_of_gt (And.left (And.right (by assumption))) | exact Nat.ne_of_lt (And.left (And.right (by assumption))) | exact Nat.ne_of_gt (And.left (And.right (And.right (by assumption)))) | exact Nat.ne_of_lt (And.left (And.right (And.right (by assumption)))) | exact Nat.ne_of_gt (And.left (And.right (And.right (And.right (by assumption))))) | exact Nat.ne_of_lt (And.left (And.right (And.right (And.right (by assumption))))) | exact Nat.ne_of_gt (And.left (And.right (And.right (And.right (And.right (by assumption)))))) | exact Nat.ne_of_lt (And.left (And.right (And.right (And.right (And.right (by assumption)))))) | exact Nat.ne_of_gt (And.left (And.right (And.right (And.right (And.right (And.right (by assumption))))))) | exact Nat.ne_of_lt (And.left (And.right (And.right (And.right (And.right (And.right (by assumption))))))) | exact Nat.ne_of_gt (And.left (And.right (And.right (And.right (And.right (And.right (And.right (by assumption)))))))) | exact Nat.ne_of_lt (And.left (And.right (And.right (And.right (And.right (And.right (And.right (by assumption)))))))) | exact Nat.ne_of_gt (And.left (And.right (And.right (And.right (And.right (And.right (And.right (And.right (by assumption))))))))) | exact Nat.ne_of_lt (And.left (And.right (And.right (And.right (And.right (And.right (And.right (And.right (by assumption))))))))) | exact Nat.ne_of_gt (And.left (And.right (And.right (And.right (And.right (And.right (And.right (And.right (And.right (by assumption)))))))))) | exact Nat.ne_of_lt (And.left (And.right (And.right (And.right (And.right (And.right (And.right (And.right (And.right (by assumption)))))))))) | exact Nat.ne_of_gt (And.left (And.right (And.right (And.right (And.right (And.right (And.right (And.right (And.right (And.right (by assumption))))))))))) | exact Nat.ne_of_lt (And.left (And.right (And.right (And.right (And.right (And.right (And.right (And.right (And.right (And.right (by assumption))))))))))) | exact Nat.ne_of_gt (And.left (And.right (And.right (And.right (And.right (And.right (And.right (And.right (And.right (And.right (And.right (by assumption)))))))))))) | exact Nat.ne_of_lt (And.left (And.right (And.right (And.right (And.right (And.right (And.right (And.right (And.right (And.right (And.right (by assumption)))))))))))) | exact Nat.ne_of_gt (And.left (And.right (And.right (And.right (And.right (And.right (And.right (And.right (And.right (And.right (And.right (And.right (by assumption))))))))))))) | exact Nat.ne_of_lt (And.left (And.right (And.right (And.right (And.right (And.right (And.right (And.right (And.right (And.right (And.right (And.right (by assumption))))))))))))) | exact Nat.ne_of_gt (And.left (And.right (And.right (And.right (And.right (And.right (And.right (And.right (And.right (And.right (And.right (And.right (And.right (by assumption)))))))))))))) | exact Nat.ne_of_lt (And.left (And.right (And.right (And.right (And.right (And.right (And.right (And.right (And.right (And.right (And.right (And.right (And.right (by assumption)))))))))))))) | exact Nat.ne_of_gt (And.left (And.right (And.right (And.right (And.right (And.right (And.right (And.right (And.right (And.right (And.right (And.right (And.right (And.right (by assumption))))))))))))))) | exact Nat.ne_of_lt (And.left (And.right (And.right (And.right (And.right (And.right (And.right (And.right (And.right (And.right (And.right (And.right (And.right (And.right (by assumption))))))))))))))) | exact Nat.ne_of_gt (And.left (And.right (And.right (And.right (And.right (And.right (And.right (And.right (And.right (And.right (And.right (And.right (And.right (And.right (And.right (by assumption)))))))))))))))) | exact Nat.ne_of_lt (And.left (And.right (And.right (And.right (And.right (And.right (And.right (And.right (And.right (And.right (And.right (And.right (And.right (And.right (And.right (by assumption)))))))))))))))) | exact Nat.ne_of_gt (by assumption) | exact Nat.ne_of_lt (by assumption)) | omega)
  k_with "call ref" => (k_here; refine halt ?_)
  k_with "compareOp NotEq ref ref" => (k_here; refine halt ?_)
  w_top off
  revert X; k_fill; intro X
  have hlv : (Lives R).Perm (notGone n g) := by
    have h := hlive.map Prod.fst
    simpa [List.map_map, Function.comp_def, Lives] using h
  have hlm : ∀ x, x ∈ Lives R ↔ x ∈ notGone n g := fun x => hlv.mem_iff
  have hn : (Lives R).Nodup := hlv.nodup_iff.mpr (notGone_nodup n g)
  have Nt : News h₀ L s.heap tl := News.sub N fun p hp => .tail _ (.tail _ hp)
  have hl : s.heap.IsList lR vs.toArray := ⟨oR, (N _ (.tail _ (.head _))).1, by rw [hR], e, by rw [hR]⟩
  have hids : ∀ a : Int, 1 ≤ a → a ≤ n → ∀ l ∈ G a, 1 ≤ l.id ∧ l.id ≤ n ∧ l.id ≠ a := fun a h1 h2 l hl => by
    have hm : l.id ∈ (G a).map (·.id) := List.mem_map.mpr ⟨l, hl, rfl⟩
    rw [hGid a h1 h2, List.mem_filter, upTo_mem] at hm
    exact ⟨hm.1.1, hm.1.2, by simpa using hm.2⟩
  have hfil : ∀ a : Int, 1 ≤ a → a ≤ n → (G a).filter (fun l => decide (l.id ∈ Lives R)) = (G a).filter (fun l => decide (l.id ≠ g)) := fun a h1 h2 => by
    refine List.filter_congr fun l hl => ?_
    obtain ⟨q1, q2, q3⟩ := hids a h1 h2 l hl
    have : l.id ∈ Lives R ↔ l.id ≠ g := by rw [hlm, mem_notGone]; exact ⟨fun h => h.2.2, fun h => ⟨q1, q2, h⟩⟩
    simp [this]
  have hnd : (ys.map (·.1)).Nodup := by
    rw [hkeys]
    exact List.pairwise_map.mpr (List.Pairwise.imp (fun h e => h (by simpa using e)) (notGone_nodup n g))
  show wpAny _ (callerA.deeper (envOfC _ (PySem.Scope.mk _ _ _ _ _) _ _ _)) (exec (Stmt.If _ _ _ _) (envOfC _ (PySem.Scope.mk _ _ _ _ _) _ _ _)) _ _ _
  (try k_fold)
  k_steps
  unfold Halt
  refine edges_call B F X T rfl (by decide) (by decide) hl (hrow.at Nt) hn h64 (G := G) ?_ (fun x => by have := hGz x; omega) ?_ ?_
  · intro r hr hlr
    have hm : (r.adv, r.body) ∈ (notGone n g).map fun o => (o, Value.ref (ab o)) := hlive.mem_iff.mp (List.mem_map.mpr ⟨r, List.mem_filter.mpr ⟨hr, hlr⟩, rfl⟩)
    obtain ⟨o, ho, e⟩ := List.mem_map.mp hm
    have e1 : o = r.adv := (Prod.mk.inj e).1
    have e2 : Value.ref (ab o) = r.body := (Prod.mk.inj e).2
    obtain ⟨q1, q2, _⟩ := mem_notGone.mp ho
    rw [← e2, ← e1]
    exact hbod.body Nt q1 q2 (by have := hGz o; omega)
  · intro x hx l hl hl2
    obtain ⟨q1, q2, q3⟩ := mem_notGone.mp ((hlm _).mp hx)
    obtain ⟨r1, r2, r3⟩ := hids x q1 q2 l hl
    have hm : x ∈ (G l.id).map (·.id) := by
      rw [hGid _ r1 r2, List.mem_filter, upTo_mem]
      exact ⟨⟨q1, q2⟩, by simpa using Ne.symm r3⟩
    obtain ⟨l', h1, h2⟩ := List.mem_map.mp hm
    exact ⟨l', h1, h2⟩
  · intro d1 oD1 tl1 h1 tk1 xs st1 fr1 D1 K1 nd1 sys1 hperm htl1
    obtain ⟨F1, N1⟩ := after F N st1 fr1
    clear F
    k_steps
    unfold Halt
    (rename Fr _ _ _ _ => F5)
    refine tup_ne (xs := xs) (ys := ys) (sys_of sys1) sD (by simp only [units_deeper, units_caller]; decide) (DObj.at D1 (KeysIn.mono K1.led fun p hp => .tail _ (List.mem_append_left _ hp)) (N1 _ (.head _)).1 F5 N1)
      (DObj.at hD (KeysIn.mono hK.led fun p hp => List.mem_append_right ((d1, oD1) :: tl1) (.tail _ (.tail _ hp))) (N1 (dD, oD) (List.mem_append_right _ (.head _))).1 F5 N1) ⟨?_, ?_⟩ ?_
    · have e1 := hperm.length_eq
      have e2 := congrArg List.length hkeys
      have e3 := hlv.length_eq
      simp only [List.length_map] at e1 e2
      omega
    · intro x hx
      have hxm : x.1 ∈ (Lives R).map fun a => [1, a] := hperm.mem_iff.mp (List.mem_map.mpr ⟨x, hx, rfl⟩)
      obtain ⟨a, ha, hxa⟩ := List.mem_map.mp hxm
      have hag := (hlm a).mp ha
      obtain ⟨q1, q2, q3⟩ := mem_notGone.mp hag
      have hym : [1, a] ∈ ys.map (·.1) := by rw [hkeys]; exact List.mem_map.mpr ⟨a, hag, rfl⟩
      obtain ⟨y, hy, hya⟩ := List.mem_map.mp hym
      obtain ⟨j, hj⟩ := List.getElem?_of_mem hy
      refine ⟨(y.2.1, y.2.2), by rw [← hxa, ← hya]; exact xs_at hnd hj, ?_⟩
      obtain ⟨dx, hdx, hlx⟩ := (htl1 x hx).links (News.sub N1 fun p hp => .tail _ (List.mem_append_left _ hp)) hxa.symm
      obtain ⟨dy, hdy, hly⟩ := (htold y hy).links (News.sub N1 fun p hp => List.mem_append_right ((d1, oD1) :: tl1) (.tail _ (.tail _ hp))) hya
      rw [hdx]
      show SeqAt.EqAt _ _ _ y.2.2 true
      rw [hdy]
      rw [hfil a q1 q2] at hlx
      exact links_at hlx hly (by simp only [units_in1, units_deeper, units_caller]; decide)
    · have N5 := News.sub N1 (news' := (dD, oD) :: (lR, oR) :: tl) fun p hp => List.mem_append_right ((d1, oD1) :: tl1) hp
      clear N1
      k_steps
      exact ret _ _ F5 N5
end Mine

end

section
open PySem PySem.W PyProof.Rows PySem.Calls
open PyProof.Rows.LCg
namespace Mine

def ReachTl (tl : Led) (v : Value) (own : Int) (q : Addr) : Prop := ∃ a k t t1 t2, v = .ref a ∧ (a, tupO [.int (2 * own) t, .ref q]) ∈ tl ∧ (q, tupO [.ref k]) ∈ tl ∧ (k, tupO [.int 1 t1, .int own t2]) ∈ tl
theorem ReachTl.mono {tl tl' : Led} {v : Value} {own : Int} {q : Addr} (K : ReachTl tl v own q) (hs : ∀ p ∈ tl, p ∈ tl') : ReachTl tl' v own q := let ⟨a, k, t, t1, t2, e, h1, h2, h3⟩ := K; ⟨a, k, t, t1, t2, e, hs _ h1, hs _ h2, hs _ h3⟩

set_option maxRecDepth 100000 in
set_option maxHeartbeats 8000000 in
theorem seg13 {w : World} {p : Program} {loose : List PySem.Str} {mg mb : PySem.Str → Option Value} {mean : ExcName → Option Value} {h₀ : Heap} {L fa : Addr} {cd : Value} {s : Shared} {Q : Flow → Shared → Prop} {E : Value → Shared → Prop}
   (B : Below callerA h₀ [] h₀) (X : (hd.heap_39 w.params).In h₀) (T : Top p loose mean mg mb h₀) 
   {m : PySem.Str → Option Value} {aZ : Addr} {oZ : Obj} {tl : Led}
   (F : Fr h₀ L s.heap m) (N : News h₀ L s.heap ((aZ, oZ) :: tl))
   (ret : ∀ h' tk' d o (qs : Int → Addr) tl' xs, (∀ p ∈ tl, p ∈ tl') → (d == sysModules) = false → DObj PySem.Challenge.rw_rh0193_01.row.prog w o xs → KeysTl tl' xs → xs.map (·.1) = (upTo 6).map (fun o => [1, o]) →
     (∀ x ∈ xs, ∃ own, x.1 = [1, own] ∧ ReachTl tl' x.2.2 own (qs own)) → Fr h₀ L h' (fun y => if y = PySem.Str.ofString "reached" then some (.ref d) else m y) → News h₀ L h' ((d, o) :: (aZ, oZ) :: tl') → Q .next { s with heap := h', toks := tk' }) :
   wpAny (model PySem.Challenge.rw_rh0193_01.row.prog w) (lawA L fa cd) (exec (lawSt 12) (lawEnv L fa cd)) Q E s := by
  k_with_none
  k_with "k_ne" => (refine neN ?_; (try dsimp only); first | (with_reducible first | assumption | exact Ne.symm (by assumption) | exact Nat.ne_of_gt (And.left (by assumption)) | exact Nat.ne_of_lt (And.left (by assumption)) | exact Nat.ne_of_gt (And.left (And.right (by assumption))) | exact Nat.ne_of_lt (And.left (And.right (by assumption))) | exact Nat.ne_of_gt (And.left (And.right (And.right (by assumption)))) | exact Nat.ne_of_lt (And.left (And.right (And.right (by assumption)))) | exact Nat.ne_of_gt (And.left (And.right (And.right (And.right (by assumption))))) | exact Nat.ne_of_lt (And.left (And.right (And.right (And.right (by assumption))))) | exact Nat.ne_of_gt (And.left (And.right (And.right (And.right (And.right (by assumption)))))) | exact Nat.ne_of_lt (And.left (And.right (And.right (And.right (And.right (by assumption)))))) | exact Nat.ne_of_gt (And.left (And.right (And.right (And.right (And.right (And.right (by assumption))))))) | exact Nat.ne_of_lt (And.left (And.right (And.right (And.right (And.right (And.right (by assumption))))))) | exact Nat.ne_of_gt (And.left (And.right (And.right (And.right (And.right (And.right (And.right (by assumption)))))))) | exact Nat.ne_of_lt (And.left (And.right (And.right (And.right (And.right (And.right (And.right (by assumption)))))))) | exact Nat.ne_of_gt (And.left (And.right (And.right (And.right (And.right (And.right (And.right (And.right (by assumption))))))))) | exact Nat.ne_of_lt (And.left (And.right (And.right (And.right (And.right (And.right (And.right (And.right (by assumption))))))))) | exact Nat.ne_of_gt (And.left (And.right (And.right (And.right (And.right (And.right (And.right (And.right (And.right (by assumption)))))))))) | exact Nat.ne_of_lt (And.left (And.right (And.right (And.right (And.right (And.right (And.right (And.right (And.right (by assumption)))))))))) | exact Nat.ne_of_gt (And.left (And.right (And.right (And.right (And.right (And.right (And.right (And.right (And.right (And.right (by assumption))))))))))) | exact Nat.ne_of_lt (And.left (And.right (And.right (And.right (And.right (And.right (And.right (And.right (And.right (And.right (by assumption))))))))))) | exact Nat.ne_of_gt (And.left (And.right (And.right (And.right (And.right (And.right (And.right (And.right (And.right (And.right (And.right (by assumption)))))))))))) | exact Nat.ne_of_lt (And.left (And.right (And.right (And.right (And.right (And.right (And.right (And.right (And.right (And.right (And.right (by assumption)))))))))))) | exact Nat.ne_of_gt (And.left (And.right (And.right (And.right (And.right (And.right (And.right (And.right (And.right (And.right (And.right (And.right (by assumption))))))))))))) | exact Nat.ne_of_lt (And.left (And.right (And.right (And.right (And.right (And.right (And.right (And.right (And.right (And.right (And.right (And.right (by assumption))))))))))))) | exact Nat.ne_of_gt (And.left (And.right (And.right (And.right (And.right (And.right (And.right (And.right (And.right (And.right (And.right (And.right (And.right (by assumption)))))))))))))) | exact Nat.ne_of_lt (And.left (And.right (And.right (And.right (And.right (And.right (And.right (And.right (And.right (And.right (And.right (And.right (And.right (by assumption)))))))))))))) | exact Nat.ne_of_gt (And.left (And.right (And.right (And.right (And.right (And.right (And.right (And.right (And.right (And.right (And.right (And.right (And.right (And.right (by assumption))))))))))))))) | exact Nat.ne_of_lt (And.left (And.right (And.right (And.right (And.right (And.right (And.right (And.right (And.right (And.right (And.right (And.right (And.right (And.right (by assumption))))))))))))))) | exact Nat.ne_of_gt (And.left (And.right (And.right (And.right (And.right (And.right (And.right (And.right (And.right (And.right (And.right (And.right (And.right (And.right (And.right (by assumption)))))))))))))))) | exact Nat.ne_of_lt (And.left (And.right (And.right (And.right (And.right (And.right (And.right (And.right (And.right (And.right (And.right (And.right (And.right (And.right (And.right (by assumption)))))))))))))))) | exact Nat.ne_of_gt (by assumption) | exact Nat.ne_of_lt (by assumption)) | omega)
  k_with "call type:dict" => (k_here; refine halt ?_)
  k_with "newTuple" => (k_here; k_dflt (refine' new_tup ?mF ?mN ?_ ?mz; (case mF => k_asm); (case mN => k_asm); (case mz => exact Nat.le_of_ble_eq_true rfl)); intro _ _ _ _ L9; (try k_lt L9); (try (revert L9; intro _)); (try k_sweep))
  k_with "eval ListComp" => (k_here; k_dflt (refine' comp_eval ?mF ?mcl ?mce ?mki ?mna ?mfo ?_; (case mF => k_asm); (case mcl => with_unfolding_all rfl); (case mce => decide); (case mki => rfl); (case mna => decide); (case mfo => (intro _; rfl))))
  w_top off
  revert X; k_fill; intro X
  show wpAny _ (callerA.deeper (envOfC _ (PySem.Scope.mk _ _ _ _ _) _ _ _)) (exec (Stmt.Assign _ _ _) (envOfC _ (PySem.Scope.mk _ _ _ _ _) _ _ _)) _ _ _
  (try k_fold)
  k_steps
  (rename Fr _ _ _ _ => F1)
  (rename News _ _ _ _ => N1)
  (rename IsRange _ _ _ _ _ _ _ _ => hR)
  have hrs := range_size (n := 6) (by omega)
  refine CompOk.intro (news := (aZ, oZ) :: tl) (fun i zs nx => ∃ (qs : Int → Addr) (tl' : Led) (xs : List (List Int × Addr × Value)), nx = (aZ, oZ) :: tl' ∧ (∀ p ∈ tl, p ∈ tl') ∧ PairsTl tl' zs xs ∧ KeysTl tl' xs ∧ xs.map (·.1) = (upTo i).map (fun o => [1, o]) ∧ (∀ x ∈ xs, ∃ own, x.1 = [1, own] ∧ own ≤ i ∧ ReachTl tl' x.2.2 own (qs own)))
    (fun i v m' => ∃ t, m' (PySem.Str.ofString "own") = some (.int (1 + (i : Int)) t))
    (Src.rangeF (n := 6) rfl (N1 _ (.head _)).1 hR hrs.2 hrs.1) (by rw [sizeLine_eq]; omega) (.inr ?_) (N1 _ (.head _)).2.1 F1 N1 ⟨fun _ => 0, tl, [], rfl, fun _ h => h, ⟨rfl, fun _ _ _ h => nomatch h⟩, KeysTl.nil, rfl, fun _ h => nomatch h⟩ ?_ ?_ ?_
  · rintro i zs nx ⟨qs, tl', xs, rfl, _⟩
    exact .head _
  · rintro i v C mC zs nx s' Q E hi ⟨t, rfl⟩ _ F1 N1 hn nC n2 h
    exact asg_Name rfl (by decide) hn fun h' m' tk hn'' hm he => h h' m' tk hn'' ⟨t, hm⟩ he
  · rintro i v zs nx I2 oI2 C oC D m₂ h tk E' hi hv ⟨qs, tl', xs, rfl, htl, hps, hks, hxs, hre⟩ hC ⟨t, hown⟩ F2 N2 off3 ne hyl
    show wpAny _ _ (eval _ _) _ _ _
    clear F1 N1
    k_steps
    (rename Fr _ _ _ _ => F6)
    (rename News _ _ _ _ => N6)
    rename_i d1 _ l1 d2 _ l2 d3 _ l3 d4 _ l4 d5 _ l5
    obtain ⟨tl2, htl2⟩ : ∃ x : Led, x = (d5, tupO [.ref d1, .ref d4]) :: (d4, tupO [.int (2 * (1 + (i : Int))) (tk + 1 + 1), .ref d3]) :: (d3, tupO [.ref d2]) :: (d2, tupO [.int 1 (tk + 1 + 1 + 1), .int (1 + (i : Int)) t]) :: (d1, tupO [.int 1 tk, .int (1 + (i : Int)) t]) :: tl' := ⟨_, rfl⟩
    have hs2 : ∀ p ∈ tl', p ∈ tl2 := fun p hp => by rw [htl2]; repeat (first | exact hp | refine List.Mem.tail _ ?_)
    refine CEnd.intro (nx := (aZ, oZ) :: tl2) F6 (News.sub N6 (by
      rw [htl2]
      repeat (refine subc (by k_mem) ?_)
      exact fun p hp => by repeat (first | exact hp | refine List.Mem.tail _ ?_))) ?_ ⟨fun x => if x = 1 + (i : Int) then d3 else qs x, tl2, xs ++ [([1, 1 + (i : Int)], d1, .ref d4)], rfl, fun p hp => hs2 p (htl p hp), (hps.mono hs2).snoc ⟨d5, 0, rfl, by rw [htl2]; exact .head _⟩, (hks.mono hs2).snoc (o := tupO [.int 1 tk, .int (1 + (i : Int)) t]) (by rw [htl2]; k_mem) (KObj.two rfl), ?_, ?_⟩
    · intro p hp
      rcases List.mem_cons.mp hp with rfl | hp
      · exact off3 _ (.head _)
      · rw [htl2] at hp
        simp only [List.mem_cons] at hp
        rcases hp with rfl | rfl | rfl | rfl | rfl | hp
        · exact ⟨show @Ne Nat d5 I2 by k_ne, show @Ne Nat d5 C by k_ne, show @Ne Nat d5 D by k_ne⟩
        · exact ⟨show @Ne Nat d4 I2 by k_ne, show @Ne Nat d4 C by k_ne, show @Ne Nat d4 D by k_ne⟩
        · exact ⟨show @Ne Nat d3 I2 by k_ne, show @Ne Nat d3 C by k_ne, show @Ne Nat d3 D by k_ne⟩
        · exact ⟨show @Ne Nat d2 I2 by k_ne, show @Ne Nat d2 C by k_ne, show @Ne Nat d2 D by k_ne⟩
        · exact ⟨show @Ne Nat d1 I2 by k_ne, show @Ne Nat d1 C by k_ne, show @Ne Nat d1 D by k_ne⟩
        · exact off3 p (.tail _ hp)
    · rw [upTo_succ, List.map_append, List.map_append, hxs]; rfl
    · intro x hx
      rcases List.mem_append.mp hx with hx | hx
      · obtain ⟨own, e1, e2, e3⟩ := hre x hx
        refine ⟨own, e1, by omega, ?_⟩
        have hne9 : ¬ (own = 1 + (i : Int)) := by omega
        dsimp only
        rw [if_neg hne9]
        exact e3.mono hs2
      · rw [List.mem_singleton.mp hx]
        refine ⟨1 + (i : Int), rfl, by omega, ?_⟩
        dsimp only
        rw [if_pos rfl, htl2]
        exact ⟨d4, d2, _, _, _, rfl, by k_mem, by k_mem, by k_mem⟩
  · rintro D zs nx offD ⟨qs, tl', xs, rfl, htl, hps, hks, hxs, hre⟩ h tk F2 N2
    clear F1 N1
    have N3 := N2
    k_steps
    unfold Halt
    have hxl : xs.length = 6 := by
      have := congrArg List.length hxs
      simpa [upTo] using this
    have hnd : (xs.map (·.1)).Nodup := by
      rw [hxs]
      exact List.pairwise_map.mpr (List.Pairwise.imp (fun h e => h (by simpa using e)) (upTo_nodup 6))
    refine dict_tup rfl (by simp only [units_deeper, units_caller]; decide) F2 N3 (modules_low T.nolimit) (.head _) hps.1 (fun j v x a b => ?_) (KeysIn.mono hks.led fun p hp => .tail _ (.tail _ hp)) hnd (by omega) ?_
    · obtain ⟨a, k, e, hm⟩ := hps.2 j v x a b
      exact ⟨a, k, e, .inr (.tail _ (.tail _ hm))⟩
    intro d2 h2 tk2 oD2 F4 N4 l2 sys2 D2
    have N5 := News.sub N4 (news' := (d2, oD2) :: (aZ, oZ) :: tl') fun p hp => by
      rcases List.mem_cons.mp hp with rfl | hp
      · exact .head _
      · exact .tail _ (.tail _ hp)
    clear F2 N2 N3 N4
    k_steps
    (rename Fr _ _ _ _ => F6)
    (rename News _ _ _ _ => N6)
    exact ret _ _ d2 oD2 qs tl' xs htl sys2 D2 hks hxs (fun x hx => let ⟨own, e1, _, e3⟩ := hre x hx; ⟨own, e1, e3⟩) F6 N6
end Mine

end

section
open PySem PySem.W PyProof.Rows PySem.Calls
open PyProof.Rows.LCg
namespace Mine

/-- the pairs of a dict with int keys yet to be, in a list -/
def IPairTl (tl : Led) (v : Value) (x : Int × Value) : Prop := ∃ a n t, v = .ref a ∧ (a, tupO [.int x.1 t, x.2] n) ∈ tl
def IPairsTl (tl : Led) (vs : List Value) (xs : List (Int × Value)) : Prop := vs.length = xs.length ∧ ∀ (j : Nat) (v : Value) (x : Int × Value), vs[j]? = some v → xs[j]? = some x → IPairTl tl v x
theorem IPairsTl.mono {tl tl' : Led} {vs : List Value} {xs : List (Int × Value)} (K : IPairsTl tl vs xs) (hs : ∀ p ∈ tl, p ∈ tl') : IPairsTl tl' vs xs := ⟨K.1, fun j v x a b => let ⟨q, n, t, e, h⟩ := K.2 j v x a b; ⟨q, n, t, e, hs _ h⟩⟩
theorem IPairsTl.snoc {tl : Led} {vs : List Value} {xs : List (Int × Value)} {v : Value} {x : Int × Value} (K : IPairsTl tl vs xs) (h : IPairTl tl v x) : IPairsTl tl (vs ++ [v]) (xs ++ [x]) := by
  refine ⟨by simp [K.1], fun j v' l' hv hl => ?_⟩
  by_cases hj : j < vs.length
  · rw [List.getElem?_append_left hj] at hv
    rw [List.getElem?_append_left (by rw [← K.1]; exact hj)] at hl
    exact K.2 j v' l' hv hl
  · rw [List.getElem?_append_right (by omega)] at hv
    rw [List.getElem?_append_right (by rw [← K.1]; omega)] at hl
    rw [← K.1] at hl
    rcases hjj : j - vs.length with _ | k
    · rw [hjj] at hv hl
      simp at hv hl
      subst hv; subst hl; exact h
    · rw [hjj] at hv; simp at hv
/-- (2 * own, ((1, own),), flag) -/
def RouteTl (tl : Led) (fl : Int → Int) (kv : Int × Value) : Prop := ∃ a q k t t' t1 t2, kv.2 = .ref a ∧ (a, tupO [.int (2 * kv.1) t, .ref q, .int (fl kv.1) t']) ∈ tl ∧ (q, tupO [.ref k]) ∈ tl ∧ (k, tupO [.int 1 t1, .int kv.1 t2]) ∈ tl
theorem RouteTl.mono {tl tl' : Led} {fl : Int → Int} {kv : Int × Value} (K : RouteTl tl fl kv) (hs : ∀ p ∈ tl, p ∈ tl') : RouteTl tl' fl kv := let ⟨a, q, k, t, t', t1, t2, e, h1, h2, h3⟩ := K; ⟨a, q, k, t, t', t1, t2, e, hs _ h1, hs _ h2, hs _ h3⟩
theorem ReachTl.at {h₀ h : Heap} {L : Addr} {tl : Led} {v : Value} {own : Int} {q : Addr} (K : ReachTl tl v own q) (N : News h₀ L h tl) : ReachAt h v own q := by
  obtain ⟨a, k, t, t1, t2, e, h1, _, _⟩ := K
  exact ⟨a, t, e, _, (N _ h1).1, rfl, _, rfl⟩

set_option maxRecDepth 100000 in
set_option maxHeartbeats 8000000 in
theorem seg14 {w : World} {p : Program} {loose : List PySem.Str} {mg mb : PySem.Str → Option Value} {mean : ExcName → Option Value} {h₀ : Heap} {L fa : Addr} {cd : Value} {s : Shared} {Q : Flow → Shared → Prop} {E : Value → Shared → Prop}
   (B : Below callerA h₀ [] h₀) (X : (hd.heap_39 w.params).In h₀) (T : Top p loose mean mg mb h₀) 
   {u : PySem.Str → Option Value} {dQ dD dB lR lT : Addr} {oQ oCB oB oR : Obj} {tl : Led} {n e : Nat} {g : Int} {kvs : List (Int × Value)} {ab : Int → Addr} {fl : Int → Int} {G : Int → List LnkD} {vs : List Value} {R : List RowD} {ys : List Value} {xq : List (List Int × Addr × Value)} {qs : Int → Addr}
   (F : Fr h₀ L s.heap fun y => if y = PySem.Str.ofString "reached" then some (.ref dQ) else if y = PySem.Str.ofString "due" then some (.ref dD) else if y = PySem.Str.ofString "there" then some (.ref lT) else if y = PySem.Str.ofString "rows" then some (.ref lR) else u y)
   (N : News h₀ L s.heap ((dQ, oQ) :: (L + 1 + 1, oCB) :: (dB, oB) :: (lR, oR) :: (lT, lst ys) :: tl))
   (hB : oB.IsDictOf (PySem.intKind PySem.Challenge.rw_rh0193_01.row.prog w) kvs) (hvals : ValsAt n kvs ab) (dB' : oCB.data = .cell (some (.ref dB)))
   (hbod : BodsTl tl n ab fl G) (hn3 : n ≤ 3)
   (hR : oR = listOf vs.toArray e) (hrow : RowsTl tl vs R) (h64 : R.length ≤ 60)
   (hlive : ((R.filter RowD.live).map fun r => (r.adv, r.body)).Perm ((notGone n g).map fun o => (o, Value.ref (ab o)))) (hys : IntsAre ys (notGone n g))
   (sQ : (dQ == sysModules) = false) (hQ : DObj PySem.Challenge.rw_rh0193_01.row.prog w oQ xq) (hKq : KeysTl tl xq) (hkq : xq.map (·.1) = (upTo 6).map (fun o => [1, o])) (hxq : ∀ x ∈ xq, ∃ own, x.1 = [1, own] ∧ ReachTl tl x.2.2 own (qs own))
   (ret : ∀ h' tk' m', Fr h₀ L h' m' → Q (.ret (.bool true)) { s with heap := h', toks := tk' }) :
   wpAny (model PySem.Challenge.rw_rh0193_01.row.prog w) (lawA L fa cd) (exec (lawSt 13) (lawEnv L fa cd)) Q E s := by
  k_with_none
  k_with "k_ne" => (refine neN ?_; (try dsimp only); first | (with_reducible first | assumption | exact Ne.symm (by assumption) | exact Nat.ne_of_gt (And.left (by assumption)) | exact Nat.ne_of_lt (And.left (by assumption)) | exact Nat.ne_of_gt (And.left (And.right (by assumption))) | exact Nat.ne_of_lt (And.left (And.right (by assumption))) | exact Nat.ne_of_gt (And.left (And.right (And.right (by assumption)))) | exact Nat.ne_of_lt (And.left (And.right (And.right (by assumption)))) | exact Nat.ne_of_gt (And.left (And.right (And.right (And.right (by assumption))))) | exact Nat.ne_of_lt (And.left (And.right (And.right (And.right (by assumption))))) | exact Nat.ne_of_gt (And.left (And.right (And.right (And.right (And.right (by assumption)))))) | exact Nat.ne_of_lt (And.left (And.right (And.right (And.right (And.right (by assumption)))))) | exact Nat.ne_of_gt (And.left (And.right (And.right (And.right (And.right (And.right (by assumption))))))) | exact Nat.ne_of_lt (And.left (And.right (And.right (And.right (And.right (And.right (by assumption))))))) | exact Nat.ne_of_gt (And.left (And.right (And.right (And.right (And.right (And.right (And.right (by assumption)))))))) | exact Nat.ne_of_lt (And.left (And.right (And.right (And.right (And.right (And.right (And.right (by assumption)))))))) | exact Nat.ne_of_gt (And.left (And.right (And.right (And.right (And.right (And.right (And.right (And.right (by assumption))))))))) | exact Nat.ne_of_lt (And.left (And.right (And.right (And.right (And.right (And.right (And.right (And.right (by assumption))))))))) | exact Nat.ne_of_gt (And.left (And.right (And.right (And.right (And.right (And.right (And.right (And.right (And.right (by assumption)))))))))) | exact Nat.ne_of_lt (And.left (And.right (And.right (And.right (And.right (And.right (And.right (And.right (And.right (by assumption)))))))))) | exact Nat.ne_of_gt (And.left (And.right (And.right (And.right (And.right (And.right (And.right (And.right (And.right (And.right (by assumption))))))))))) | exact Nat.ne_of_lt (And.left (And.right (And.right (And.right (And.right (And.right (And.right (And.right (And.right (And.right (by assumption))))))))))) | exact Nat.ne_of_gt (And.left (And.right (And.right (And.right (And.right (And.right (And.right (And.right (And.right (And.right (And.right (by assumption)))))))))))) | exact Nat.ne_of_lt (And.left (And.right (And.right (And.right (And.right (And.right (And.right (And.right (And.right (And.right (And.right (by assumption)))))))))))) | exact Nat.ne_of_gt (And.left (And.right (And.right (And.right (And.right (And.right (And.right (And.right (And.right (And.right (And.right (And.right (by assumption))))))))))))) | exact Nat.ne_of_lt (And.left (And.right (And.right (And.right (And.right (And.right (And.right (And.right (And.right (And.right (And.right (And.right (by assumption))))))))))))) | exact Nat.ne_of_gt (And.left (And.right (And.right (And.right (And.right (And.right (And.right (And.right (And.right (And.right (And.right (And.right (And.right (by assumption)))))))))))))) | exact Nat.ne_of_lt (And.left (And.right (And.right (And.right (And.right (And.right (And.right (And.right (And.right (And.right (And.right (And.right (And.right (by assumption)))))))))))))) | exact Nat.ne_of_gt (And.left (And.right (And.right (And.right (And.right (And.right (And.right (And.right (And.right (And.right (And.right (And.right (And.right (And.right (by assumption))))))))))))))) | exact Nat.ne_of_lt (And.left (And.right (And.right (And.right (And.right (And.right (And.right (And.right (And.right (And.right (And.right (And.right (And.right (And.right (by assumption))))))))))))))) | exact Nat.ne_of_gt (And.left (And.right (And.right (And.right (And.right (And.right (And.right (And.right (And.right (And.right (And.right (And.right (And.right (And.right (And.right (by assumption)))))))))))))))) | exact Nat.ne_of_lt (And.left (And.right (And.right (And.right (And.right (And.right (And.right (And.right (And.right (And.right (And.right (And.right (And.right (And.right (And.right (by assumption)))))))))))))))) | exact Nat.ne_of_gt (by assumption) | exact Nat.ne_of_lt (by assumption)) | omega)
  k_with "call ref" => (k_here; refine halt ?_)
  k_with "call type:dict" => (k_here; refine halt ?_)
  k_with "compareOp Eq ref ref" => (k_here; refine halt ?_)
  k_with "subscriptTail Name Name ref int" => (k_here; (with_reducible rename ValsAt _ _ _ => hv9); k_dflt (refine' kda_item (knd := PySem.intKind _ _) ?a ?b ?c (intKind_is _ _ _ _) ?d ?_; (case a => k_asm); (case b => k_mem); (case c => assumption); (case d => exact hv9 _ (by omega) (by omega))))
  k_with "subscriptTail Name Constant ref int" => (k_here; k_dflt (refine' item_mid ?N ?t ?_ ?hs ?hg; (case N => k_asm); (case t => (repeat (first | assumption | refine List.Mem.tail _ ?_))); (case hs => with_unfolding_all rfl); (case hg => intro _; with_unfolding_all rfl)))
  k_with "newTuple" => (k_here; k_dflt (refine' new_tup ?mF ?mN ?_ ?mz; (case mF => k_asm); (case mN => k_asm); (case mz => exact Nat.le_of_ble_eq_true rfl)); intro _ _ _ _ L9; (try k_lt L9); (try (revert L9; intro _)); (try k_sweep))
  k_with "eval ListComp" => (k_here; k_dflt (refine' comp_eval ?mF ?mcl ?mce ?mki ?mna ?mfo ?_; (case mF => k_asm); (case mcl => with_unfolding_all rfl); (case mce => decide); (case mki => rfl); (case mna => decide); (case mfo => (intro _; rfl))))
  w_top off
  revert X; k_fill; intro X
  have hlv : (Lives R).Perm (notGone n g) := by
    have h := hlive.map Prod.fst
    simpa [List.map_map, Function.comp_def, Lives] using h
  have hlm : ∀ x, x ∈ Lives R ↔ x ∈ notGone n g := fun x => hlv.mem_iff
  have hn : (Lives R).Nodup := hlv.nodup_iff.mpr (notGone_nodup n g)
  have Nt : News h₀ L s.heap tl := News.sub N fun p hp => .tail _ (.tail _ (.tail _ (.tail _ (.tail _ hp))))
  have hl : s.heap.IsList lR vs.toArray := ⟨oR, (N (lR, oR) (by k_mem)).1, by rw [hR], e, by rw [hR]⟩
  have hxl : xq.length = 6 := by
    have := congrArg List.length hkq
    simpa [upTo] using this
  show wpAny _ (callerA.deeper (envOfC _ (PySem.Scope.mk _ _ _ _ _) _ _ _)) (exec (Stmt.Return _ _) (envOfC _ (PySem.Scope.mk _ _ _ _ _) _ _ _)) _ _ _
  (try k_fold)
  k_steps
  unfold Halt
  refine routers_call B F X T rfl (by decide) (by decide) hl (hrow.at Nt) hn h64 (fl := fl) ?_ sQ (N _ (.head _)).1 hQ (fun x hx => ?_) (by omega) (qs := qs) (fun x hx => ?_) ?_
  · intro r hr hlr
    have hm : (r.adv, r.body) ∈ (notGone n g).map fun o => (o, Value.ref (ab o)) := hlive.mem_iff.mp (List.mem_map.mpr ⟨r, List.mem_filter.mpr ⟨hr, hlr⟩, rfl⟩)
    obtain ⟨o, ho, e⟩ := List.mem_map.mp hm
    have e1 : o = r.adv := (Prod.mk.inj e).1
    have e2 : Value.ref (ab o) = r.body := (Prod.mk.inj e).2
    obtain ⟨q1, q2, _⟩ := mem_notGone.mp ho
    rw [← e2, ← e1]
    exact hbod.flag Nt q1 q2
  · obtain ⟨o, h1, h2⟩ := hKq x hx
    exact ⟨o, (Nt _ h1).1, h2⟩
  · obtain ⟨own, h1, h2⟩ := hxq x hx
    exact ⟨own, h1, h2.at Nt⟩
  intro d1 oD1 tl1 h1 tk1 kv1 st1 fr1 D1 hperm hfr nd1 sys1
  obtain ⟨F1, N1⟩ := after F N st1 fr1
  replace N1 := News.sub N1 (news' := Led4 L dB lR lT oCB oB oR (lst ys) ((d1, oD1) :: (tl1 ++ tl))) (by
    repeat (refine subc (List.mem_append_right _ (by k_mem)) ?_)
    intro p hp
    simp only [List.mem_cons, List.mem_append] at hp ⊢
    rcases hp with h | h | h <;> simp [h])
  obtain ⟨tl2, htl2⟩ : ∃ x, x = (d1, oD1) :: (tl1 ++ tl) := ⟨_, rfl⟩
  have hm1 : (d1, oD1) ∈ tl2 := by rw [htl2]; exact .head _
  have hm2 : ∀ p ∈ tl1, p ∈ tl2 := fun p hp => by rw [htl2]; exact .tail _ (List.mem_append_left _ hp)
  have hm3 : ∀ p ∈ tl, p ∈ tl2 := fun p hp => by rw [htl2]; exact .tail _ (List.mem_append_right _ hp)
  rw [← htl2] at N1
  clear htl2 F N
  k_steps
  refine CompOk.intro (news := Led4 L dB lR lT oCB oB oR (lst ys) tl2) (fun i zs nx => ∃ (tl' : Led) (xs2 : List (Int × Value)), nx = Led4 L dB lR lT oCB oB oR (lst ys) tl' ∧ (∀ p ∈ tl2, p ∈ tl') ∧ IPairsTl tl' zs xs2 ∧ xs2.map (·.1) = (notGone n g).take i ∧ ∀ kv ∈ xs2, RouteTl tl' fl kv)
    (fun i v m' => ∃ o t, (notGone n g)[i]? = some o ∧ m' (PySem.Str.ofString "own") = some (.int o t))
    (Src.list rfl (N1 (lT, _) (by k_mem)).1 rfl rfl) (by rw [sizeLine_eq, ints_len hys]; have := notGone_len n g; omega) (.inr ?_) (N1 (lT, _) (by k_mem)).2.1 F1 N1 ⟨tl2, [], rfl, fun _ h => h, ⟨rfl, fun _ _ _ h => nomatch h⟩, rfl, fun _ h => nomatch h⟩ ?_ ?_ ?_
  · rintro i zs nx ⟨tl', xs2, rfl, _⟩
    exact .tail _ (.tail _ (.tail _ (.head _)))
  · rintro i v C mC zs nx s' Q E hi hv _ F1 N1 hn nC n2 h
    obtain ⟨o, ho⟩ : ∃ o, (notGone n g)[i]? = some o := ⟨_, List.getElem?_eq_getElem (by rw [← ints_len hys]; exact hi)⟩
    obtain ⟨t, ht⟩ := hys.get i _ ho
    rw [ht] at hv
    cases hv
    exact asg_Name rfl (by decide) hn fun h' m' tk hn'' hm he => h h' m' tk hn'' ⟨o, t, ho, hm⟩ he
  · rintro i v zs nx I2 oI2 C oC D m₂ h tk E' hi hv ⟨tl', xs2, rfl, htl, hps, hks, hre⟩ hC ⟨o, t, ho, hown⟩ F2 N2 off3 ne hyl
    show wpAny _ _ (eval _ _) _ _ _
    obtain ⟨ho1, ho2, ho3⟩ := notGone_mem (List.mem_of_getElem? ho)
    obtain ⟨ltt, us, bt0, bt1, bk0, bk1, hbm0, _, _⟩ := hbod o ho1 ho2
    have hbm := htl _ (hm3 _ hbm0)
    clear F1 N1
    dsimp only [Led4] at N2
    k_steps
    (rename Fr _ _ _ _ => F6)
    (rename News _ _ _ _ => N6)
    rename_i d1' _ l1 d2 _ l2 d3 _ l3 d4 _ l4
    obtain ⟨tl3, htl3⟩ : ∃ x : Led, x = (d4, tupO [.int o t, .ref d3]) :: (d3, tupO [.int (2 * o) (tk + 1), .ref d2, .int (fl o) bt1]) :: (d2, tupO [.ref d1']) :: (d1', tupO [.int 1 (tk + 1 + 1), .int o t]) :: tl' := ⟨_, rfl⟩
    have hs2 : ∀ p ∈ tl', p ∈ tl3 := fun p hp => by rw [htl3]; repeat (first | exact hp | refine List.Mem.tail _ ?_)
    refine CEnd.intro (nx := Led4 L dB lR lT oCB oB oR (lst ys) tl3) F6 (News.sub N6 (by
      rw [htl3]
      repeat (refine subc (by k_mem) ?_)
      exact fun p hp => by repeat (first | exact hp | refine List.Mem.tail _ ?_))) ?_ ⟨tl3, xs2 ++ [(o, .ref d3)], rfl, fun p hp => hs2 p (htl p hp), (hps.mono hs2).snoc ⟨d4, 0, t, rfl, by rw [htl3]; exact .head _⟩, ?_, ?_⟩
    · intro p hp
      simp only [List.mem_cons] at hp
      rcases hp with rfl | rfl | rfl | rfl | hp
      · exact off3 _ (.head _)
      · exact off3 _ (.tail _ (.head _))
      · exact off3 _ (.tail _ (.tail _ (.head _)))
      · exact off3 _ (.tail _ (.tail _ (.tail _ (.head _))))
      · rw [htl3] at hp
        simp only [List.mem_cons] at hp
        rcases hp with rfl | rfl | rfl | rfl | hp
        · exact ⟨show @Ne Nat d4 I2 by k_ne, show @Ne Nat d4 C by k_ne, show @Ne Nat d4 D by k_ne⟩
        · exact ⟨show @Ne Nat d3 I2 by k_ne, show @Ne Nat d3 C by k_ne, show @Ne Nat d3 D by k_ne⟩
        · exact ⟨show @Ne Nat d2 I2 by k_ne, show @Ne Nat d2 C by k_ne, show @Ne Nat d2 D by k_ne⟩
        · exact ⟨show @Ne Nat d1' I2 by k_ne, show @Ne Nat d1' C by k_ne, show @Ne Nat d1' D by k_ne⟩
        · exact off3 p (.tail _ (.tail _ (.tail _ (.tail _ hp))))
    · rw [List.take_add_one, ho, List.map_append, hks]; rfl
    · intro kv hkv
      rcases List.mem_append.mp hkv with hkv | hkv
      · exact (hre kv hkv).mono hs2
      · rw [List.mem_singleton.mp hkv, htl3]
        exact ⟨d3, d2, d1', _, _, _, _, rfl, by k_mem, by k_mem, by k_mem⟩
  · rintro D zs nx offD ⟨tl', xs2, rfl, htl, hps, hks, hre⟩ h tk F2 N2
    clear F1 N1
    rw [List.take_of_length_le (by rw [ints_len hys]; exact Nat.le_refl _)] at hks
    have hlen2 : xs2.length = (notGone n g).length := by simpa using congrArg List.length hks
    have N3 := N2
    dsimp only [Led4] at N2
    k_steps
    unfold Halt
    have hnd : (xs2.map (·.1)).Nodup := by rw [hks]; exact notGone_nodup n g
    refine dict_int rfl F2 N3 (modules_low T.nolimit) (.head _) hps.1 (fun j v x a b => ?_) hnd (by have := notGone_len n g; omega) ?_
    · obtain ⟨a, k, t, e, hm⟩ := hps.2 j v x a b
      exact ⟨a, k, t, e, .inr (.tail _ (.tail _ (.tail _ (.tail _ (.tail _ hm)))))⟩
    intro d2 h2 tk2 oD2 F4 N4 l2 sys2 D2
    clear F2 N2 N3
    k_steps
    unfold Halt
    (rename Fr _ _ _ _ => F5)
    have hself : xq.map ownOf = upTo 6 := by
      have e1 : xq.map ownOf = (xq.map (·.1)).map fun (k : List Int) => k.getD 1 0 := by rw [List.map_map]; rfl
      rw [e1, hkq, List.map_map]
      exact (List.map_congr_left fun _ _ => rfl).trans (List.map_id _)
    rw [hself] at hperm
    have hmem : ∀ x, x ∈ kv1.map (·.1) ↔ x ∈ notGone n g := fun x => by
      rw [hperm.mem_iff, List.mem_filter, upTo_mem]
      simp only [decide_eq_true_eq]
      rw [hlm, mem_notGone]
      constructor
      · exact fun h => h.2
      · exact fun h => ⟨⟨h.1, by omega⟩, h⟩
    have hkn : (kv1.map (·.1)).Nodup := hperm.nodup_iff.mpr ((upTo_nodup 6).filter _)
    have hp2 : (kv1.map (·.1)).Perm (notGone n g) := (List.perm_ext_iff_of_nodup hkn (notGone_nodup n g)).mpr hmem
    have N4t : News h₀ L h2 tl' := News.sub N4 fun p hp => .tail _ (.tail _ (.tail _ (.tail _ (.tail _ (.tail _ hp)))))
    refine keq_pairs (knd := PySem.intKind _ _) (ka := kv1) (kb := xs2) (r := true) N4 (a := d1) (oa := oD1) (.tail _ (.tail _ (.tail _ (.tail _ (.tail _ (.tail _ (htl _ hm1))))))) (.head _) D1 D2 (sys_of sys1) sys2 ?_ (by simp only [units_deeper, units_caller]; decide) (hits_true fun kv hkv => ?_) ?_
    · rw [hlen2, ← hp2.length_eq, List.length_map]
    · have hkg : kv.1 ∈ notGone n g := (hmem kv.1).mp (List.mem_map.mpr ⟨kv, hkv, rfl⟩)
      have hkx : kv.1 ∈ xs2.map (·.1) := by rw [hks]; exact hkg
      obtain ⟨kv', hkv', he⟩ := List.mem_map.mp hkx
      refine ⟨kv'.2, value_at hnd (by rw [← he]; exact hkv'), ?_⟩
      obtain ⟨a, q, k, t1, t2, t3, t4, e1, m1, m2, m3⟩ := hre kv' hkv'
      obtain ⟨b, u1, u2, nb, e2, m4⟩ := hfr kv hkv
      obtain ⟨x, hx, hxo⟩ : ∃ x ∈ xq, ownOf x = kv.1 := by
        have : kv.1 ∈ xq.map ownOf := by
          rw [hself, upTo_mem]
          obtain ⟨q1, q2, _⟩ := mem_notGone.mp hkg
          exact ⟨q1, by omega⟩
        obtain ⟨x, hx, h⟩ := List.mem_map.mp this
        exact ⟨x, hx, h⟩
      obtain ⟨own, ho1, c, k2, t5, t6, t7, _, _, m5, m6⟩ := hxq x hx
      have hown : own = kv.1 := by
        rw [← hxo]
        unfold ownOf
        rw [ho1]; rfl
      rw [hown] at m5 m6
      rw [he] at m1 m3
      rw [e1, e2]
      exact route_at ⟨_, (N4t _ (htl _ (hm2 _ m4))).1, rfl, _, rfl⟩ ⟨_, (N4t _ (htl _ (hm3 _ m5))).1, rfl, _, rfl⟩ ⟨_, (N4t _ (htl _ (hm3 _ m6))).1, rfl, _, rfl⟩
        ⟨_, (N4t _ m1).1, rfl, _, rfl⟩ ⟨_, (N4t _ m2).1, rfl, _, rfl⟩ ⟨_, (N4t _ m3).1, rfl, _, rfl⟩ (by simp only [units_deeper, units_caller]; decide)
    · clear N4 N4t
      k_steps
      exact ret _ _ _ F5
end Mine

end

section
open PySem PySem.W PyProof.Rows PySem.Calls
open PyProof.Rows.LCg
namespace Mine

/-- what stands between two turns of the first loop -/
def Row3J (w : World) (n : Nat) (L dB lB sl lR : Addr) (oG oLs oCB oCX oSl oR : Obj) (many : Value) (i : Nat) (m : PySem.Str → Option Value) (nx : Led) : Prop :=
  ∃ (oB oO : Obj) (c : Int) (t : Tok) (e : Nat) (co : Option Value) (bs : List BD) (tl : Led) (u : PySem.Str → Option Value),
    nx = Led9 L dB lB sl lR oB (boxO sl c t e) oO oG oLs oCB oCX oSl oR tl ∧ OwnOff tl (Adr9 L dB lB lR) ∧ oO.data = .cell co ∧ 0 ≤ c ∧
    oB.IsDictOf (PySem.intKind PySem.Challenge.rw_rh0193_01.row.prog w) (bs.map fun b => (b.own, b.val)) ∧ bs.map (·.own) = upTo i ∧ (∀ b ∈ bs, BodTl tl n b) ∧ m = fun y => if y = PySem.Str.ofString "rows" then some (.ref lR) else if y = PySem.Str.ofString "many" then some many else u y

set_option maxRecDepth 100000 in
set_option maxHeartbeats 8000000 in
theorem seg3 {w : World} {p : Program} {loose : List PySem.Str} {mg mb : PySem.Str → Option Value} {mean : ExcName → Option Value} {h₀ : Heap} {L fa : Addr} {cd : Value} {s : Shared} {Q : Flow → Shared → Prop} {E : Value → Shared → Prop}
   (hE : PassesOwn (model PySem.Challenge.rw_rh0193_01.row.prog w) (lawA L fa cd) (lawEnv L fa cd) E)
   (B : Below callerA h₀ [] h₀) (X : (hd.heap_39 w.params).In h₀) (T : Top p loose mean mg mb h₀) 
   {u : PySem.Str → Option Value} {lR dB lB sl : Addr} {n : Nat} {tkm : Tok} {oB oO oG oLs oCB oCX oR : Obj} {c : Int} {t : Tok} {e0 csl : Nat} {ws : List Value} {zs : List Int}
   (F : Fr h₀ L s.heap fun y => if y = PySem.Str.ofString "rows" then some (.ref lR) else if y = PySem.Str.ofString "many" then some (.int n tkm) else u y)
   (N : News h₀ L s.heap (Led9 L dB lB sl lR oB (boxO sl c t e0) oO oG oLs oCB oCX (listOf ws.toArray csl) oR []))
   (hws : IntsAre ws zs) (hzs : zs.length ≤ 30) (c0 : 0 ≤ c)
   (o1 : @LT.lt Nat _ (L + 6) sl) (o2 : @LT.lt Nat _ sl lB) (o3 : @LT.lt Nat _ lB dB) (o4 : @LT.lt Nat _ dB lR) (sB : (dB == sysModules) = false)
   (hB : oB.IsDictOf (PySem.intKind PySem.Challenge.rw_rh0193_01.row.prog w) []) (hn2 : 2 ≤ n) (hn3 : n ≤ 3)
   (dX : oCX.data = .cell (some (.ref lB))) (dB' : oCB.data = .cell (some (.ref dB))) {vO : Option Value} (dO : oO.data = .cell vO)
   (ret : ∀ h' tk' oB' oO' vO' c' t' e' (bs : List BD) tl' (u' : PySem.Str → Option Value), OwnOff tl' (Adr9 L dB lB lR) → oO'.data = .cell vO' → 0 ≤ c' → oB'.IsDictOf (PySem.intKind PySem.Challenge.rw_rh0193_01.row.prog w) (bs.map fun b => (b.own, b.val)) →
     bs.map (·.own) = upTo n → (∀ b ∈ bs, BodTl tl' n b) → Fr h₀ L h' (fun y => if y = PySem.Str.ofString "rows" then some (.ref lR) else if y = PySem.Str.ofString "many" then some (.int n tkm) else u' y) →
     News h₀ L h' (Led9 L dB lB sl lR oB' (boxO sl c' t' e') oO' oG oLs oCB oCX (listOf ws.toArray csl) oR tl') → Q .next { s with heap := h', toks := tk' }) :
   wpAny (model PySem.Challenge.rw_rh0193_01.row.prog w) (lawA L fa cd) (exec (lawSt 2) (lawEnv L fa cd)) Q E s := by
  k_with_none
  k_with "k_ne" => (refine neN ?_; (try dsimp only); first | (with_reducible first | assumption | exact Ne.symm (by assumption) | exact Nat.ne_of_gt (And.left (by assumption)) | exact Nat.ne_of_lt (And.left (by assumption)) | exact Nat.ne_of_gt (And.left (And.right (by assumption))) | exact Nat.ne_of_lt (And.left (And.right (by assumption))) | exact Nat.ne_of_gt (And.left (And.right (And.right (by assumption)))) | exact Nat.ne_of_lt (And.left (And.right (And.right (by assumption)))) | exact Nat.ne_of_gt (And.left (And.right (And.right (And.right (by assumption))))) | exact Nat.ne_of_lt (And.left (And.right (And.right (And.right (by assumption))))) | exact Nat.ne_of_gt (And.left (And.right (And.right (And.right (And.right (by assumption)))))) | exact Nat.ne_of_lt (And.left (And.right (And.right (And.right (And.right (by assumption)))))) | exact Nat.ne_of_gt (And.left (And.right (And.right (And.right (And.right (And.right (by assumption))))))) | exact Nat.ne_of_lt (And.left (And.right (And.right (And.right (And.right (And.right (by assumption))))))) | exact Nat.ne_of_gt (And.left (And.right (And.right (And.right (And.right (And.right (And.right (by assumption)))))))) | exact Nat.ne_of_lt (And.left (And.right (And.right (And.right (And.right (And.right (And.right (by assumption)))))))) | exact Nat.ne_of_gt (And.left (And.right (And.right (And.right (And.right (And.right (And.right (And.right (by assumption))))))))) | exact Nat.ne_of_lt (And.left (And.right (And.right (And.right (And.right (And.right (And.right (And.right (by assumption))))))))) | exact Nat.ne_of_gt (And.left (And.right (And.right (And.right (And.right (And.right (And.right (And.right (And.right (by assumption)))))))))) | exact Nat.ne_of_lt (And.left (And.right (And.right (And.right (And.right (And.right (And.right (And.right (And.right (by assumption)))))))))) | exact Nat.ne_of_gt (And.left (And.right (And.right (And.right (And.right (And.right (And.right (And.right (And.right (And.right (by assumption))))))))))) | exact Nat.ne_of_lt (And.left (And.right (And.right (And.right (And.right (And.right (And.right (And.right (And.right (And.right (by assumption))))))))))) | exact Nat.ne_of_gt (And.left (And.right (And.right (And.right (And.right (And.right (And.right (And.right (And.right (And.right (And.right (by assumption)))))))))))) | exact Nat.ne_of_lt (And.left (And.right (And.right (And.right (And.right (And.right (And.right (And.right (And.right (And.right (And.right (by assumption)))))))))))) | exact Nat.ne_of_gt (And.left (And.right (And.right (And.right (And.right (And.right (And.right (And.right (And.right (And.right (And.right (And.right (by assumption))))))))))))) | exact Nat.ne_of_lt (And.left (And.right (And.right (And.right (And.right (And.right (And.right (And.right (And.right (And.right (And.right (And.right (by assumption))))))))))))) | exact Nat.ne_of_gt (And.left (And.right (And.right (And.right (And.right (And.right (And.right (And.right (And.right (And.right (And.right (And.right (And.right (by assumption)))))))))))))) | exact Nat.ne_of_lt (And.left (And.right (And.right (And.right (And.right (And.right (And.right (And.right (And.right (And.right (And.right (And.right (And.right (by assumption)))))))))))))) | exact Nat.ne_of_gt (And.left (And.right (And.right (And.right (And.right (And.right (And.right (And.right (And.right (And.right (And.right (And.right (And.right (And.right (by assumption))))))))))))))) | exact Nat.ne_of_lt (And.left (And.right (And.right (And.right (And.right (And.right (And.right (And.right (And.right (And.right (And.right (And.right (And.right (And.right (by assumption))))))))))))))) | exact Nat.ne_of_gt (And.left (And.right (And.right (And.right (And.right (And.right (And.right (And.right (And.right (And.right (And.right (And.right (And.right (And.right (And.right (by assumption)))))))))))))))) | exact Nat.ne_of_lt (And.left (And.right (And.right (And.right (And.right (And.right (And.right (And.right (And.right (And.right (And.right (And.right (And.right (And.right (And.right (by assumption)))))))))))))))) | exact Nat.ne_of_gt (by assumption) | exact Nat.ne_of_lt (by assumption)) | (with_reducible first | exact Nat.ne_of_gt (Sep.a1a2 hsep) | exact Nat.ne_of_lt (Sep.a1a2 hsep) | exact Nat.ne_of_gt (Sep.a2a3 hsep) | exact Nat.ne_of_lt (Sep.a2a3 hsep) | exact Nat.ne_of_gt (Sep.a3a4 hsep) | exact Nat.ne_of_lt (Sep.a3a4 hsep) | exact Nat.ne_of_gt (Sep.a4a5 hsep) | exact Nat.ne_of_lt (Sep.a4a5 hsep) | exact Nat.ne_of_gt (Sep.a5s hsep) | exact Nat.ne_of_lt (Sep.a5s hsep) | exact Nat.ne_of_gt (Sep.sb hsep) | exact Nat.ne_of_lt (Sep.sb hsep) | exact Nat.ne_of_gt (Sep.bd hsep) | exact Nat.ne_of_lt (Sep.bd hsep) | exact Nat.ne_of_gt (Sep.dr hsep) | exact Nat.ne_of_lt (Sep.dr hsep) | exact Nat.ne_of_gt (Sep.a1a3 hsep) | exact Nat.ne_of_lt (Sep.a1a3 hsep) | exact Nat.ne_of_gt (Sep.a2a4 hsep) | exact Nat.ne_of_lt (Sep.a2a4 hsep) | exact Nat.ne_of_gt (Sep.a3a5 hsep) | exact Nat.ne_of_lt (Sep.a3a5 hsep) | exact Nat.ne_of_gt (Sep.a4s hsep) | exact Nat.ne_of_lt (Sep.a4s hsep) | exact Nat.ne_of_gt (Sep.a5b hsep) | exact Nat.ne_of_lt (Sep.a5b hsep) | exact Nat.ne_of_gt (Sep.sd hsep) | exact Nat.ne_of_lt (Sep.sd hsep) | exact Nat.ne_of_gt (Sep.br hsep) | exact Nat.ne_of_lt (Sep.br hsep) | exact Nat.ne_of_gt (Sep.a1a4 hsep) | exact Nat.ne_of_lt (Sep.a1a4 hsep) | exact Nat.ne_of_gt (Sep.a2a5 hsep) | exact Nat.ne_of_lt (Sep.a2a5 hsep) | exact Nat.ne_of_gt (Sep.a3s hsep) | exact Nat.ne_of_lt (Sep.a3s hsep) | exact Nat.ne_of_gt (Sep.a4b hsep) | exact Nat.ne_of_lt (Sep.a4b hsep) | exact Nat.ne_of_gt (Sep.a5d hsep) | exact Nat.ne_of_lt (Sep.a5d hsep) | exact Nat.ne_of_gt (Sep.sr hsep) | exact Nat.ne_of_lt (Sep.sr hsep) | exact Nat.ne_of_gt (Sep.a1a5 hsep) | exact Nat.ne_of_lt (Sep.a1a5 hsep) | exact Nat.ne_of_gt (Sep.a2s hsep) | exact Nat.ne_of_lt (Sep.a2s hsep) | exact Nat.ne_of_gt (Sep.a3b hsep) | exact Nat.ne_of_lt (Sep.a3b hsep) | exact Nat.ne_of_gt (Sep.a4d hsep) | exact Nat.ne_of_lt (Sep.a4d hsep) | exact Nat.ne_of_gt (Sep.a5r hsep) | exact Nat.ne_of_lt (Sep.a5r hsep) | exact Nat.ne_of_gt (Sep.a1s hsep) | exact Nat.ne_of_lt (Sep.a1s hsep) | exact Nat.ne_of_gt (Sep.a2b hsep) | exact Nat.ne_of_lt (Sep.a2b hsep) | exact Nat.ne_of_gt (Sep.a3d hsep) | exact Nat.ne_of_lt (Sep.a3d hsep) | exact Nat.ne_of_gt (Sep.a4r hsep) | exact Nat.ne_of_lt (Sep.a4r hsep) | exact Nat.ne_of_gt (Sep.a1b hsep) | exact Nat.ne_of_lt (Sep.a1b hsep) | exact Nat.ne_of_gt (Sep.a2d hsep) | exact Nat.ne_of_lt (Sep.a2d hsep) | exact Nat.ne_of_gt (Sep.a3r hsep) | exact Nat.ne_of_lt (Sep.a3r hsep) | exact Nat.ne_of_gt (Sep.a1d hsep) | exact Nat.ne_of_lt (Sep.a1d hsep) | exact Nat.ne_of_gt (Sep.a2r hsep) | exact Nat.ne_of_lt (Sep.a2r hsep) | exact Nat.ne_of_gt (Sep.a1r hsep) | exact Nat.ne_of_lt (Sep.a1r hsep)) | omega)
  k_with "call ref" => (k_here; (with_reducible rename Below callerA _ _ _ => KB); (with_reducible rename IntsAre _ _ => hws); k_dflt (refine' draw_call KB ?mF ?mX ?mT ?mk ?md ?mu ?mN ?mU ?msb ?ms ?msc ?msd hws ?ml ?m0 ?mm ?_; (case mF => k_asm); (case mX => assumption); (case mT => k_asm); (case mN => k_asm); (case mk => rfl); (case md => decide); (case mu => decide); (case mU => k_updF); (case ms => k_mem); (case msc => rfl); (case msd => rfl); (case msb => k_ne); (case ml => assumption); (case m0 => omega); (case mm => omega)); intro _ _ _ _ _ _ _ N9 V8 V9; (try dsimp only at N9); revert N9 V8 V9; intro _ _ _; (try k_sweep))
  k_with "pyIter ref" => (k_here; refine halt ?_)
  k_with "newTuple" => (k_here; k_dflt (refine' new_tup ?mF ?mN ?_ ?mz; (case mF => k_asm); (case mN => k_asm); (case mz => exact Nat.le_of_ble_eq_true rfl)); intro _ _ _ _ L9; (try k_lt L9); (try (revert L9; intro _)); (try k_sweep))
  k_with "eval ListComp" => (k_here; k_dflt (refine' comp_eval ?mF ?mcl ?mce ?mki ?mna ?mfo ?_; (case mF => k_asm); (case mcl => with_unfolding_all rfl); (case mce => decide); (case mki => rfl); (case mna => decide); (case mfo => (intro _; rfl))))
  k_with "call type:tuple" => (k_here; refine halt ?_)
  k_with "setItem ref int" => (k_here; k_dflt (refine' kda_set (knd := PySem.intKind _ _) ?F ?N ?U ?d (intKind_is _ _ _ _) ?z ?_; (case F => k_asm); (case N => k_asm); (case U => k_updF); (case d => assumption); (case z => (rw [sizeLine_eq]; omega))); intro _ _ _ N9 D9; (try dsimp only at N9); revert N9 D9; intro _ _; (try k_sweep))
  w_top off
  revert X; k_fill; intro X
  have hsep : Sep L sl lB dB lR := ⟨o1, o2, o3, o4⟩
  dsimp only [Led9] at N
  show wpAny _ (callerA.deeper (envOfC _ (PySem.Scope.mk _ _ _ _ _) _ _ _)) (exec (Stmt.For _ _ _ _ _) (envOfC _ (PySem.Scope.mk _ _ _ _ _) _ _ _)) _ _ _
  (try k_fold)
  refine For_turns F ?_ (hE := hE)
  k_steps
  unfold Halt
  (rename Fr _ _ _ _ => F1)
  (rename News _ _ _ _ => N1)
  (rename IsRange _ _ _ _ _ _ _ _ => hR)
  have hrs := range_size (n := n) (by omega)
  refine turns_src (Row3J w n L dB lB sl lR oG oLs oCB oCX (listOf ws.toArray csl) oR (.int n tkm))
    (Src.rangeF (ax := sl) (lo := listOf ws.toArray csl) (n := n) rfl (N1 (sl, listOf ws.toArray csl) (by k_mem)).1 hR hrs.2 hrs.1) (.inr ?_) (N1 (sl, listOf ws.toArray csl) (by k_mem)).2.1 F1 N1 ⟨oB, oO, c, t, e0, vO, [], [], u, rfl, (fun _ h => nomatch h), dO, c0, hB, rfl, (fun _ h => nomatch h), rfl⟩ ?_ ?_
  · rintro i m nx ⟨oB, oO, c, t, e, co, bs, tl, u, rfl, _⟩
    k_mem
  · clear F1 N1
    rintro I i v m₁ nx oI h tk hi ⟨tq, rfl⟩ hd0 ⟨oB', oO', c', t', e', co, bs, tl, u', rfl, off, dO', c0', hB', hbs, hbt, rfl⟩ F1 N1
    have hI1 : @Ne Nat dB I := hd0 (dB, oB') (.head _)
    have hI2 : @Ne Nat lB I := hd0 (lB, _) (.tail _ (.head _))
    have hI3 : @Ne Nat (L + 1 + 1 + 1) I := hd0 (L + 1 + 1 + 1, oO') (.tail _ (.tail _ (.head _)))
    have hI4 : @Ne Nat (L + 1 + 1 + 1 + 1) I := hd0 (L + 1 + 1 + 1 + 1, oG) (.tail _ (.tail _ (.tail _ (.tail _ (.head _)))))
    have hI6 : @Ne Nat sl I := hd0 (sl, _) (.tail _ (.tail _ (.tail _ (.head _))))
    have hI7 : @Ne Nat (L + 1 + 1 + 1 + 1 + 1) I := hd0 (L + 1 + 1 + 1 + 1 + 1, oLs) (.tail _ (.tail _ (.tail _ (.tail _ (.tail _ (.head _))))))
    have hI8 : @Ne Nat (L + 1 + 1) I := hd0 (L + 1 + 1, oCB) (.tail _ (.tail _ (.tail _ (.tail _ (.tail _ (.tail _ (.head _)))))))
    have hI9 : @Ne Nat (L + 1) I := hd0 (L + 1, oCX) (.tail _ (.tail _ (.tail _ (.tail _ (.tail _ (.tail _ (.tail _ (.head _))))))))
    have hI5 : @Ne Nat lR I := hd0 (lR, _) (.tail _ (.tail _ (.tail _ (.tail _ (.tail _ (.tail _ (.tail _ (.tail _ (.head _)))))))))
    dsimp only [Led9, Adr9] at N1 off
    k_steps
    (rename Fr _ _ _ _ => F4)
    (rename News _ _ _ _ => N4)
    (rename IsRange _ _ _ _ _ _ _ _ => hR2)
    (rename (Obj.data _ = Data.cell (some (Value.int (1 + _) _))) => dO2)
    rename_i oO2 _ _ _ _ _ _ _ _
    have hmt : ∀ p ∈ tl, p.1 ≠ I := fun p hp => hd0 p (.tail _ (.tail _ (.tail _ (.tail _ (.tail _ (.tail _ (.tail _ (.tail _ (.tail _ hp)))))))))
    have hbl : (bs.map fun b => (b.own, b.val)).length ≤ 3 := by
      have e1 := congrArg List.length hbs
      rw [List.length_map] at e1 ⊢
      have e3 : (upTo i).length = i := by simp [upTo]
      omega
    refine CompOk.intro (news := (I, oI) :: Led9 L dB lB sl lR oB' (boxO sl c' t' e') oO2 oG oLs oCB oCX (listOf ws.toArray csl) oR tl) (fun j ys nx => ∃ (c : Int) (t : Tok) (e : Nat) (tl' : Led) (ls : List LnkD), nx = (I, oI) :: Led9 L dB lB sl lR oB' (boxO sl c t e) oO2 oG oLs oCB oCX (listOf ws.toArray csl) oR tl' ∧
        OwnOff tl' (Adr9 L dB lB lR) ∧ (∀ p ∈ tl', p.1 ≠ I) ∧ 0 ≤ c ∧ (∀ p ∈ tl, p ∈ tl') ∧ SrcAll tl' ys ls ∧ ls.map (·.id) = (upTo j).filter (fun x => decide (x ≠ 1 + (i : Int))))
      (fun j v m' => ∃ t, m' (PySem.Str.ofString "other") = some (.int (1 + (j : Int)) t))
      (Src.rangeF (ax := sl) (lo := listOf ws.toArray csl) (n := n) rfl (N4 (sl, listOf ws.toArray csl) (by k_mem)).1 hR2 hrs.2 hrs.1) (by rw [sizeLine_eq]; omega) (.inr ?_) (N4 (sl, listOf ws.toArray csl) (by k_mem)).2.1 F4 N4
      ⟨c', t', e', tl, [], rfl, off, hmt, c0', fun _ h => h, ⟨rfl, fun _ _ _ h => nomatch h⟩, rfl⟩ ?_ ?_ ?_
    · rintro j ys nx ⟨c, t, e, tl', ls, rfl, _⟩
      k_mem
    · rintro j v C mC ys nx s' Q E hj ⟨t9, rfl⟩ _ F5 N5 hn nC n2 h
      exact asg_Name rfl (by decide) hn fun h' m' tk hn'' hm he => h h' m' tk hn'' ⟨t9, hm⟩ he
    · rintro j v ys nx I2 oI2 C oC D m₂ h2 tk2 E' hj hv ⟨c2, t2, e2, tl2, ls, rfl, off2, hII, c20, ht2, hS2, hid2⟩ hC ⟨t9, hother⟩ F5 N5 off3 ne hyl
      show wpAny _ _ (isTrue _ _ _) _ _ _
      clear F1 N1 F4 N4
      dsimp only [Led9, Adr9] at N5 off2
      have hX1 : @Ne Nat lB I2 := (off3 (lB, _) (.tail _ (.tail _ (.head _)))).1
      have hX2 : @Ne Nat lB C := (off3 (lB, _) (.tail _ (.tail _ (.head _)))).2.1
      have hX3 : @Ne Nat lB D := (off3 (lB, _) (.tail _ (.tail _ (.head _)))).2.2
      by_cases hq : 1 + (j : Int) = 1 + (i : Int)
      · k_steps
        all_goals try (exfalso; omega)
        (rename Fr _ _ _ _ => F6)
        (rename News _ _ _ _ => N6)
        refine CEnd.intro F6 N6 off3 ⟨c2, t2, e2, tl2, ls, rfl, off2, hII, c20, ht2, hS2, ?_⟩
        rw [hid2, upTo_succ, List.filter_append]
        simp [hq]
      · k_steps
        all_goals try (exfalso; omega)
        (rename Fr _ _ _ _ => F6)
        (rename News _ _ _ _ => N6)
        rename_i _ tkd vd tbd ebd _ vd0 vd1 DD _ lDD
        have hLt : ∀ p ∈ tl2, @LT.lt Nat _ p.1 DD := fun p hp => allLt_mem lDD.2.2.2.2.2.2.2.2.2.2.2.2.2 hp
        have hsub : ∀ p ∈ (I2, oI2) :: (C, oC) :: (D, lst ys) :: (I, oI) :: Led9 L dB lB sl lR oB' (boxO sl (c2 + 1) tbd ebd) oO2 oG oLs oCB oCX (listOf ws.toArray csl) oR ((DD, tupO [Value.int (1 + (j : Int)) t9, Value.int (10 * (1 + (i : Int)) + (1 + (j : Int))) (tk2 + 1 + 1), Value.int 1 (tk2 + 1 + 1 + 1), Value.int (1 + vd) tkd]) :: tl2),
            p ∈ (DD, tupO [Value.int (1 + (j : Int)) t9, Value.int (10 * (1 + (i : Int)) + (1 + (j : Int))) (tk2 + 1 + 1), Value.int 1 (tk2 + 1 + 1 + 1), Value.int (1 + vd) tkd]) :: (I2, oI2) :: (C, oC) :: (D, lst ys) :: (I, oI) :: Led9 L dB lB sl lR oB' (boxO sl (c2 + 1) tbd ebd) oO2 oG oLs oCB oCX (listOf ws.toArray csl) oR tl2 := by
          repeat (refine subc (by k_mem) ?_)
          exact fun p hp => by repeat (first | exact hp | refine List.Mem.tail _ ?_)
        show CEnd _ _ _ _ _ _ _ _ _ _ _ _
        refine CEnd.intro (nx := (I, oI) :: Led9 L dB lB sl lR oB' (boxO sl (c2 + 1) tbd ebd) oO2 oG oLs oCB oCX (listOf ws.toArray csl) oR ((DD, _) :: tl2)) F6 (News.sub N6 hsub) ?_
          ⟨c2 + 1, tbd, ebd, (DD, _) :: tl2, ls ++ [⟨1 + (j : Int), 10 * (1 + (i : Int)) + (1 + (j : Int)), 1 + vd⟩], rfl, ?_, ?_, by omega, fun p hp => .tail _ (ht2 p hp), (hS2.mono fun p hp => .tail _ hp).snoc ⟨DD, _, _, _, _, _, rfl, .head _⟩, ?_⟩
        · intro p hp
          simp only [List.mem_cons] at hp
          rcases hp with rfl | rfl | rfl | rfl | rfl | rfl | rfl | rfl | rfl | rfl | rfl | hp
          · exact off3 _ (.head _)
          · exact off3 (dB, oB') (by k_mem)
          · exact ⟨hX1, hX2, hX3⟩
          · exact off3 (L + 1 + 1 + 1, oO2) (by k_mem)
          · exact off3 (sl, listOf ws.toArray csl) (by k_mem)
          · exact off3 (L + 1 + 1 + 1 + 1, oG) (by k_mem)
          · exact off3 (L + 1 + 1 + 1 + 1 + 1, oLs) (by k_mem)
          · exact off3 (L + 1 + 1, oCB) (by k_mem)
          · exact off3 (L + 1, oCX) (by k_mem)
          · exact off3 (lR, oR) (by k_mem)
          · exact ⟨show @Ne Nat DD I2 by k_ne, show @Ne Nat DD C by k_ne, show @Ne Nat DD D by k_ne⟩
          · exact off3 p (by repeat (first | exact hp | refine List.Mem.tail _ ?_))
        · intro p hp b hb
          rcases List.mem_cons.mp hp with rfl | hp
          · simp only [List.mem_cons, List.not_mem_nil, or_false] at hb
            rcases hb with rfl | rfl | rfl | rfl | rfl | rfl
            all_goals (show @Ne Nat DD _; k_ne)
          · exact off2 p hp b hb
        · intro p hp
          rcases List.mem_cons.mp hp with rfl | hp
          · show @Ne Nat DD _; k_ne
          · exact hII p hp
        · rw [List.map_append, hid2, upTo_succ, List.filter_append]
          simp [hq]
    · rintro D ys nx offD ⟨c2, t2, e2, tl2, ls, rfl, off2, hII, c20, ht2, hS2, hid2⟩ h2 tk2 F5 N5
      clear F1 N1 F4 N4
      dsimp only [Led9, Adr9] at N5 off2
      have hDB : @Ne Nat lB D := offD (lB, _) (.tail _ (.tail _ (.head _)))
      have hDD : @Ne Nat dB D := offD (dB, oB') (.tail _ (.head _))
      have hDI : @Ne Nat I D := offD (I, oI) (.head _)
      k_steps
      unfold Halt
      have hlen : ys.length ≤ 3 := by
        have e1 := congrArg List.length hid2
        rw [List.length_map] at e1
        have e2 := List.length_filter_le (fun x => decide (x ≠ 1 + (i : Int))) (upTo n)
        have e3 : (upTo n).length = n := by simp [upTo]
        have e4 := hS2.1
        omega
      refine kde_tupleOf F5 N5 (News.isList N5 (.head _)) (by simpa using (by omega : ys.length ≤ 16384)) (zs := ys) (by simp) ?_
      intro DT h3 F6 N6 lT
      have N7 := News.sub N6 (news' := (I, oI) :: Led9 L dB lB sl lR oB' (boxO sl c2 t2 e2) oO2 oG oLs oCB oCX (listOf ws.toArray csl) oR ((DT, tupO ys) :: tl2)) (by
        repeat (refine subc (by k_mem) ?_)
        exact fun p hp => by repeat (first | exact hp | refine List.Mem.tail _ ?_))
      have hT1 : @LT.lt Nat _ D DT := lT (D, lst ys) (.head _)
      have hT2 : @LT.lt Nat _ I DT := lT (I, oI) (by k_mem)
      have hT3 : @LT.lt Nat _ dB DT := lT (dB, oB') (by k_mem)
      have hT4 : @LT.lt Nat _ lB DT := lT (lB, boxO sl c2 t2 e2) (by k_mem)
      have hT5 : @LT.lt Nat _ lR DT := lT (lR, oR) (by k_mem)
      have hT6 : @LT.lt Nat _ (L + 1 + 1 + 1 + 1 + 1) DT := lT (L + 1 + 1 + 1 + 1 + 1, oLs) (by k_mem)
      clear F5 N5 N6 lT
      obtain ⟨tl3, htl3⟩ : ∃ x, x = (DT, tupO ys) :: tl2 := ⟨_, rfl⟩
      have off4 : OwnOff tl3 (Adr9 L dB lB lR) := by
        intro p hp b hb
        rw [htl3] at hp
        rcases List.mem_cons.mp hp with rfl | hp
        · simp only [List.mem_cons, List.not_mem_nil, or_false] at hb
          rcases hb with rfl | rfl | rfl | rfl | rfl | rfl
          all_goals (show @Ne Nat DT _; k_ne)
        · exact off2 p hp b hb
      have hI3' : ∀ p ∈ tl3, p.1 ≠ I := by
        intro p hp
        rw [htl3] at hp
        rcases List.mem_cons.mp hp with rfl | hp
        · show @Ne Nat DT _; k_ne
        · exact hII p hp
      have ht3 : ∀ p ∈ tl2, p ∈ tl3 := fun p hp => by rw [htl3]; exact .tail _ hp
      have hDT : (DT, tupO ys) ∈ tl3 := by rw [htl3]; exact .head _
      rw [← htl3] at N7
      clear htl3
      dsimp only [Led9, Adr9] at N7 off4
      k_steps
      (rename Fr _ _ _ _ => F8)
      (rename News _ _ _ _ => N8)
      (rename Obj.IsDictOf _ _ (stored _ _ _) => hB8)
      rename_i hx1 tks hx2 tkd vd tbd ebd t8 vd0 vd1 D8 hx3 l8 hx4 oB8
      have hnew : stored (bs.map fun b => (b.own, b.val)) (1 + (i : Int)) (Value.ref D8) = (bs ++ [(⟨1 + (i : Int), .ref D8, vd, ls⟩ : BD)]).map fun b => (b.own, b.val) := by
        rw [stored_absent (valueAt_none_of_not_mem ?_), List.map_append]
        · rfl
        · rw [List.map_map]
          have : ((fun x => x.fst) ∘ fun (b : BD) => (b.own, b.val)) = (·.own) := rfl
          rw [this, hbs]
          intro hm
          obtain ⟨q, hq, hq2⟩ := List.mem_map.mp hm
          rw [List.mem_range] at hq
          omega
      rw [hnew] at hB8
      have hsub : ∀ p ∈ (I, oI) :: Led9 L dB lB sl lR oB8 (boxO sl (c2 + 1) tbd ebd) oO2 oG oLs oCB oCX (listOf ws.toArray csl) oR ((D8, tupO [Value.str (PySem.Str.ofString "router") tks, Value.int vd t8, Value.ref DT]) :: tl3),
          p ∈ (D8, tupO [Value.str (PySem.Str.ofString "router") tks, Value.int vd t8, Value.ref DT]) :: (I, oI) :: Led9 L dB lB sl lR oB8 (boxO sl (c2 + 1) tbd ebd) oO2 oG oLs oCB oCX (listOf ws.toArray csl) oR tl3 := by
        repeat (refine subc (by k_mem) ?_)
        exact fun p hp => by repeat (first | exact hp | refine List.Mem.tail _ ?_)
      have htt : ∀ p ∈ tl, p ∈ (D8, tupO [Value.str (PySem.Str.ofString "router") tks, Value.int vd t8, Value.ref DT]) :: tl3 := fun p hp => .tail _ (ht3 p (ht2 p hp))
      refine TEnd.intro (nx := Led9 L dB lB sl lR oB8 (boxO sl (c2 + 1) tbd ebd) oO2 oG oLs oCB oCX (listOf ws.toArray csl) oR ((D8, tupO [Value.str (PySem.Str.ofString "router") tks, Value.int vd t8, Value.ref DT]) :: tl3)) F8 (News.sub N8 hsub) ?_
        ⟨oB8, oO2, c2 + 1, tbd, ebd, _, bs ++ [⟨1 + (i : Int), .ref D8, vd, ls⟩], _, _, rfl, ?_, dO2, by omega, hB8, ?_, ?_, frame2 rfl rfl⟩
      · intro p hp
        simp only [List.mem_cons] at hp
        rcases hp with rfl | rfl | rfl | rfl | rfl | rfl | rfl | rfl | rfl | rfl | hp
        · exact hI1
        · exact hI2
        · exact hI3
        · exact hI6
        · exact hI4
        · exact hI7
        · exact hI8
        · exact hI9
        · exact hI5
        · show @Ne Nat D8 I; k_ne
        · exact hI3' p hp
      · intro p hp b hb
        rcases List.mem_cons.mp hp with rfl | hp
        · simp only [List.mem_cons, List.not_mem_nil, or_false] at hb
          rcases hb with rfl | rfl | rfl | rfl | rfl | rfl
          all_goals (show @Ne Nat D8 _; k_ne)
        · exact off4 p hp b hb
      · rw [List.map_append, hbs, upTo_succ]; rfl
      · intro b hb
        rcases List.mem_append.mp hb with hb | hb
        · exact (hbt b hb).mono htt
        · rw [List.mem_singleton.mp hb]
          exact ⟨D8, DT, ys, tks, t8, 0, 0, rfl, .head _, .tail _ hDT, hS2.mono fun p hp => .tail _ (ht3 p hp), hid2⟩
  · rintro m₁ nx h tk ⟨oB', oO', c', t', e', co, bs, tl, u', rfl, off, dO', c0', hB', hbs, hbt, rfl⟩ F1 N1
    exact ret h tk oB' oO' co c' t' e' bs tl u' off dO' c0' hB' hbs hbt F1 N1
end Mine

end

section
open PySem PySem.W PyProof.Rows PySem.Calls
open PyProof.Rows.LCg
namespace Mine

/-- the bodies, as functions of their owner -/
theorem bods_of {tl : Led} {bs : List BD} {n : Nat} (hbs : bs.map (·.own) = upTo n) (hbt : ∀ b ∈ bs, BodTl tl n b) (hn3 : n ≤ 3) :
    ∃ (ab : Int → Addr) (fl : Int → Int) (G : Int → List LnkD), ValsAt n (bs.map fun b => (b.own, b.val)) ab ∧ BodsTl tl n ab fl G ∧ (∀ a, (G a).length ≤ 9) ∧
      (∀ a : Int, 1 ≤ a → a ≤ n → (G a).map (·.id) = (upTo n).filter (fun x => decide (x ≠ a))) ∧ ∀ b ∈ bs, b.val = .ref (ab b.own) := by
  have H : ∀ k : Int, ∃ (a : Addr) (f : Int) (g : List LnkD), g.length ≤ 9 ∧ (1 ≤ k → k ≤ n → valueAt (bs.map fun b => (b.own, b.val)) k = some (.ref a) ∧ (g.map (·.id) = (upTo n).filter fun x => decide (x ≠ k)) ∧
      ∃ lt vs t0 t1 k0 k1, (a, tupO [.str (PySem.Str.ofString "router") t0, .int f t1, .ref lt] k0) ∈ tl ∧ (lt, tupO vs k1) ∈ tl ∧ SrcAll tl vs g) := by
    intro k
    by_cases hk : 1 ≤ k ∧ k ≤ n
    · have hm : k ∈ bs.map (·.own) := by
        rw [hbs]
        exact List.mem_map.mpr ⟨(k - 1).toNat, List.mem_range.mpr (by omega), by omega⟩
      obtain ⟨b, hb, rfl⟩ := List.mem_map.mp hm
      obtain ⟨a, l, us, t0, t1, k0, k1, hv, hm1, hm2, hs, hid⟩ := hbt b hb
      refine ⟨a, b.flag, b.links, ?_, fun _ _ => ⟨?_, hid, l, us, t0, t1, k0, k1, hm1, hm2, hs⟩⟩
      · have e1 := congrArg List.length hid
        rw [List.length_map] at e1
        have e2 := List.length_filter_le (fun x => decide (x ≠ b.own)) (upTo n)
        have e3 : (upTo n).length = n := by simp [upTo]
        omega
      · rw [← hv]
        refine value_at ?_ (List.mem_map.mpr ⟨b, hb, rfl⟩)
        rw [List.map_map]
        have : ((fun x => x.fst) ∘ fun (b : BD) => (b.own, b.val)) = (·.own) := rfl
        rw [this, hbs]
        exact upTo_nodup n
    · exact ⟨0, 0, [], by simp, fun h1 h2 => absurd ⟨h1, h2⟩ hk⟩
  refine ⟨fun k => (H k).choose, fun k => (H k).choose_spec.choose, fun k => (H k).choose_spec.choose_spec.choose, fun k h1 h2 => ((H k).choose_spec.choose_spec.choose_spec.2 h1 h2).1,
    fun k h1 h2 => ((H k).choose_spec.choose_spec.choose_spec.2 h1 h2).2.2, fun k => (H k).choose_spec.choose_spec.choose_spec.1, fun k h1 h2 => ((H k).choose_spec.choose_spec.choose_spec.2 h1 h2).2.1, fun b hb => ?_⟩
  have hm : b.own ∈ upTo n := by rw [← hbs]; exact List.mem_map.mpr ⟨b, hb, rfl⟩
  obtain ⟨j, hj, hj2⟩ := List.mem_map.mp hm
  rw [List.mem_range] at hj
  have h1 := ((H b.own).choose_spec.choose_spec.choose_spec.2 (by omega) (by omega)).1
  have h2 : valueAt (bs.map fun b => (b.own, b.val)) b.own = some b.val := by
    refine value_at ?_ (List.mem_map.mpr ⟨b, hb, rfl⟩)
    rw [List.map_map]
    have : ((fun x => x.fst) ∘ fun (b : BD) => (b.own, b.val)) = (·.own) := rfl
    rw [this, hbs]
    exact upTo_nodup n
  exact Option.some.inj (h2.symm.trans h1)

theorem live_gen {bs : List BD} {g : Int} {ab : Int → Addr} (hv : ∀ b ∈ bs, b.val = .ref (ab b.own)) :
    ((bs.map (genRow g)).filter RowD.live).map (fun r => (r.adv, r.body)) = ((bs.map (·.own)).filter fun x => decide (x ≠ g)).map fun o => (o, Value.ref (ab o)) := by
  induction bs with
  | nil => rfl
  | cons b r ih =>
    have hb := hv b (.head _)
    have ih' := ih fun b' h => hv b' (.tail _ h)
    rw [List.map_cons, List.map_cons, List.filter_cons, List.filter_cons]
    by_cases hq : b.own = g
    · have e1 : (genRow g b).live = false := by simp [genRow, RowD.live, hq]
      rw [e1]
      simp only [hq, ne_eq, not_true_eq_false, decide_false, Bool.false_eq_true, if_false]
      exact ih'
    · have e1 : (genRow g b).live = true := by simp [genRow, RowD.live, hq]
      rw [e1]
      simp only [hq, ne_eq, not_false_eq_true, decide_true, if_true, List.map_cons]
      rw [ih']
      simp [genRow, hb]
theorem live_alien {al : List RowD} (h : ∀ r ∈ al, r.ls ≠ r.adv) : al.filter RowD.live = [] := by
  refine List.filter_eq_nil_iff.mpr fun r hr => ?_
  have := h r hr
  simp [RowD.live, this]
theorem hlive_of {bs : List BD} {n : Nat} {g : Int} {ab : Int → Addr} {al R : List RowD} (hbs : bs.map (·.own) = upTo n) (hv : ∀ b ∈ bs, b.val = .ref (ab b.own)) (hal : ∀ r ∈ al, r.ls ≠ r.adv)
    (hp : R.Perm (bs.map (genRow g) ++ al)) : ((R.filter RowD.live).map fun r => (r.adv, r.body)).Perm ((notGone n g).map fun o => (o, Value.ref (ab o))) := by
  have h1 := (hp.filter RowD.live).map fun r => (r.adv, r.body)
  rw [List.filter_append, live_alien hal, List.append_nil, live_gen hv, hbs] at h1
  exact h1
end Mine

end

section
open PySem PySem.W PyProof.Rows PySem.Calls
open PyProof.Rows.LCg
namespace Mine

set_option maxRecDepth 100000 in
set_option maxHeartbeats 8000000 in
/-- from the sorted rows on -/
theorem tail7 {w : World} {p : Program} {loose : List PySem.Str} {mg mb : PySem.Str → Option Value} {mean : ExcName → Option Value} {h₀ : Heap} {L fa : Addr} {cd : Value} {s : Shared} {Q : Flow → Shared → Prop} {E : Value → Shared → Prop}
   (hE : PassesOwn (model PySem.Challenge.rw_rh0193_01.row.prog w) (lawA L fa cd) (lawEnv L fa cd) E)
   (B : Below callerA h₀ [] h₀) (X : (hd.heap_39 w.params).In h₀) (T : Top p loose mean mg mb h₀)
   {m : PySem.Str → Option Value} {lR dB lB sl : Addr} {n : Nat} {oB oO oG oLs oCB oCX box oSl : Obj} {tl : Led} {e : Nat} {vs : List Value} {bs : List BD} {al : List RowD} {g : Int} {tg : Tok}
   (hm : m (PySem.Str.ofString "rows") = some (.ref lR)) (F : Fr h₀ L s.heap m)
   (N : News h₀ L s.heap (Led9 L dB lB sl lR oB box oO oG oLs oCB oCX oSl (listOf vs.toArray e) tl))
   (o1 : @LT.lt Nat _ (L + 6) sl) (o2 : @LT.lt Nat _ sl lB) (o3 : @LT.lt Nat _ lB dB) (o4 : @LT.lt Nat _ dB lR) (sB : (dB == sysModules) = false)
   (off : OwnOff tl (Adr9 L dB lB lR)) (hB : oB.IsDictOf (PySem.intKind PySem.Challenge.rw_rh0193_01.row.prog w) (bs.map fun b => (b.own, b.val)))
   (hbs : bs.map (·.own) = upTo n) (hbt : ∀ b ∈ bs, BodTl tl n b) (hn2 : 2 ≤ n) (hn3 : n ≤ 3)
   (hrow : RowsTl tl vs (bs.map (genRow g) ++ al)) (hal : ∀ r ∈ al, r.ls ≠ r.adv) (hall : al.length ≤ 3)
   (dB' : oCB.data = .cell (some (.ref dB))) (dG : oG.data = .cell (some (.int g tg))) {vO : Option Value} (dO : oO.data = .cell vO)
   (hQ : ∀ h' tk' m', Fr h₀ L h' m' → Q (.ret (.bool true)) { s with heap := h', toks := tk' }) :
   wpAny (model PySem.Challenge.rw_rh0193_01.row.prog w) (lawA L fa cd) (execs [lawSt 6, lawSt 7, lawSt 8, lawSt 9, lawSt 10, lawSt 11, lawSt 12, lawSt 13] (lawEnv L fa cd)) Q E s := by
  have hbl : bs.length = n := by
    have e1 := congrArg List.length hbs
    have e3 : (upTo n).length = n := by simp [upTo]
    rw [List.length_map] at e1
    omega
  have hRl : (bs.map (genRow g) ++ al).length = n + al.length := by rw [List.length_append, List.length_map, hbl]
  obtain ⟨ab, fl, G, hvals, hbod, hGz, hGid, hv⟩ := bods_of hbs hbt hn3
  have hmm : m = fun y => if y = PySem.Str.ofString "rows" then some (.ref lR) else m y := by
    funext y
    by_cases hy : y = PySem.Str.ofString "rows"
    · rw [if_pos hy, hy, hm]
    · rw [if_neg hy]
  rw [hmm] at F
  -- rows sorted
  refine wpAny_execs_cons (seg7 B X T (tl := (dB, oB) :: (L + 1 + 1 + 1, oO) :: (L + 1 + 1 + 1 + 1, oG) :: (L + 1 + 1, oCB) :: tl) F (News.sub N (by
    repeat (refine subc (by k_mem) ?_)
    exact fun p hp => by repeat (first | exact hp | refine List.Mem.tail _ ?_))) rfl hrow (fun p hp => by repeat (first | exact hp | refine List.Mem.tail _ ?_)) (by rw [hRl]; omega) (by rw [hRl]; omega) ?_)
  intro h1 tk1 D out c1 R' hD hperm hrow1 F1 N1
  clear F N
  have hD1 : @LT.lt Nat _ dB D := hD (dB, oB) (by k_mem)
  have hlive := hlive_of hbs hv hal hperm
  have hR60 : R'.length ≤ 60 := by rw [hperm.length_eq, hRl]; omega
  -- there
  show wpAny _ _ (execs _ _) _ _ _
  refine wpAny_execs_cons (seg8 B X T (tl := (L + 1 + 1 + 1, oO) :: (D, listOf out.toArray c1) :: tl) F1 (News.sub N1 (by
    repeat (refine subc (by k_mem) ?_)
    exact fun p hp => by repeat (first | exact hp | refine List.Mem.tail _ ?_))) sB hB hbs hn3 dB' dG ?_)
  intro h2 tk2 lT ys hys hlT F2 N2
  clear F1 N1
  have hT1 : @Ne Nat (L + 1 + 1 + 1) lT := hlT (L + 1 + 1 + 1, oO) (by k_mem)
  -- the first comparison
  show wpAny _ _ (execs _ _) _ _ _
  refine wpAny_execs_cons (seg9 B X T (tl := (L + 1 + 1 + 1, oO) :: (L + 1 + 1 + 1 + 1, oG) :: (L + 1 + 1, oCB) :: (dB, oB) :: tl) F2 (News.sub N2 (by
    repeat (refine subc (by k_mem) ?_)
    exact fun p hp => by repeat (first | exact hp | refine List.Mem.tail _ ?_))) hB hvals dB' rfl (hrow1.mono fun p hp => by repeat (first | exact hp | refine List.Mem.tail _ ?_)) hR60 hn3 hlive hys ?_)
  intro h3 tk3 F3 N3
  clear F2 N2
  -- due = {}
  show wpAny _ _ (execs _ _) _ _ _
  refine wpAny_execs_cons (seg10 B X T F3 N3 ?_)
  intro h4 tk4 dD oD hdD sD hDO F4 N4
  clear F3 N3
  have hd1 : @LT.lt Nat _ dB dD := hdD (dB, oB) (by k_mem)
  have hd2 : @LT.lt Nat _ D dD := hdD (D, listOf out.toArray c1) (by k_mem)
  have hd3 : @LT.lt Nat _ lT dD := hdD (lT, lst ys) (by k_mem)
  have hoffD : OwnOff tl [dD, L + 1 + 1 + 1] := fun p hp b hb => by
    simp only [List.mem_cons, List.not_mem_nil, or_false] at hb
    rcases hb with rfl | rfl
    · exact Nat.ne_of_lt (hdD p (by repeat (first | exact hp | refine List.Mem.tail _ ?_)))
    · exact off p hp _ (by simp)
  -- due filled
  show wpAny _ _ (execs _ _) _ _ _
  refine wpAny_execs_cons (seg11 hE B X T (tl := tl) (G := G) F4 (News.sub N4 (by
    repeat (refine subc (by k_mem) ?_)
    exact fun p hp => by repeat (first | exact hp | refine List.Mem.tail _ ?_))) hoffD dO (by omega) ?_ (Ne.symm hT1) hd1 hd2 hd3 hB hvals hbod hGz dB' dG hn3 hDO hys ?_)
  · show @Ne Nat _ _; omega
  intro h5 tk5 oD5 oO5 co5 xs tl5 off5 dO5 hD5 hK5 htl5 hkeys5 htold5 F5 N5
  clear F4 N4
  -- the second comparison
  have hto : ∀ p ∈ tl5, p ∈ (L + 1 + 1, oCB) :: (dB, oB) :: (lT, lst ys) :: (L + 1 + 1 + 1, oO5) :: (L + 1 + 1 + 1 + 1, oG) :: tl5 := fun p hp => by repeat (first | exact hp | refine List.Mem.tail _ ?_)
  show wpAny _ _ (execs _ _) _ _ _
  refine wpAny_execs_cons (seg12 B X T (tl := (L + 1 + 1, oCB) :: (dB, oB) :: (lT, lst ys) :: (L + 1 + 1 + 1, oO5) :: (L + 1 + 1 + 1 + 1, oG) :: tl5) (G := G) F5 (News.sub N5 (by
    repeat (refine subc (by k_mem) ?_)
    exact fun p hp => by repeat (first | exact hp | refine List.Mem.tail _ ?_)))
    (hbod.mono fun p hp => hto p (htl5 p hp)) hGz hGid rfl (hrow1.mono fun p hp => hto p (htl5 p hp)) hR60 hlive sD hD5 (hK5.mono hto) hkeys5 (fun x hx => (htold5 x hx).mono hto) ?_)
  intro h6 tk6 F6 N6
  clear F5 N5
  -- reached
  show wpAny _ _ (execs _ _) _ _ _
  refine wpAny_execs_cons (seg13 B X T F6 N6 ?_)
  intro h7 tk7 dQ oQ qs tl7 xq htl7 sQ hDQ hKQ hkq hxq F7 N7
  clear F6 N6
  -- the return
  show wpAny _ _ (execs _ _) _ _ _
  refine wpAny_execs_cons (seg14 B X T (tl := tl7) (G := G) F7 (News.sub N7 (subc (by k_mem) (subc (.tail _ (.tail _ (htl7 _ (by k_mem)))) (subc (.tail _ (.tail _ (htl7 _ (by k_mem)))) (subc (.tail _ (.tail _ (htl7 _ (by k_mem)))) (subc (.tail _ (.tail _ (htl7 _ (by k_mem)))) fun p hp => .tail _ (.tail _ hp))))))) hB hvals dB' (hbod.mono fun p hp => htl7 p (.tail _ (hto p (htl5 p hp)))) hn3 rfl (hrow1.mono fun p hp => htl7 p (.tail _ (hto p (htl5 p hp)))) hR60 hlive hys sQ hDQ hKQ hkq hxq ?_)
  intro h8 tk8 m8 F8
  exact hQ _ _ _ F8
end Mine

end

section
open PySem PySem.W PyProof.Rows PySem.Calls
open PyProof.Rows.LCg
namespace Mine

set_option maxRecDepth 100000 in
set_option maxHeartbeats 8000000 in
/-- from the second statement behind the first loop on -/
theorem tail3 {w : World} {p : Program} {loose : List PySem.Str} {mg mb : PySem.Str → Option Value} {mean : ExcName → Option Value} {h₀ : Heap} {L fa : Addr} {cd : Value} {s : Shared} {Q : Flow → Shared → Prop} {E : Value → Shared → Prop}
   (hE : PassesOwn (model PySem.Challenge.rw_rh0193_01.row.prog w) (lawA L fa cd) (lawEnv L fa cd) E)
   (B : Below callerA h₀ [] h₀) (X : (hd.heap_39 w.params).In h₀) (T : Top p loose mean mg mb h₀)
   {u1 : PySem.Str → Option Value} {lR dB lB sl : Addr} {n : Nat} {tkm : Tok} {oB1 oO1 oG oLs oCB oCX : Obj} {c1 : Int} {t1 : Tok} {e1 csl : Nat} {ws : List Value} {zs : List Int} {bs : List BD} {tl1 : Led}
   (F1 : Fr h₀ L s.heap fun y => if y = PySem.Str.ofString "rows" then some (.ref lR) else if y = PySem.Str.ofString "many" then some (.int n tkm) else u1 y)
   (N1 : News h₀ L s.heap (Led9 L dB lB sl lR oB1 (boxO sl c1 t1 e1) oO1 oG oLs oCB oCX (listOf ws.toArray csl) (listOf #[] 0) tl1))
   (hws : IntsAre ws zs) (hzs : zs.length ≤ 30) (c10 : 0 ≤ c1)
   (o1 : @LT.lt Nat _ (L + 6) sl) (o2 : @LT.lt Nat _ sl lB) (o3 : @LT.lt Nat _ lB dB) (o4 : @LT.lt Nat _ dB lR) (sB : (dB == sysModules) = false)
   (off1 : OwnOff tl1 (Adr9 L dB lB lR)) (hB1 : oB1.IsDictOf (PySem.intKind PySem.Challenge.rw_rh0193_01.row.prog w) (bs.map fun b => (b.own, b.val))) (hbs : bs.map (·.own) = upTo n) (hbt : ∀ b ∈ bs, BodTl tl1 n b) (hn2 : 2 ≤ n) (hn3 : n ≤ 3)
   (dX : oCX.data = .cell (some (.ref lB))) (dB' : oCB.data = .cell (some (.ref dB))) {vO1 vG vL : Option Value} (dO1 : oO1.data = .cell vO1) (dG : oG.data = .cell vG) (dL : oLs.data = .cell vL)
   (hQ : ∀ h' tk' m', Fr h₀ L h' m' → Q (.ret (.bool true)) { s with heap := h', toks := tk' }) :
   wpAny (model PySem.Challenge.rw_rh0193_01.row.prog w) (lawA L fa cd) (execs [lawSt 3, lawSt 4, lawSt 5, lawSt 6, lawSt 7, lawSt 8, lawSt 9, lawSt 10, lawSt 11, lawSt 12, lawSt 13] (lawEnv L fa cd)) Q E s := by
  refine wpAny_execs_cons (seg4 B X T F1 N1 hws hzs c10 o1 o2 o3 o4 off1 dX dG ?_)
  intro h2 tk2 t2 e2 g tg oG2 hg1 hg2 dG2 F2 N2
  clear F1 N1
  show wpAny _ _ (execs _ _) _ _ _
  refine wpAny_execs_cons (seg5 hE B X T F2 N2 o1 o2 o3 o4 sB off1 hB1 hbs hbt hn3 dB' dG2 dO1 ?_)
  intro h3 tk3 oO3 vO3 tl3 vs3 e3 htl3 dO3 off3 hrow3 F3 N3
  clear F2 N2
  have hbl : bs.length = n := by
    have e1 := congrArg List.length hbs
    have e3 : (upTo n).length = n := by simp [upTo]
    rw [List.length_map] at e1
    omega
  show wpAny _ _ (execs _ _) _ _ _
  refine wpAny_execs_cons (seg6 hE B X T F3 N3 hws hzs (by omega) o1 o2 o3 o4 sB off3 hB1 hbs (fun b hb => (hbt b hb).mono htl3) hn2 hn3 hrow3 (by rw [List.length_map]; omega) dX dB' dO3 dL ?_)
  intro h4 tk4 oO4 vO4 oLs4 box4 tl4 vs4 e4 al m4 htl4 dO4 off4 hrow4 hal hall hm4 F4 N4
  clear F3 N3
  show wpAny _ _ (execs _ _) _ _ _
  exact tail7 hE B X T hm4 F4 N4 o1 o2 o3 o4 sB off4 hB1 hbs (fun b hb => (hbt b hb).mono fun p hp => htl4 p (htl3 p hp)) hn2 hn3 hrow4 hal hall dB' dG2 dO4 hQ
end Mine

end

section
open PySem PySem.W PyProof.Rows PySem.Calls
open PyProof.Rows.LCg
namespace Mine
set_option maxRecDepth 100000 in
set_option maxHeartbeats 8000000 in
theorem law_holds : PySem.Challenge.rw_rh0193_01.Holds := hd (by
  k_with_none
  k_with "k_ne" => (refine neN ?_; (try dsimp only); first | (with_reducible first | assumption | exact Ne.symm (by assumption) | exact Nat.ne_of_gt (And.left (by assumption)) | exact Nat.ne_of_lt (And.left (by assumption)) | exact Nat.ne_of_gt (And.left (And.right (by assumption))) | exact Nat.ne_of_lt (And.left (And.right (by assumption))) | exact Nat.ne_of_gt (And.left (And.right (And.right (by assumption)))) | exact Nat.ne_of_lt (And.left (And.right (And.right (by assumption)))) | exact Nat.ne_of_gt (And.left (And.right (And.right (And.right (by assumption))))) | exact Nat.ne_of_lt (And.left (And.right (And.right (And.right (by assumption))))) | exact Nat.ne_of_gt (And.left (And.right (And.right (And.right (And.right (by assumption)))))) | exact Nat.ne_of_lt (And.left (And.right (And.right (And.right (And.right (by assumption)))))) | exact Nat.ne_of_gt (And.left (And.right (And.right (And.right (And.right (And.right (by assumption))))))) | exact Nat.ne_of_lt (And.left (And.right (And.right (And.right (And.right (And.right (by assumption))))))) | exact Nat.ne_of_gt (And.left (And.right (And.right (And.right (And.right (And.right (And.right (by assumption)))))))) | exact Nat.ne_of_lt (And.left (And.right (And.right (And.right (And.right (And.right (And.right (by assumption)))))))) | exact Nat.ne_of_gt (And.left (And.right (And.right (And.right (And.right (And.right (And.right (And.right (by assumption))))))))) | exact Nat.ne_of_lt (And.left (And.right (And.right (And.right (And.right (And.right (And.right (And.right (by assumption))))))))) | exact Nat.ne_of_gt (And.left (And.right (And.right (And.right (And.right (And.right (And.right (And.right (And.right (by assumption)))))))))) | exact Nat.ne_of_lt (And.left (And.right (And.right (And.right (And.right (And.right (And.right (And.right (And.right (by assumption)))))))))) | exact Nat.ne_of_gt (And.left (And.right (And.right (And.right (And.right (And.right (And.right (And.right (And.right (And.right (by assumption))))))))))) | exact Nat.ne_of_lt (And.left (And.right (And.right (And.right (And.right (And.right (And.right (And.right (And.right (And.right (by assumption))))))))))) | exact Nat.ne_of_gt (And.left (And.right (And.right (And.right (And.right (And.right (And.right (And.right (And.right (And.right (And.right (by assumption)))))))))))) | exact Nat.ne_of_lt (And.left (And.right (And.right (And.right (And.right (And.right (And.right (And.right (And.right (And.right (And.right (by assumption)))))))))))) | exact Nat.ne_of_gt (And.left (And.right (And.right (And.right (And.right (And.right (And.right (And.right (And.right (And.right (And.right (And.right (by assumption))))))))))))) | exact Nat.ne_of_lt (And.left (And.right (And.right (And.right (And.right (And.right (And.right (And.right (And.right (And.right (And.right (And.right (by assumption))))))))))))) | exact Nat.ne_of_gt (And.left (And.right (And.right (And.right (And.right (And.right (And.right (And.right (And.right (And.right (And.right (And.right (And.right (by assumption)))))))))))))) | exact Nat.ne_of_lt (And.left (And.right (And.right (And.right (And.right (And.right (And.right (And.right (And.right (And.right (And.right (And.right (And.right (by assumption)))))))))))))) | exact Nat.ne_of_gt (And.left (And.right (And.right (And.right (And.right (And.right (And.right (And.right (And.right (And.right (And.right (And.right (And.right (And.right (by assumption))))))))))))))) | exact Nat.ne_of_lt (And.left (And.right (And.right (And.right (And.right (And.right (And.right (And.right (And.right (And.right (And.right (And.right (And.right (And.right (by assumption))))))))))))))) | exact Nat.ne_of_gt (And.left (And.right (And.right (And.right (And.right (And.right (And.right (And.right (And.right (And.right (And.right (And.right (And.right (And.right (And.right (by assumption)))))))))))))))) | exact Nat.ne_of_lt (And.left (And.right (And.right (And.right (And.right (And.right (And.right (And.right (And.right (And.right (And.right (And.right (And.right (And.right (And.right (by assumption)))))))))))))))) | exact Nat.ne_of_gt (by assumption) | exact Nat.ne_of_lt (by assumption)) | omega)
  k_with "call ref" => (k_here; (with_reducible rename Below callerA _ _ _ => KB); (with_reducible rename IntsAre _ (List.take 30 _) => hws); k_dflt (refine' draw_call KB ?mF ?mX ?mT ?mk ?md ?mu ?mN ?mU ?msb ?ms ?msc ?msd hws ?ml ?m0 ?mm ?_; (case mF => k_asm); (case mX => assumption); (case mT => k_asm); (case mN => k_asm); (case mk => rfl); (case md => decide); (case mu => decide); (case mU => k_updF); (case ms => k_mem); (case msc => rfl); (case msd => rfl); (case msb => k_ne); (case ml => (rw [List.length_take]; omega)); (case m0 => omega); (case mm => omega)); intro _ _ _ _ _ _ _ N9 V8 V9; (try dsimp only at N9); revert N9 V8 V9; intro _ _ _; (try k_sweep))
  k_with "exec For Name Call cons nil" => (k_here; refine halt ?_)
  w_strict (k_go0; (all_goals try k_fold); k_steps; unfold Halt
            (rename Fr _ _ _ _ => F2)
            (rename News _ _ _ _ => N2)
            (rename Top _ _ _ _ _ _ => T2)
            (rename Below callerA _ _ _ => B2)
            rename_i oLs oG oO _ _ dLs dG dO _ _ _ D2 ws _ _ _ _ sl csl _ lSl lX _ lLX _ oCX dCX _ _ tkm v tv ev tvv _ _ v0 v1 dB _ oB loB _ _ hiB _ lB lR _ lLR DT _ lDT _ _ _ oCB dCB _
            obtain ⟨n, hn⟩ : ∃ n : Nat, (n : Int) = 2 + v := ⟨(2 + v).toNat, by omega⟩
            rw [← hn] at F2
            refine seg3 (sl := sl) (lB := lX) (dB := dB) (oB := oB) (oO := oO) (oG := oG) (oLs := oLs) (oCB := oCB) (oCX := oCX) (oR := listOf #[] 0) (c := 0 + 1) (t := tv) (e0 := ev) (csl := csl) (by passes_own) B2 (by assumption) T2 F2 (News.sub N2 ?_) hws (by rw [List.length_take]; omega) (by omega) (by omega) (by omega) (by omega) (by omega) loB hiB (by omega) (by omega) dCX dCB dO ?_
            · repeat (refine subc (by k_mem) ?_)
              exact fun p hp => nomatch hp
            intro h1 tk1 oB1 oO1 vO1 c1 t1 e1 bs tl1 u1 off1 dO1 c10 hB1 hbs hbt F1 N1
            clear F2 N2
            show wpAny _ _ (execs _ _) _ _ _
            refine tail3 (by passes_own) B2 (by assumption) T2 F1 N1 hws (by rw [List.length_take]; omega) c10 (by omega) (by omega) (by omega) (by omega) loB off1 hB1 hbs hbt (by omega) (by omega) dCX dCB dO1 dG dLs ?_
            intro h9 tk9 m9 F9
            clear F1 N1
            dsimp only
            k_steps
            (all_goals (try k_data))
            all_goals w_report))
end Mine

end

theorem PySem.Challenge.cw_rh0193_01_holds : PySem.Challenge.rw_rh0193_01.Holds := by
  exact Mine.law_holds
