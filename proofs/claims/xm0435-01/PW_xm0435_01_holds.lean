import PyProof.Rows.All
import Wide.All
import OpenK.AllK
import Wide.FinOn
import PySem.Challenge.RW_xm0435_01

set_option Elab.async false
set_option maxRecDepth 100000

section PartXTop
open PySem PySem.W PyProof.Rows
namespace Mine
set_option maxRecDepth 100000 in
set_option maxHeartbeats 8000000 in
open_top hd for PySem.Challenge.rw_xm0435_01
end Mine
end PartXTop

section PartXBase
open PySem PySem.W PyProof.Rows PySem.Calls
namespace Mine
/-- what a call of the def at f leaves, said of the objects that it may touch or must know (adr) alone -/
def Cal (w : World) (mean : ExcName → Option Value) (mg mb : Str → Option Value) (dep : Nat) (f : Addr) (vs : List Value) (adr : List (Addr × Obj)) (Post : Value → Heap → Heap → Prop) : Prop :=
  ∀ (dp un : Nat) (gd : Option (List Code)) (cn : Str) (cs : Scope) (a : Addr) (ccd : Value) (cl : List (Str × Addr)) (outer : List Env) (A₀ : Around) (base h₀ : Heap) (L : Addr) (m : Str → Option Value) (s : Shared) (Q E : Value → Shared → Prop),
    Below A₀ base outer h₀ → Fr h₀ L s.heap m → (hd.heap_39 w.params).In h₀ → News h₀ L s.heap adr → Top hd.view_39 (looseW hd.view_39 []) mean mg mb h₀ → cs.kind = .function → dp + dep < recursionLimit → un + 8 * dep < cLine →
    (∀ r h' tk', Fr h₀ L h' m → (∀ b o, s.heap.get? b = some o → b ∉ adr.map (·.1) → h'.get? b = some o) → Post r s.heap h' → Q r { s with heap := h', toks := tk' }) →
    wpAny (model PySem.Challenge.rw_xm0435_01.row.prog w) (ktrTop dp un gd cn cs L a ccd cl outer) (call (.ref f) vs) Q E s

/-- a list of ints -/
def Ints (h : Heap) (a : Addr) (ns : List Int) : Prop := ∃ vs n, h.get? a = some (listOf (List.toArray vs) n) ∧ IntsAre vs ns

theorem keepOf {H g h' : Heap} {L' : Addr} {m' : Str → Option Value} {adr : List Addr} (F : Fr g L' h' m') (G : GSub H g adr) : ∀ b o, H.get? b = some o → b ∉ adr → h'.get? b = some o :=
  fun b o e n => F.keep b o (G b o e n)

theorem Cal.use {w : World} {mean : ExcName → Option Value} {mg mb : Str → Option Value} {dep : Nat} {f : Addr} {vs : List Value} {adr : List (Addr × Obj)} {Post : Value → Heap → Heap → Prop} (C : Cal w mean mg mb dep f vs adr Post)
    {dp un : Nat} {gd : Option (List Code)} {cn : Str} {cs : Scope} {a : Addr} {ccd : Value} {cl : List (Str × Addr)} {outer : List Env} {A₀ : Around} {base h₀ : Heap} {L : Addr} {m : Str → Option Value} {s : Shared} {Q E : Value → Shared → Prop}
    (B : Below A₀ base outer h₀) (F : Fr h₀ L s.heap m) (X : (hd.heap_39 w.params).In h₀) (N : News h₀ L s.heap adr) (T : Top hd.view_39 (looseW hd.view_39 []) mean mg mb h₀) (hk : cs.kind = .function) (hd : dp + dep < recursionLimit) (hu : un + 8 * dep < cLine)
    (ret : ∀ r h' tk', Fr h₀ L h' m → (∀ b o, s.heap.get? b = some o → b ∉ adr.map (·.1) → h'.get? b = some o) → Post r s.heap h' → Q r { s with heap := h', toks := tk' }) :
    wpAny (model PySem.Challenge.rw_xm0435_01.row.prog w) (ktrTop dp un gd cn cs L a ccd cl outer) (call (.ref f) vs) Q E s :=
  C _ _ _ _ _ _ _ _ _ _ _ _ _ _ _ _ _ B F X N T hk hd hu ret

theorem freshOf {H g h' : Heap} {L' : Addr} {adr : List Addr} {news : List (Addr × Obj)} {ra : Addr} {o : Obj} (N : News g L' h' news) (G : GSub H g adr) (hm : (ra, o) ∈ news) (hn : ra ∉ adr) : H.get? ra = none := by
  cases e : H.get? ra with
  | none => rfl
  | some x => have h := G ra x e hn; have h2 := (N _ hm).2.2; rw [h2] at h; cases h

theorem notMem1 {x a : Nat} (h1 : x ≠ a) : x ∉ [a] := fun h => h1 (List.mem_singleton.mp h)
theorem notMem2 {x a b : Nat} (h1 : x ≠ a) (h2 : x ≠ b) : x ∉ [a, b] := fun h => by
  rcases List.mem_cons.mp h with e | h
  · exact h1 e
  · exact h2 (List.mem_singleton.mp h)
theorem newsSame {h₀ H h' : Heap} {L : Addr} {news : List (Addr × Obj)} {adr : List Addr} (N : News h₀ L H news) (keep : ∀ b o, H.get? b = some o → b ∉ adr → h'.get? b = some o)
    (hadr : ∀ p ∈ news, p.1 ∈ adr → h'.get? p.1 = some p.2) : News h₀ L h' news := by
  intro p hp
  refine ⟨?_, (N p hp).2⟩
  by_cases hm : p.1 ∈ adr
  · exact hadr p hp hm
  · exact keep _ _ (N p hp).1 hm

theorem newsSame1 {h₀ H h' : Heap} {L a : Addr} {o : Obj} {news : List (Addr × Obj)} (N : News h₀ L H news) (hm : (a, o) ∈ news) (keep : ∀ b o', H.get? b = some o' → b ∉ [(a, o)].map (·.1) → h'.get? b = some o')
    (ha : h'.get? a = some o) : News h₀ L h' news := newsSame N keep fun p hp hq => by
  have e : p.1 = a := List.mem_singleton.mp hq
  have h1 := (N p hp).1
  rw [e, (N _ hm).1] at h1
  rw [e, ha]; exact h1
theorem newsSame2 {h₀ H h' : Heap} {L a b : Addr} {o q : Obj} {news : List (Addr × Obj)} (N : News h₀ L H news) (hm : (a, o) ∈ news) (hn : (b, q) ∈ news) (keep : ∀ c o', H.get? c = some o' → c ∉ [(a, o), (b, q)].map (·.1) → h'.get? c = some o')
    (ha : h'.get? a = some o) (hb : h'.get? b = some q) : News h₀ L h' news := newsSame N keep fun p hp hr => by
  have h1 := (N p hp).1
  rcases List.mem_cons.mp hr with e | e
  · have e : p.1 = a := e
    rw [e, (N _ hm).1] at h1
    rw [e, ha]; exact h1
  · have e : p.1 = b := List.mem_singleton.mp e
    rw [e, (N _ hn).1] at h1
    rw [e, hb]; exact h1

theorem newsAdd {h₀ H h' : Heap} {L ra : Addr} {o : Obj} {m : Str → Option Value} {news : List (Addr × Obj)} (F : Fr h₀ L H m) (N : News h₀ L H news) (N' : News h₀ L h' news) (ha : h'.get? ra = some o) (hf : H.get? ra = none) :
    News h₀ L h' ((ra, o) :: news) ∧ ∀ p ∈ news, p.1 ≠ ra := by
  refine ⟨fun p hp => ?_, fun p hp e => ?_⟩
  · rcases List.mem_cons.mp hp with rfl | hp
    · refine ⟨ha, fun e => ?_, ?_⟩
      · obtain ⟨oL, _, _, hL, _⟩ := F.ns
        have e' : ra = L := e
        rw [e', hL] at hf; cases hf
      · cases q : h₀.get? ra with
        | none => rfl
        | some x => have := F.keep _ _ q; rw [hf] at this; cases this
    · exact N' p hp
  · have := (N p hp).1
    rw [e, hf] at this; cases this

theorem newsAdd3 {h₀ H h' : Heap} {L ra rb rc : Addr} {o q r : Obj} {m : Str → Option Value} {news : List (Addr × Obj)} (F : Fr h₀ L H m) (N : News h₀ L H news) (N' : News h₀ L h' news) (ha : h'.get? ra = some o) (hb : h'.get? rb = some q) (hc : h'.get? rc = some r)
    (fa : H.get? ra = none) (fb : H.get? rb = none) (fc : H.get? rc = none) : News h₀ L h' ((ra, o) :: (rb, q) :: (rc, r) :: news) := by
  intro p hp
  rcases List.mem_cons.mp hp with rfl | hp
  · exact (newsAdd F N N' ha fa).1 _ (.head _)
  · rcases List.mem_cons.mp hp with rfl | hp
    · exact (newsAdd F N N' hb fb).1 _ (.head _)
    · rcases List.mem_cons.mp hp with rfl | hp
      · exact (newsAdd F N N' hc fc).1 _ (.head _)
      · exact N' p hp

theorem newsUpd {h₀ H h' : Heap} {L y q : Addr} {o o' oq : Obj} {news news' : List (Addr × Obj)} (N : News h₀ L H news) (U : Upd y o o' news news') (hm : (q, oq) ∈ news) (keep : ∀ b ob, H.get? b = some ob → b ∉ [(y, o), (q, oq)].map (·.1) → h'.get? b = some ob)
    (hy : h'.get? y = some o') (hq : h'.get? q = some oq) : News h₀ L h' news' := by
  obtain ⟨pre, post, rfl, rfl, a, b⟩ := U.split
  have one : ∀ p, p ∈ pre ++ (y, o) :: post → p.1 ≠ y → h'.get? p.1 = some p.2 := fun p hp hn => by
    by_cases h : p.1 = q
    · have h1 := (N p hp).1
      rw [h, (N _ hm).1] at h1
      rw [h, hq]; exact h1
    · refine keep _ _ (N p hp).1 fun hmem => ?_
      rcases List.mem_cons.mp hmem with e | e
      · exact hn e
      · exact h (List.mem_singleton.mp e)
  intro p hp
  rcases List.mem_append.mp hp with hp | hp
  · have hp' : p ∈ pre ++ (y, o) :: post := List.mem_append.mpr (.inl hp)
    exact ⟨one p hp' (a p hp), (N p hp').2⟩
  · rcases List.mem_cons.mp hp with rfl | hp
    · exact ⟨hy, (N (y, o) (List.mem_append.mpr (.inr (.head _)))).2⟩
    · have hp' : p ∈ pre ++ (y, o) :: post := List.mem_append.mpr (.inr (.tail _ hp))
      exact ⟨one p hp' (b p hp), (N p hp').2⟩

/-- a mark at which the walk stands still -/
def Stop (P : Prop) : Prop := P
theorem Stop.out {P : Prop} (h : Stop P) : P := h
theorem Stop.back {P : Prop} (h : P) : Stop P := h
end Mine
end PartXBase

section PartXEnum
open PySem PySem.W PyProof.Rows PySem.Calls
namespace Mine
/-- the end of a turn: what is left, said of the names and of the ledger at the turn's end -/
def TurnEnd (h₀ : Heap) (L : Addr) (s₁ : Shared) (J : (Str → Option Value) → List (Addr × Obj) → Prop) (s₂ : Shared) : Prop :=
  ∃ h' tk m' news', s₂ = { s₁ with heap := h', toks := tk } ∧ Fr h₀ L h' m' ∧ News h₀ L h' news' ∧ J m' news'
def TurnPost (h₀ : Heap) (L : Addr) (s₁ : Shared) (J : (Str → Option Value) → List (Addr × Obj) → Prop) (Q : Flow → Shared → Prop) (f : Flow) (s₂ : Shared) : Prop :=
  match f with
  | .ret v => Q (.ret v) s₂
  | .brk => Q .next s₂
  | _ => TurnEnd h₀ L s₁ J s₂

theorem subL_of : ∀ {l l' : List (Addr × Obj)}, (∀ p ∈ l, p ∈ l') → SubL l l'
  | [], _, _ => trivial
  | p :: _, _, h => And.intro (h p (.head _)) (subL_of fun q hq => h q (.tail _ hq))

section
variable {prog : Program} {w : World} {A : Around} {E : Value → Shared → Prop} {s : Shared} {env : Env} {h₀ : Heap} {body : List Stmt} {Q : Flow → Shared → Prop}

theorem items_inv {target : Expr} {ws : List (Addr × String)} {keep : List (Addr × Obj)} (J : Nat → (Str → Option Value) → List (Addr × Obj) → Prop) (xs₀ : List Itm)
    (turn : ∀ i a m news, xs₀[i]? = some a → J i m news → ∀ v h tk, a.Is v h → Fr h₀ env.locals h m → AllObj ws (fun its => News h₀ env.locals h (its ++ news) →
      wpAny (model prog w) A (assign target env v) (fun _ s₂ => wpAny (model prog w) A (execs body env) (UnrPostW h₀ env.locals { s with heap := h, toks := tk } its (fun m' n' => SubL keep n' ∧ J (i + 1) m' n') Q) E s₂) E { s with heap := h, toks := tk }))
    (done : ∀ m news h tk, J xs₀.length m news → Fr h₀ env.locals h m → News h₀ env.locals h news → Q .next { s with heap := h, toks := tk }) :
    ∀ (xs : List Itm) (i : Nat) (m : Str → Option Value) (news : List (Addr × Obj)), xs = xs₀.drop i → i ≤ xs₀.length → J i m news → ItemsRest prog w A E h₀ env target body Q s ws keep xs m news
  | [], i, m, news, hx, hi, hJ => by
    have e : i = xs₀.length := by
      have := congrArg List.length hx
      rw [List.length_drop, List.length_nil] at this
      omega
    subst e
    exact fun h tk F N => done m news h tk hJ F N
  | a :: r, i, m, news, hx, hi, hJ => by
    have hlt : i < xs₀.length := by
      have := congrArg List.length hx
      rw [List.length_drop, List.length_cons] at this
      omega
    have e := List.drop_eq_getElem_cons hlt
    rw [← hx] at e
    injection e with e1 e2
    intro v h tk hv F
    have T := turn i a m news (by rw [List.getElem?_eq_getElem hlt, e1]) hJ v h tk hv F
    have mono : ∀ (ws : List (Addr × String)) (k k' : List (Addr × Obj) → Prop), (∀ its, k its → k' its) → AllObj ws k → AllObj ws k' := by
      intro ws
      induction ws with
      | nil => exact fun k k' hk h => hk _ h
      | cons w r ih => exact fun k k' hk h o ho => ih _ _ (fun its => hk _) (h o ho)
    refine mono _ _ _ (fun its T N => ?_) T
    refine wpAny_mono (T N) (fun _ s₂ h₂ => wpAny_mono h₂ (fun f s₃ p => ?_) fun _ _ e => e) fun _ _ e => e
    have up : UnrEndW h₀ env.locals { s with heap := h, toks := tk } its (fun m' n' => SubL keep n' ∧ J (i + 1) m' n') s₃ → UnrEndW h₀ env.locals { s with heap := h, toks := tk } its (fun m' n' => SubL keep n' ∧ ItemsRest prog w A E h₀ env target body Q s ws keep r m' n') s₃ := by
      rintro ⟨h', tk', m', news', e, F', N', off, hs, hJ'⟩
      exact ⟨h', tk', m', news', e, F', N', off, hs, items_inv J xs₀ turn done r (i + 1) m' news' e2 hlt hJ'⟩
    cases f with
    | ret v => exact p
    | brk => exact p
    | next => exact up p
    | cont => exact up p

/-- a loop by enumerate over a list of ints of the ledger's -/
theorem enum_loop {σ : Type} {elts : List Expr} {k : Nat} {pos : Pos} {l : Addr} {vs : List Value} {n : Nat} {ns : List Int} {m₀ : Str → Option Value}
    (Led : σ → List (Addr × Obj)) (ps : σ → List (Str × Value)) (P : Nat → σ → Prop) (stored : List Str) (c₀ : σ)
    (hh : A.handled = none) (hm : ∀ c, (l, listOf vs.toArray n) ∈ Led c) (hadr : ∀ c c', (Led c).map (·.1) = (Led c').map (·.1)) (hi : IntsAre vs ns)
    (F : Fr h₀ env.locals s.heap m₀) (N : News h₀ env.locals s.heap (Led c₀)) (hk : ∀ p ∈ ps c₀, m₀ p.1 = some p.2) (hp : P 0 c₀)
    (turn : ∀ (I : Nat) (oe oi : Obj) (c : σ) (i : Nat) (x : Int) (tx t : Tok) (T : Addr) (u : Str → Option Value) (h : Heap) (tk : Nat), (∀ p ∈ Led c₀, p.1 < I) → ns[i]? = some x → P i c → IsTup h T #[.int (i : Int) t, .int x tx] →
      Fr h₀ env.locals h (kstB (fun z => if stored.contains z then u z else m₀ z) (ps c)) → News h₀ env.locals h ((I + 1, oe) :: (I, oi) :: Led c) →
      wpAny (model prog w) A (assign (.Tuple elts k pos) env (.ref T)) (fun _ s₂ => wpAny (model prog w) A (execs body env) (TurnPost h₀ env.locals { s with heap := h, toks := tk }
        (fun m' news' => (I + 1, oe) ∈ news' ∧ (I, oi) ∈ news' ∧ ∃ c', (∀ p ∈ Led c', p ∈ news') ∧ (∀ p ∈ ps c', m' p.1 = some p.2) ∧ (∀ z, (∀ p ∈ ps c', z ≠ p.1) → stored.contains z = false → m' z = m₀ z) ∧ P (i + 1) c') Q) E s₂) E { s with heap := h, toks := tk })
    (done : ∀ (c : σ) (u : Str → Option Value) (h : Heap) (tk : Nat), P ns.length c → Fr h₀ env.locals h (kstB (fun z => if stored.contains z then u z else m₀ z) (ps c)) → News h₀ env.locals h (Led c) → Q .next { s with heap := h, toks := tk }) :
    wpAny (model prog w) A (call (.type "enumerate") [.ref l]) (fun xv s₁ => wpAny (model prog w) A (pyIter xv) (fun it s₂ => TurnsAt prog w A h₀ env (.Tuple elts k pos) body Q E it s₂) E s₁) E s := by
  refine ktu_enum hh F N (hm c₀) rfl rfl rfl fun I hI => ?_
  have hlen : (enumItems 0 vs).length = ns.length := by rw [enumItems_length, hi.length]
  refine items_inv (fun i m nx => ∃ c : σ, (∀ p ∈ Led c, p ∈ nx) ∧ (∀ p ∈ ps c, m p.1 = some p.2) ∧ (∀ z, (∀ p ∈ ps c, z ≠ p.1) → stored.contains z = false → m z = m₀ z) ∧ P i c) (enumItems 0 vs) ?_ ?_ _ 0 _ _ rfl (Nat.zero_le _) ⟨c₀, fun _ h => h, hk, fun _ _ _ => rfl, hp⟩
  · rintro i a m news ha ⟨c, hs, h1, h2, hpc⟩ v h tk hv F₁ oe hoe oi hoi N₁
    have hlt : i < ns.length := by rw [← hlen]; exact (List.getElem?_eq_some_iff.mp ha).1
    obtain ⟨tx, hx⟩ := hi.get i ns[i] (by simp [hlt])
    have e := enumItems_get vs 0 i hx
    rw [ha] at e
    cases e
    obtain ⟨T, t, rfl, hT⟩ := hv
    simp only [Nat.zero_add] at hT
    have N₂ : News h₀ env.locals h ((I + 1, oe) :: (I, oi) :: Led c) := fun p hp => by
      refine N₁ p ?_
      rcases List.mem_cons.mp hp with rfl | hp
      · exact .head _
      · rcases List.mem_cons.mp hp with rfl | hp
        · exact .tail _ (.head _)
        · exact .tail _ (.tail _ (hs p hp))
    refine wpAny_mono (turn I oe oi c i ns[i] tx t T m h tk hI (by simp [hlt]) hpc hT (ksw_fr h1 h2 F₁) N₂) (fun _ s₂ h₂ => wpAny_mono h₂ (fun f s₃ p => ?_) fun _ _ e => e) fun _ _ e => e
    have up : TurnEnd h₀ env.locals { s with heap := h, toks := tk } (fun m' news' => (I + 1, oe) ∈ news' ∧ (I, oi) ∈ news' ∧ ∃ c', (∀ p ∈ Led c', p ∈ news') ∧ (∀ p ∈ ps c', m' p.1 = some p.2) ∧ (∀ z, (∀ p ∈ ps c', z ≠ p.1) → stored.contains z = false → m' z = m₀ z) ∧ P (i + 1) c') s₃ →
        UnrEndW h₀ env.locals { s with heap := h, toks := tk } [(I + 1, oe), (I, oi)] (fun m' n' => SubL [(l, listOf vs.toArray n)] n' ∧ ∃ c : σ, (∀ p ∈ Led c, p ∈ n') ∧ (∀ p ∈ ps c, m' p.1 = some p.2) ∧ (∀ z, (∀ p ∈ ps c, z ≠ p.1) → stored.contains z = false → m' z = m₀ z) ∧ P (i + 1) c) s₃ := by
      rintro ⟨h', tk', m', news', e, F', N', i1, i2, c', a1, a2, a3, a4⟩
      refine ⟨h', tk', m', Led c', e, F', fun p hp => N' p ?_, fun p hp q hq => ?_, And.intro (hm c') trivial, c', fun _ h => h, a2, a3, a4⟩
      · rcases List.mem_cons.mp hp with rfl | hp
        · exact i1
        · rcases List.mem_cons.mp hp with rfl | hp
          · exact i2
          · exact a1 p hp
      · have hp1 : p.1 ∈ (Led c₀).map (·.1) := by rw [hadr c₀ c']; exact List.mem_map_of_mem hp
        obtain ⟨r, hr, hre⟩ := List.mem_map.mp hp1
        have hrI := hI r hr
        rw [hre] at hrI
        rcases List.mem_cons.mp hq with rfl | hq
        · exact Nat.ne_of_lt (Nat.lt_succ_of_lt hrI)
        · rw [List.mem_singleton.mp hq]; exact Nat.ne_of_lt hrI
    cases f with
    | ret v => exact p
    | brk => exact p
    | next => exact up p
    | cont => exact up p
  · rintro m news h tk ⟨c, hs, h1, h2, hpc⟩ F₁ N₁
    rw [hlen] at hpc
    exact done c m h tk hpc (ksw_fr h1 h2 F₁) fun p hp => N₁ p (hs p hp)
/-- a loop over a list of ints of the ledger's -/
theorem list_loop {σ : Type} {target : Expr} {l : Addr} {vs : List Value} {n : Nat} {ns : List Int} {m₀ : Str → Option Value}
    (Led : σ → List (Addr × Obj)) (ps : σ → List (Str × Value)) (P : Nat → σ → Prop) (stored : List Str) (c₀ : σ)
    (hh : A.handled = none) (hm : ∀ c, (l, listOf vs.toArray n) ∈ Led c) (hadr : ∀ c c', (Led c).map (·.1) = (Led c').map (·.1)) (hi : IntsAre vs ns)
    (F : Fr h₀ env.locals s.heap m₀) (N : News h₀ env.locals s.heap (Led c₀)) (hk : ∀ p ∈ ps c₀, m₀ p.1 = some p.2) (hp : P 0 c₀)
    (turn : ∀ (I : Nat) (oi : Obj) (c : σ) (i : Nat) (x : Int) (tx : Tok) (u : Str → Option Value) (h : Heap) (tk : Nat), (∀ p ∈ Led c₀, p.1 < I) → ns[i]? = some x → P i c →
      Fr h₀ env.locals h (kstB (fun z => if stored.contains z then u z else m₀ z) (ps c)) → News h₀ env.locals h ((I, oi) :: Led c) →
      wpAny (model prog w) A (assign target env (.int x tx)) (fun _ s₂ => wpAny (model prog w) A (execs body env) (TurnPost h₀ env.locals { s with heap := h, toks := tk }
        (fun m' news' => (I, oi) ∈ news' ∧ ∃ c', (∀ p ∈ Led c', p ∈ news') ∧ (∀ p ∈ ps c', m' p.1 = some p.2) ∧ (∀ z, (∀ p ∈ ps c', z ≠ p.1) → stored.contains z = false → m' z = m₀ z) ∧ P (i + 1) c') Q) E s₂) E { s with heap := h, toks := tk })
    (done : ∀ (c : σ) (u : Str → Option Value) (h : Heap) (tk : Nat), P ns.length c → Fr h₀ env.locals h (kstB (fun z => if stored.contains z then u z else m₀ z) (ps c)) → News h₀ env.locals h (Led c) → Q .next { s with heap := h, toks := tk }) :
    wpAny (model prog w) A (pyIter (.ref l)) (fun it s₂ => TurnsAt prog w A h₀ env target body Q E it s₂) E s := by
  refine iter_listTurns hh F N (hm c₀) rfl rfl fun I hI => ?_
  have hlen : (vs.map Itm.val).length = ns.length := by rw [List.length_map, hi.length]
  refine items_inv (fun i m nx => ∃ c : σ, (∀ p ∈ Led c, p ∈ nx) ∧ (∀ p ∈ ps c, m p.1 = some p.2) ∧ (∀ z, (∀ p ∈ ps c, z ≠ p.1) → stored.contains z = false → m z = m₀ z) ∧ P i c) (vs.map Itm.val) ?_ ?_ _ 0 _ _ rfl (Nat.zero_le _) ⟨c₀, fun _ h => h, hk, fun _ _ _ => rfl, hp⟩
  · rintro i a m news ha ⟨c, hs, h1, h2, hpc⟩ v h tk hv F₁ oi hoi N₁
    have hlt : i < ns.length := by rw [← hlen]; exact (List.getElem?_eq_some_iff.mp ha).1
    obtain ⟨tx, hx⟩ := hi.get i ns[i] (by simp [hlt])
    rw [List.getElem?_map, hx] at ha
    cases ha
    have hv' : v = .int ns[i] tx := hv
    subst hv'
    have N₂ : News h₀ env.locals h ((I, oi) :: Led c) := fun p hp => by
      refine N₁ p ?_
      rcases List.mem_cons.mp hp with rfl | hp
      · exact .head _
      · exact .tail _ (hs p hp)
    refine wpAny_mono (turn I oi c i ns[i] tx m h tk hI (by simp [hlt]) hpc (ksw_fr h1 h2 F₁) N₂) (fun _ s₂ h₂ => wpAny_mono h₂ (fun f s₃ p => ?_) fun _ _ e => e) fun _ _ e => e
    have up : TurnEnd h₀ env.locals { s with heap := h, toks := tk } (fun m' news' => (I, oi) ∈ news' ∧ ∃ c', (∀ p ∈ Led c', p ∈ news') ∧ (∀ p ∈ ps c', m' p.1 = some p.2) ∧ (∀ z, (∀ p ∈ ps c', z ≠ p.1) → stored.contains z = false → m' z = m₀ z) ∧ P (i + 1) c') s₃ →
        UnrEndW h₀ env.locals { s with heap := h, toks := tk } [(I, oi)] (fun m' n' => SubL [(l, listOf vs.toArray n)] n' ∧ ∃ c : σ, (∀ p ∈ Led c, p ∈ n') ∧ (∀ p ∈ ps c, m' p.1 = some p.2) ∧ (∀ z, (∀ p ∈ ps c, z ≠ p.1) → stored.contains z = false → m' z = m₀ z) ∧ P (i + 1) c) s₃ := by
      rintro ⟨h', tk', m', news', e, F', N', i1, c', a1, a2, a3, a4⟩
      refine ⟨h', tk', m', Led c', e, F', fun p hp => N' p ?_, fun p hp q hq => ?_, And.intro (hm c') trivial, c', fun _ h => h, a2, a3, a4⟩
      · rcases List.mem_cons.mp hp with rfl | hp
        · exact i1
        · exact a1 p hp
      · have hp1 : p.1 ∈ (Led c₀).map (·.1) := by rw [hadr c₀ c']; exact List.mem_map_of_mem hp
        obtain ⟨r, hr, hre⟩ := List.mem_map.mp hp1
        have hrI := hI r hr
        rw [hre] at hrI
        rw [List.mem_singleton.mp hq]; exact Nat.ne_of_lt hrI
    cases f with
    | ret v => exact p
    | brk => exact p
    | next => exact up p
    | cont => exact up p
  · rintro m news h tk ⟨c, hs, h1, h2, hpc⟩ F₁ N₁
    rw [hlen] at hpc
    exact done c m h tk hpc (ksw_fr h1 h2 F₁) fun p hp => N₁ p (hs p hp)
end
end Mine
end PartXEnum

section PartXNormal
open PySem PySem.W PyProof.Rows PySem.Calls
namespace Mine
theorem normal_pure (ns : List Int) (k : Int) (h1 : k ≤ (ns.length : Int)) (h2 : min (ns.length : Int) 0 ≤ k)
    (h3 : ∀ j : Int, k < j → j ≤ (ns.length : Int) → (if 0 < j then if (ns.getD (j - 1).toNat 0 == 0) = true then true else false else false) = true) :
    (ns.take k.toNat).length ≤ ns.length ∧ ∀ i, (ns.take k.toNat).getD i 0 = ns.getD i 0 := by
  refine ⟨by simp; omega, fun i => ?_⟩
  by_cases hi : i < k.toNat
  · simp [List.getD_eq_getElem?_getD, List.getElem?_take, hi]
  · rw [List.getD_eq_getElem?_getD, List.getElem?_eq_none (by simp; omega)]
    by_cases hl : i < ns.length
    · have := h3 (i + 1) (by omega) (by omega)
      rw [if_pos (by omega)] at this
      have e : ((i : Int) + 1 - 1).toNat = i := by omega
      rw [e] at this
      simp at this
      simp [this]
    · rw [List.getD_eq_getElem?_getD, List.getElem?_eq_none (by omega)]

set_option maxHeartbeats 8000000 in
theorem normal_cal (w : World) (mean : ExcName → Option Value) (mg mb : Str → Option Value) (l : Addr) (vs : List Value) (n : Nat) (ns : List Int) (hi : IntsAre vs ns) (hlen : ns.length < 100) :
    Cal w mean mg mb 1 21 [.ref l] [(l, listOf vs.toArray n)] (fun r H h' => h'.get? l = some (listOf vs.toArray n) ∧ ∃ ra rs, r = .ref ra ∧ Ints h' ra rs ∧ rs.length ≤ ns.length ∧ (∀ k, rs.getD k 0 = ns.getD k 0) ∧ H.get? ra = none) := by
  unfold Cal
  w_on
  w_top off
  k_fill
  intro dp un gd cn cs a ccd cl outer A₀ base h₀ L m s Q E B F X N T hk hd hu hret
  k_with_none
  refine wpAny_call ?_
  k_dflt (refine' code_defG ?k1 ?k2 ?k3 ?k4 ?k5 ?kA ?kF ?kK ?k6 ?k7 ?k8 ?k9 ?kB ?_ ?c2 ?c3 ?c4 ?c5; (case kA => exact rfl); (case kF => exact rfl); (case kK => assumption); (case k1 => k_asm); (case k2 => k_asm); (case k3 => k_asm); (case k4 => k_asm); (case k5 => k_asm); (case k6 => k_is); (case k7 => k_is); (case k8 => ktr_room); (case k9 => exact BindsTo.of_eq rfl); (case c5 => decide); (case kB => exact locs rfl); (case c2 => exact rfl); (case c3 => exact rfl); (case c4 => exact rfl); k_whole; intro g1 L1 h1 FG F1 N1 B1 X1 T1 G1; (try dsimp only); (try k_fold))
  k_steps
  have hN := (by assumption : News g1 L1 _ [_, _])
  have hp := normal_pure ns _ (by assumption) (by assumption) (by assumption)
  exact hret _ _ _ (by assumption) (keepOf (by assumption) G1) ⟨(hN _ (.tail _ (.head _))).1, _, _, rfl, ⟨_, _, (hN _ (.head _)).1, by assumption⟩, hp.1, hp.2, freshOf hN G1 (.head _) (notMem1 (by k_ne))⟩
end Mine
end PartXNormal

section PartXConv
open PySem PySem.W PyProof.Rows PySem.Calls
namespace Mine
def convI (a b : List Int) : Nat → Nat → Int
  | 0, _ => 0
  | i + 1, k => convI a b i k + (if i ≤ k then a.getD i 0 * b.getD (k - i) 0 else 0)
def convP (a b : List Int) (i j k : Nat) : Int := convI a b i k + (if i ≤ k ∧ k < i + j then a.getD i 0 * b.getD (k - i) 0 else 0)

theorem prod01 {x y : Int} (hx : 0 ≤ x ∧ x ≤ 1) (hy : 0 ≤ y ∧ y ≤ 1) : 0 ≤ x * y ∧ x * y ≤ 1 := by
  have h1 : x = 0 ∨ x = 1 := by omega
  rcases h1 with rfl | rfl
  · simp
  · rw [Int.one_mul]; exact hy

theorem getD_outI {ns : List Int} {i : Nat} (h : ns.length ≤ i) : ns.getD i 0 = 0 := by
  rw [List.getD_eq_getElem?_getD, List.getElem?_eq_none h]; rfl

theorem convI_bound {a b : List Int} (ha : ∀ k, 0 ≤ a.getD k 0 ∧ a.getD k 0 ≤ 1) (hb : ∀ k, 0 ≤ b.getD k 0 ∧ b.getD k 0 ≤ 1) (k : Nat) : ∀ i, 0 ≤ convI a b i k ∧ convI a b i k ≤ (i : Int)
  | 0 => ⟨Int.le_refl _, Int.le_refl _⟩
  | i + 1 => by
    have ih := convI_bound ha hb k i
    have hp := prod01 (ha i) (hb (k - i))
    unfold convI
    split <;> omega

theorem convI_zero {a b : List Int} {k : Nat} : ∀ i, i + b.length ≤ k + 1 → convI a b i k = 0
  | 0, _ => rfl
  | i + 1, h => by
    unfold convI
    rw [convI_zero i (by omega), getD_outI (ns := b) (by omega)]
    simp

theorem convP_full {a b : List Int} {i k : Nat} : convP a b i b.length k = convI a b (i + 1) k := by
  unfold convP
  show _ = convI a b i k + _
  by_cases h : i ≤ k
  · by_cases h2 : k < i + b.length
    · rw [if_pos ⟨h, h2⟩, if_pos h]
    · rw [if_neg (fun q => h2 q.2), if_pos h, getD_outI (ns := b) (by omega)]
      simp
  · rw [if_neg (fun q => h q.1), if_neg h]

theorem convP_zero {a b : List Int} {i k : Nat} : convI a b i k = convP a b i 0 k := by
  unfold convP
  rw [if_neg (by omega), Int.add_zero]

theorem pow32 {W : Nat} (hW : 5 ≤ W) : (32 : Int) ≤ 2 ^ W := by
  have h2 : (2 : Nat) ^ 5 ≤ 2 ^ W := Nat.pow_le_pow_right (by decide) hW
  have h3 : ((2 ^ W : Nat) : Int) = (2 : Int) ^ W := by simp
  have h4 : (32 : Int) ≤ ((2 ^ W : Nat) : Int) := by exact_mod_cast h2
  rw [h3] at h4; exact h4

theorem getD_set {ns : List Int} {p k : Nat} {v : Int} (hp : p < ns.length) : (ns.set p v).getD k 0 = if k = p then v else ns.getD k 0 := by
  rw [List.getD_eq_getElem?_getD, List.getD_eq_getElem?_getD, List.getElem?_set]
  by_cases h : k = p
  · subst h; simp [hp]
  · rw [if_neg h, if_neg (fun q => h q.symm)]

theorem inner_step {a b gi : List Int} {i j W : Nat} {gc x y : Int} (ha : ∀ k, 0 ≤ a.getD k 0 ∧ a.getD k 0 ≤ 1) (hb : ∀ k, 0 ≤ b.getD k 0 ∧ b.getD k 0 ≤ 1) (hla : a.length < 16)
    (hW : 5 ≤ W) (hi : i < a.length) (hj : j < b.length) (hx : x = a.getD i 0) (hy : y = b.getD j 0) (hc : gc = 0) (hl : gi.length = a.length + b.length) (hg : ∀ k, gi.getD k 0 = convP a b i j k) :
    (gc + (gi.getD ((i : Int) + (j : Int)).toNat 0 + x * y)).fdiv (2 ^ W) = 0 ∧
      (gi.set ((i : Int) + (j : Int)).toNat (Builtin.bitAnd (gc + (gi.getD ((i : Int) + (j : Int)).toNat 0 + x * y)) (1 * 2 ^ W - 1))).length = a.length + b.length ∧
      ∀ k, (gi.set ((i : Int) + (j : Int)).toNat (Builtin.bitAnd (gc + (gi.getD ((i : Int) + (j : Int)).toNat 0 + x * y)) (1 * 2 ^ W - 1))).getD k 0 = convP a b i (j + 1) k := by
  subst hc hx hy
  have e : ((i : Int) + (j : Int)).toNat = i + j := by omega
  rw [e]
  have h1 : gi.getD (i + j) 0 = convI a b i (i + j) := by
    rw [hg]; unfold convP; rw [if_neg (by omega), Int.add_zero]
  have hbd := convI_bound ha hb (i + j) i
  have hpr := prod01 (ha i) (hb j)
  have hp := pow32 hW
  rw [h1, Int.zero_add, Int.one_mul, kbt_mask]
  have e2 : (convI a b i (i + j) + a.getD i 0 * b.getD j 0) % 2 ^ W = convI a b i (i + j) + a.getD i 0 * b.getD j 0 := Int.emod_eq_of_lt (by omega) (by omega)
  rw [e2]
  refine ⟨?_, by rw [List.length_set, hl], fun k => ?_⟩
  · rw [Int.fdiv_eq_ediv_of_nonneg _ (by omega)]
    exact Int.ediv_eq_zero_of_lt (by omega) (by omega)
  · rw [getD_set (by omega)]
    by_cases h : k = i + j
    · subst h
      unfold convP
      rw [if_pos rfl, if_pos (by omega)]
      have : i + j - i = j := by omega
      rw [this]
    · rw [if_neg h, hg]
      unfold convP
      by_cases h2 : i ≤ k ∧ k < i + j
      · rw [if_pos h2, if_pos (by omega)]
      · rw [if_neg h2, if_neg (by omega)]

theorem outer_step {a b gi : List Int} {i : Nat} {gc : Int} (hi : i < a.length) (hc : gc = 0) (hl : gi.length = a.length + b.length) (hg : ∀ k, gi.getD k 0 = convP a b i b.length k) :
    (gi.set ((i : Int) + (b.length : Int)).toNat gc).length = a.length + b.length ∧ ∀ k, (gi.set ((i : Int) + (b.length : Int)).toNat gc).getD k 0 = convI a b (i + 1) k := by
  subst hc
  have e : ((i : Int) + (b.length : Int)).toNat = i + b.length := by omega
  rw [e]
  refine ⟨by rw [List.length_set, hl], fun k => ?_⟩
  rw [getD_set (by omega)]
  by_cases h : k = i + b.length
  · rw [if_pos h, convI_zero _ (by omega)]
  · rw [if_neg h, hg, convP_full]

theorem conv_start {a b : List Int} {n : Nat} : ∀ k, (List.replicate n [(0 : Int)]).flatten.getD k 0 = convI a b 0 k := by
  intro k
  show _ = (0 : Int)
  have : (List.replicate n [(0 : Int)]).flatten = List.replicate n 0 := by
    induction n with
    | zero => rfl
    | succ n ih => rw [List.replicate_succ, List.flatten_cons, ih]; rfl
  rw [this, List.getD_eq_getElem?_getD, List.getElem?_replicate]
  split <;> rfl
end Mine
end PartXConv

section PartXAdd
open PySem PySem.W PyProof.Rows PySem.Calls
namespace Mine
theorem add_step {ns1 ns2 found : List Int} {c x : Int} {W N : Nat} (hW : 5 ≤ W) (hc : c = 0) (hx : x = ns1.getD found.length 0 + ns2.getD found.length 0)
    (hb : ∀ k, 0 ≤ ns1.getD k 0 + ns2.getD k 0 ∧ ns1.getD k 0 + ns2.getD k 0 < 32) (hf : ∀ k, k < found.length → found.getD k 0 = ns1.getD k 0 + ns2.getD k 0) (hN : found.length + 1 = N) :
    (c + x).fdiv (2 ^ W) = 0 ∧ (found ++ [Builtin.bitAnd (c + x) (1 * 2 ^ W - 1)]).length = N ∧
      ∀ k, k < (found ++ [Builtin.bitAnd (c + x) (1 * 2 ^ W - 1)]).length → (found ++ [Builtin.bitAnd (c + x) (1 * 2 ^ W - 1)]).getD k 0 = ns1.getD k 0 + ns2.getD k 0 := by
  subst hc
  have hb' := hb found.length
  rw [← hx] at hb'
  have hp : (32 : Int) ≤ 2 ^ W := by
    have h2 : (2 : Nat) ^ 5 ≤ 2 ^ W := Nat.pow_le_pow_right (by decide) hW
    have h3 : ((2 ^ W : Nat) : Int) = (2 : Int) ^ W := by simp
    have h4 : (32 : Int) ≤ ((2 ^ W : Nat) : Int) := by exact_mod_cast h2
    rw [h3] at h4; exact h4
  rw [Int.zero_add, Int.one_mul, kbt_mask]
  have e : x % 2 ^ W = x := Int.emod_eq_of_lt hb'.1 (by omega)
  rw [e]
  refine ⟨?_, by simp [hN], fun k hk => ?_⟩
  · rw [Int.fdiv_eq_ediv_of_nonneg _ (by omega)]
    exact Int.ediv_eq_zero_of_lt hb'.1 (by omega)
  · rw [List.length_append, List.length_cons, List.length_nil] at hk
    by_cases h : k < found.length
    · rw [← hf k h]
      simp [List.getD_eq_getElem?_getD, List.getElem?_append, h]
    · have : k = found.length := by omega
      subst this
      simp [List.getD_eq_getElem?_getD] at hx ⊢
      exact hx

theorem getD_out {ns : List Int} {i : Nat} (h : ns.length ≤ i) : ns.getD i 0 = 0 := by
  rw [List.getD_eq_getElem?_getD, List.getElem?_eq_none h]; rfl
theorem add_xa {ns1 ns2 : List Int} {i j : Nat} (h : i = j) : ns1.getD i 0 + ns2.getD i 0 = ns1.getD j 0 + ns2.getD j 0 := by rw [h]
theorem add_xb {ns1 ns2 : List Int} {i j : Nat} (h : i = j) : ns2.getD i 0 + ns1.getD i 0 = ns1.getD j 0 + ns2.getD j 0 := by rw [h, Int.add_comm]
theorem add_xc {ns1 ns2 : List Int} {i j : Nat} (h : i = j) (h2 : ns2.length ≤ i) : ns1.getD i 0 = ns1.getD j 0 + ns2.getD j 0 := by rw [← h, getD_out h2, Int.add_zero]
theorem add_xd {ns1 ns2 : List Int} {i j : Nat} (h : i = j) (h2 : ns1.length ≤ i) : ns2.getD i 0 = ns1.getD j 0 + ns2.getD j 0 := by rw [← h, getD_out h2, Int.zero_add]
theorem add_mid1 {f : List Int} {a b : Nat} (h : f.length = (rangeKs 0 ((a : Int) - 0).toNat).length) (hab : a ≤ b) : f.length = min a b + ([] : List Int).length := by
  rw [h, rangeKs_length, List.length_nil]; omega
theorem add_mid2 {f : List Int} {a b : Nat} (h : f.length = (rangeKs 0 ((a : Int) - 0).toNat).length) (hab : a ≤ b) : f.length = min b a + ([] : List Int).length := by
  rw [h, rangeKs_length, List.length_nil]; omega
theorem add_end {ns1 ns2 rs : List Int} (hl : rs.length = max ns1.length ns2.length) (h : ∀ k, k < rs.length → rs.getD k 0 = ns1.getD k 0 + ns2.getD k 0) : ∀ k, rs.getD k 0 = ns1.getD k 0 + ns2.getD k 0 := by
  intro k
  by_cases hk : k < rs.length
  · exact h k hk
  · rw [getD_out (by omega), getD_out (by omega), getD_out (by omega)]; rfl

set_option maxHeartbeats 8000000 in
theorem add_cal (w : World) (mean : ExcName → Option Value) (mg mb : Str → Option Value) (l1 l2 : Addr) (vs1 vs2 : List Value) (n1 n2 : Nat) (ns1 ns2 : List Int) (hi1 : IntsAre vs1 ns1) (hi2 : IntsAre vs2 ns2) (hlen1 : ns1.length < 100) (hlen2 : ns2.length < 100)
    (ww : Int) (t : Tok) (hw : 5 ≤ ww ∧ ww ≤ 8) (hb : ∀ k, 0 ≤ ns1.getD k 0 + ns2.getD k 0 ∧ ns1.getD k 0 + ns2.getD k 0 < 32) :
    Cal w mean mg mb 1 28 [.ref l1, .ref l2, .int ww t] [(l1, listOf vs1.toArray n1), (l2, listOf vs2.toArray n2)] (fun r H h' => h'.get? l1 = some (listOf vs1.toArray n1) ∧ h'.get? l2 = some (listOf vs2.toArray n2) ∧ ∃ ra rs, r = .ref ra ∧ Ints h' ra rs ∧
      rs.length = max ns1.length ns2.length ∧ (∀ k, rs.getD k 0 = ns1.getD k 0 + ns2.getD k 0) ∧ H.get? ra = none) := by
  unfold Cal
  w_on
  w_top off
  k_fill
  intro dp un gd cn cs a ccd cl outer A₀ base h₀ L m s Q E B F X N T hk hd hu hret
  k_with_none
  refine wpAny_call ?_
  k_dflt (refine' code_defG ?k1 ?k2 ?k3 ?k4 ?k5 ?kA ?kF ?kK ?k6 ?k7 ?k8 ?k9 ?kB ?_ ?c2 ?c3 ?c4 ?c5; (case kA => exact rfl); (case kF => exact rfl); (case kK => assumption); (case k1 => k_asm); (case k2 => k_asm); (case k3 => k_asm); (case k4 => k_asm); (case k5 => k_asm); (case k6 => k_is); (case k7 => k_is); (case k8 => ktr_room); (case k9 => exact BindsTo.of_eq rfl); (case c5 => decide); (case kB => exact locs rfl); (case c2 => exact rfl); (case c3 => exact rfl); (case c4 => exact rfl); k_whole; intro g1 L1 h1 FG F1 N1 B1 X1 T1 G1; (try dsimp only); (try k_fold))
  k_with "pyIter ref" => k_state (fun pre carry found => carry = 0 ∧ found.length = pre.length ∧ ∀ k, k < found.length → found.getD k 0 = ns1.getD k 0 + ns2.getD k 0) "carry" "found"
  k_with "pyIter ref" => (rename (List.length _ = List.length (rangeKs _ _)) => hz); k_state (fun pre carry found => carry = 0 ∧ found.length = min ns1.length ns2.length + pre.length ∧ ∀ k, k < found.length → found.getD k 0 = ns1.getD k 0 + ns2.getD k 0) "carry" "found"
  k_with "state" => first
    | exact ⟨rfl, rfl, fun k h => absurd h (Nat.not_lt_zero _)⟩
    | exact ⟨by assumption, add_mid1 (by assumption) (by omega), by assumption⟩
    | exact ⟨by assumption, add_mid2 (by assumption) (by omega), by assumption⟩
    | exact add_step (by omega) (by assumption) (add_xa (by omega)) hb (by assumption) (by (simp only [List.length_append, List.length_cons, List.length_nil]; omega))
    | exact add_step (by omega) (by assumption) (add_xb (by omega)) hb (by assumption) (by (simp only [List.length_append, List.length_cons, List.length_nil]; omega))
    | exact add_step (by omega) (by assumption) (add_xc (by omega) (by omega)) hb (by assumption) (by (simp only [List.length_append, List.length_cons, List.length_nil]; omega))
    | exact add_step (by omega) (by assumption) (add_xd (by omega) (by omega)) hb (by assumption) (by (simp only [List.length_append, List.length_cons, List.length_nil]; omega))
  k_steps
  all_goals
    have hN := (by assumption : News g1 L1 _ _)
    have hl := (by assumption : List.length _ = min _ _ + List.length (rangeKs _ _))
    rw [rangeKs_length] at hl
    exact hret _ _ _ (by assumption) (keepOf (by assumption) G1) ⟨hN.get (by kst_entry), hN.get (by kst_entry), _, _, rfl, ⟨_, _, hN.get (by kst_entry), by assumption⟩, by omega, add_end (by omega) (by assumption), freshOf hN G1 (by kst_entry) (notMem2 (by k_ne) (by k_ne))⟩
end Mine
end PartXAdd

section PartXMul
open PySem PySem.W PyProof.Rows PySem.Calls
namespace Mine
set_option maxHeartbeats 8000000 in
theorem mul_cal (w : World) (mean : ExcName → Option Value) (mg mb : Str → Option Value) (l1 l2 : Addr) (vs1 vs2 : List Value) (n1 n2 : Nat) (ns1 ns2 : List Int) (hi1 : IntsAre vs1 ns1) (hi2 : IntsAre vs2 ns2) (hlen1 : ns1.length < 16) (hlen2 : ns2.length < 16)
    (ww : Int) (t : Tok) (hw : 5 ≤ ww ∧ ww ≤ 8) (hb1 : ∀ k, 0 ≤ ns1.getD k 0 ∧ ns1.getD k 0 ≤ 1) (hb2 : ∀ k, 0 ≤ ns2.getD k 0 ∧ ns2.getD k 0 ≤ 1) :
    Cal w mean mg mb 2 42 [.ref l1, .ref l2, .int ww t] [(l1, listOf vs1.toArray n1), (l2, listOf vs2.toArray n2)] (fun r H h' => h'.get? l1 = some (listOf vs1.toArray n1) ∧ h'.get? l2 = some (listOf vs2.toArray n2) ∧ ∃ ra rs, r = .ref ra ∧ Ints h' ra rs ∧
      rs.length ≤ ns1.length + ns2.length ∧ (∀ k, rs.getD k 0 = convI ns1 ns2 ns1.length k) ∧ H.get? ra = none) := by
  unfold Cal
  w_on
  w_top off
  k_fill
  intro dp un gd cn cs a ccd cl outer A₀ base h₀ L m s Q E B F X N T hk hd hu hret
  k_with_none
  refine wpAny_call ?_
  k_dflt (refine' code_defG ?k1 ?k2 ?k3 ?k4 ?k5 ?kA ?kF ?kK ?k6 ?k7 ?k8 ?k9 ?kB ?_ ?c2 ?c3 ?c4 ?c5; (case kA => exact rfl); (case kF => exact rfl); (case kK => assumption); (case k1 => k_asm); (case k2 => k_asm); (case k3 => k_asm); (case k4 => k_asm); (case k5 => k_asm); (case k6 => k_is); (case k7 => k_is); (case k8 => ktr_room); (case k9 => exact BindsTo.of_eq rfl); (case c5 => decide); (case kB => exact locs rfl); (case c2 => exact rfl); (case c3 => exact rfl); (case c4 => exact rfl); k_whole; intro g1 L1 h1 FG F1 N1 B1 X1 T1 G1; (try dsimp only); (try k_fold))
  k_with "exec For Tuple Call cons nil" => (k_here; (rename Fr _ _ _ _ => lF'); (with_unfolding_all refine' For_turns lF' ?_; k_whole))
  k_steps
  rename_i fa _ hI0 _ _ hlen0 _ _ _ _ _ _ _ _ _ hN0
  refine enum_loop (σ := List Value × List Int × Nat) (fun c => [(fa, listOf c.1.toArray c.2.2), (l1, listOf vs1.toArray n1), (l2, listOf vs2.toArray n2)]) (fun _ => [])
    (fun i c => IntsAre c.1 c.2.1 ∧ c.2.1.length = ns1.length + ns2.length ∧ ∀ k, c.2.1.getD k 0 = convI ns1 ns2 i k)
    [Str.ofString "at", Str.ofString "limb", Str.ofString "carry", Str.ofString "spot", Str.ofString "other"] ((List.replicate ((ns1.length : Int) + ns2.length).toNat [Value.int 0 _]).flatten, (List.replicate ((ns1.length : Int) + ns2.length).toNat [0]).flatten, 0)
    rfl (fun c => .tail _ (.head _)) (fun _ _ => rfl) hi1 (by assumption) (kst_newsOf hN0 (by kst_inAny)) (by kst_all) ⟨hI0, by (dsimp only; omega), conv_start⟩ ?_ ?_
  · rintro I oe oi ⟨fv, fi, fn⟩ i x tx t' T u h tk hI hx ⟨hf1, hf2, hf3⟩ hT FT NT
    dsimp only [kstB] at FT
    dsimp only at hf1 hf2 hf3 NT hI
    k_lt hI
    have hil : i < ns1.length := (List.getElem?_eq_some_iff.mp hx).1
    have hxv : x = ns1.getD i 0 := by rw [List.getD_eq_getElem?_getD, hx]; rfl
    have hx01 := hb1 i
    rw [← hxv] at hx01
    (try k_fold)
    k_steps
    rename News _ _ _ _ => hN1
    refine enum_loop (σ := List Value × List Int × Nat × Int × Tok) (fun c => [(I + 1, oe), (I, oi), (fa, listOf c.1.toArray c.2.2.1), (l1, listOf vs1.toArray n1), (l2, listOf vs2.toArray n2)]) (fun c => [(Str.ofString "carry", .int c.2.2.2.1 c.2.2.2.2)])
      (fun j c => IntsAre c.1 c.2.1 ∧ c.2.2.2.1 = 0 ∧ c.2.1.length = ns1.length + ns2.length ∧ ∀ k, c.2.1.getD k 0 = convP ns1 ns2 i j k)
      [Str.ofString "spot", Str.ofString "other"] (fv, fi, fn, 0, _)
      rfl (fun c => .tail _ (.tail _ (.tail _ (.tail _ (.head _))))) (fun _ _ => rfl) hi2 (by assumption) (kst_newsOf hN1 (by kst_inAny)) (by kst_all) ⟨hf1, rfl, hf2, fun k => (hf3 k).trans convP_zero⟩ ?_ ?_
    · rintro J oe' oi' ⟨gv, gi, gn, gc, gt⟩ j y ty t'' T' u' h' tk' hJ hy ⟨hg1, hg0, hg2, hg3⟩ hT' FT' NT'
      dsimp only [kstB] at FT'
      dsimp only at hg0 hg1 hg2 hg3 NT' hJ
      k_lt hJ
      have hjl : j < ns2.length := (List.getElem?_eq_some_iff.mp hy).1
      have hyv : y = ns2.getD j 0 := by rw [List.getD_eq_getElem?_getD, hy]; rfl
      have hy01 := hb2 j
      rw [← hyv] at hy01
      (try k_fold)
      k_steps
      rename News _ _ _ _ => hN2
      refine ⟨_, _, _, _, rfl, by assumption, hN2, by kst_entry, by kst_entry, (_, _, _, _, _), by kst_inAny, by kst_all, ?_, by assumption, inner_step hb1 hb2 hlen1 (by omega) hil hjl hxv hyv hg0 hg2 hg3⟩
      ksw_same
    · rintro ⟨gv, gi, gn, gc, gt⟩ u' h' tk' ⟨hg1, hg0, hg2, hg3⟩ FT' NT'
      dsimp only [kstB] at FT'
      dsimp only at hg0 hg1 hg2 hg3 NT'
      (try k_fold)
      k_steps
      rename News _ _ _ _ => hN2
      refine ⟨_, _, _, _, rfl, by assumption, hN2, by kst_entry, by kst_entry, (_, _, _), by kst_inAny, by kst_all, ?_, by assumption, outer_step hil hg0 hg2 hg3⟩
      ksw_same
  · rintro ⟨fv, fi, fn⟩ u h tk ⟨hf1, hf2, hf3⟩ FT NT
    dsimp only [kstB] at FT
    dsimp only at hf1 hf2 hf3 NT
    (try k_fold)
    k_steps
    (k_dflt (refine' (normal_cal w mean mg mb fa fv fn fi hf1 (by omega)).use ?B ?F ?X ?N ?T ?k ?d ?u ?_))
    case B => k_asm
    case F => k_asm
    case X => k_asm
    case N => exact kst_newsOf (by assumption) (by kst_inAny)
    case T => k_asm
    case k => exact rfl
    case d => ktr_room
    case u => ktr_units
    intro r h' tk' Fn Kn hP
    obtain ⟨hl', ra, rs, rfl, ⟨wv, wn, hra, hwi⟩, hlen', hget, hfr⟩ := hP
    have N3 := newsAdd (by assumption) NT (newsSame1 NT (.head _) Kn hl') hra hfr
    obtain ⟨N3, hne⟩ := N3
    (try dsimp only)
    (try k_fold)
    k_steps
    exact hret _ _ _ (by assumption) (keepOf Fn G1) ⟨N3.get (by kst_entry), N3.get (by kst_entry), _, _, rfl, ⟨_, _, hra, hwi⟩, by omega, fun k => (hget k).trans (hf3 k), freshOf N3 G1 (.head _) (notMem2 (Ne.symm (hne (l1, listOf vs1.toArray n1) (.tail _ (.head _)))) (Ne.symm (hne (l2, listOf vs2.toArray n2) (.tail _ (.tail _ (.head _))))))⟩
end Mine
end PartXMul

section PartXSplit
open PySem PySem.W PyProof.Rows PySem.Calls
namespace Mine
set_option maxHeartbeats 8000000 in
theorem split_cal (w : World) (mean : ExcName → Option Value) (mg mb : Str → Option Value) (l : Addr) (vs : List Value) (n : Nat) (ns : List Int) (hi : IntsAre vs ns) (hlen : ns.length < 100) (p : Nat) (t : Tok) :
    Cal w mean mg mb 2 35 [.ref l, .int p t] [(l, listOf vs.toArray n)] (fun r H h' => h'.get? l = some (listOf vs.toArray n) ∧ ∃ T ra rb rs, r = .ref T ∧ h'.get? T = some { cls := .type "tuple", data := .seq #[.ref ra, .ref rb] } ∧ Ints h' ra rs ∧ Ints h' rb (ns.drop p) ∧
      rs.length ≤ p ∧ (∀ k, rs.getD k 0 = (ns.take p).getD k 0) ∧ H.get? T = none ∧ H.get? ra = none ∧ H.get? rb = none) := by
  unfold Cal
  w_on
  w_top off
  k_fill
  intro dp un gd cn cs a ccd cl outer A₀ base h₀ L m s Q E B F X N T hk hd hu hret
  k_with_none
  refine wpAny_call ?_
  k_dflt (refine' code_defG ?k1 ?k2 ?k3 ?k4 ?k5 ?kA ?kF ?kK ?k6 ?k7 ?k8 ?k9 ?kB ?_ ?c2 ?c3 ?c4 ?c5; (case kA => exact rfl); (case kF => exact rfl); (case kK => assumption); (case k1 => k_asm); (case k2 => k_asm); (case k3 => k_asm); (case k4 => k_asm); (case k5 => k_asm); (case k6 => k_is); (case k7 => k_is); (case k8 => ktr_room); (case k9 => exact BindsTo.of_eq rfl); (case c5 => decide); (case kB => exact locs rfl); (case c2 => exact rfl); (case c3 => exact rfl); (case c4 => exact rfl); k_whole; intro g1 L1 h1 FG F1 N1 B1 X1 T1 G1; (try dsimp only); (try k_fold))
  have hp0 : (0 : Int) ≤ (p : Int) := Int.natCast_nonneg p
  k_steps
  rename_i da wv0 _ hF0 hN0 hI0 hC0 _ hlt
  have etn : ((p : Int)).toNat = p := Int.toNat_natCast p
  rw [etn] at hI0 hC0
  (k_dflt (refine' (normal_cal w mean mg mb da wv0 0 _ hI0 (by omega)).use ?B ?F ?X ?N ?T ?k ?d ?u ?_))
  case B => k_asm
  case F => k_asm
  case X => k_asm
  case N => exact kst_newsOf hN0 (by kst_inAny)
  case T => k_asm
  case k => exact rfl
  case d => ktr_room
  case u => ktr_units
  intro r h' tk' Fn Kn hP
  obtain ⟨hl', ra, rs, rfl, ⟨wv, wn, hra, hwi⟩, hlen', hget, hfr⟩ := hP
  obtain ⟨N3, hne⟩ := newsAdd hF0 hN0 (newsSame1 hN0 (.head _) Kn hl') hra hfr
  (try dsimp only)
  (try k_fold)
  k_steps
  rename_i db _ _ hIb _ _ _ T9 _ hF9 hN9 _ _ _ _ _
  have hlp : rs.length ≤ p := by omega
  rw [etn] at hIb
  exact hret _ _ _ (by assumption) (keepOf hF9 G1) ⟨hN9.get (by kst_entry), T9, ra, db, rs, rfl, hN9.get (.head _), ⟨_, _, hN9.get (by kst_entry), hwi⟩, ⟨_, _, hN9.get (by kst_entry), hIb⟩, hlp, hget,
    freshOf hN9 G1 (.head _) (notMem1 (by k_ne)), freshOf hN9 G1 (.tail _ (.tail _ (.head _))) (notMem1 (Ne.symm (hne (l, listOf vs.toArray n) (.tail _ (.head _))))), freshOf hN9 G1 (.tail _ (.head _)) (notMem1 (by k_ne))⟩
end Mine
end PartXSplit

section PartXNext
open PySem PySem.W PyProof.Rows PySem.Calls
namespace Mine
set_option maxHeartbeats 8000000 in
theorem next_cal (w : World) (mean : ExcName → Option Value) (mg mb : Str → Option Value) (y q : Nat) (hyq : q ≠ y) (c : Int) (tc : Tok) (n nq : Nat) (vs : List Value) (ns : List Int) (hi : IntsAre vs ns) (hlen : ns.length < 100) (hc0 : 0 ≤ c) (hc1 : c < 100)
    (many : Int) (t : Tok) (hm : 0 < many) (hm2 : many < 10000) :
    Cal w mean mg mb 1 49 [.ref y, .int many t] [(y, listOf #[.int c tc, .ref q] n), (q, listOf vs.toArray nq)] (fun r _ h' => h'.get? q = some (listOf vs.toArray nq) ∧ ∃ v tv tc', r = .int v tv ∧ 0 ≤ v ∧ v < many ∧ h'.get? y = some (listOf #[.int (c + 1) tc', .ref q] n)) := by
  unfold Cal
  w_on
  w_top off
  k_fill
  intro dp un gd cn cs a ccd cl outer A₀ base h₀ L m s Q E B F X N T hk hd hu hret
  k_with_none
  refine wpAny_call ?_
  k_dflt (refine' code_defG ?k1 ?k2 ?k3 ?k4 ?k5 ?kA ?kF ?kK ?k6 ?k7 ?k8 ?k9 ?kB ?_ ?c2 ?c3 ?c4 ?c5; (case kA => exact rfl); (case kF => exact rfl); (case kK => assumption); (case k1 => k_asm); (case k2 => k_asm); (case k3 => k_asm); (case k4 => k_asm); (case k5 => k_asm); (case k6 => k_is); (case k7 => k_is); (case k8 => ktr_room); (case k9 => exact BindsTo.of_eq rfl); (case c5 => decide); (case kB => exact locs rfl); (case c2 => exact rfl); (case c3 => exact rfl); (case c4 => exact rfl); k_whole; intro g1 L1 h1 FG F1 N1 B1 X1 T1 G1; (try dsimp only); (try k_fold))
  k_steps
  all_goals
    have hN := (by assumption : News g1 L1 _ [(y, listOf #[.int (c + 1) _, .ref q] n), _])
    exact hret _ _ _ (by assumption) (keepOf (by assumption) G1) ⟨hN.get (.tail _ (.head _)), _, _, _, rfl, Int.fmod_nonneg_of_pos _ hm, Int.fmod_lt_of_pos _ hm, hN.get (.head _)⟩
end Mine
end PartXNext

section PartXRow
open PySem PySem.W PyProof.Rows PySem.Calls
namespace Mine
section
variable {prog : Program} {w : World} {A₀ A : Around} {s : Shared} {base h₀ : Heap} {outer : List Env} {L : Addr} {m : Str → Option Value} {env : Env} {news : List (Addr × Obj)}
/-- a call of a def whose frame has cells: what it does not touch stays (GSub) -/
theorem enterC {K : Frag} {p : Program} {loose : List Str} {mean : ExcName → Option Value} {mg mb : Str → Option Value} {R : Result → Shared → Prop} {name qual : Str} {params : Arguments} {body : List Stmt} {scope : Scope} {dV kV doc pm cdv ct oc : Value} {an od : Option Addr} {osl : Array (Option Value)} {f : Addr} {args : Args} {binds : List (Str × Value)}
    (B : Below A₀ base outer h₀) (F : Fr h₀ L s.heap m) (X₀ : K.In h₀) (N : News h₀ L s.heap news) (T : Top p loose mean mg mb h₀) (hA : A.frames = some (env :: outer)) (hf : env.frame = some L) (hke : env.scope.kind = .function)
    (ho : K.lookup f = some ⟨oc, od, .func (fnOf name qual params body scope dV kV doc pm an cdv ct), osl⟩) (hcd : codeIn K cdv qual = true) (hroom : A.depth < recursionLimit)
    (hbind : BindsTo s (fnOf name qual params body scope dV kV doc pm an cdv ct) args binds) (hkind : (binds.all fun y => scope.names.lookup y.1 == some .local || scope.names.lookup y.1 == some .cell) = true)
    (hnd : ((cellsFrom 0 scope.names []).map (·.1)).Nodup)
    (h : ∀ g L' h₁ tk cells, Fr h₀ L g m → Fr g L' h₁ (bindL (envOfC qual scope L' f cdv).kindOf binds fun _ => none) → News g L' h₁ (cells ++ news) →
      CellsAre (bindC (envOfC qual scope L' f cdv).kindOf binds fun _ => none) (cellsFrom (L' + 1) scope.names []) cells → Below A base (env :: outer) g → K.In g → Top p loose mean mg mb g → (∀ p ∈ news, p.1 < L') → GSub s.heap g (news.map (·.1)) →
      wpAny (model prog w) (A.deeper (envOfC qual scope L' f cdv)) (execs body (envOfC qual scope L' f cdv))
        (fun fl s' => LeaveK h₀ L m g R (match fl with | .ret v => v | _ => .none) s')
        (fun e s' => wpAny (model prog w) (A.deeper (envOfC qual scope L' f cdv)) (leaving (envOfC qual scope L' f cdv) e) (fun _ s'' => R (.error e) s'') (fun e' s'' => R (.error e') s'') s')
        { s with heap := h₁, toks := tk })
    (hco : scope.isCoroutine = false) (hgen : scope.isGenerator = false) (hk : scope.kind = .function) : codeAny (model prog w) A (.call (.ref f) args) R s := by
  have XF := X₀.keeps F.keep
  obtain ⟨FG, BG, st, back⟩ := groundX (R := R) B F N hA hf hke
  refine codeAny_call_function hroom (XF _ _ ho) rfl hco hgen rfl (codeRec_of XF hcd) (hbind _ _ _ _ ?_)
  refine wpAny_newFunctionEnv_cells hk (kindsX hkind _) fun env' he s' x => ?_
  subst he
  refine ⟨(T.nolimit.keeps F.keep).keeps x.toInCall.keep, codeAny_func ?_⟩
  obtain ⟨h₁, tk, rfl, _⟩ := x.done
  have kp := x.toInCall.keep
  have nd : ((cellsFrom (s.heap.objs.size + 1) scope.names []).map (·.1)).Nodup := cellsFrom_names scope.names 0 (s.heap.objs.size + 1) [] [] rfl ▸ hnd
  obtain ⟨cells, NC, Y⟩ := Cl.news (h₀ := s.heap) (Nat.le_refl _) fun n c hm => ⟨x.cell n c (lookup_of_mem_nodup nd hm), x.above n c hm⟩
  have NN : News (hideAll s.heap (news.map (·.1))) s.heap.objs.size h₁ (cells ++ news) := fun p hp => by
    rcases List.mem_append.mp hp with q | q
    · refine ⟨(NC p q).1, (NC p q).2.1, ?_⟩
      cases e : (hideAll s.heap (news.map (·.1))).get? p.1 with
      | none => rfl
      | some o => have e' := of_hideAll _ e; rw [(NC p q).2.2] at e'; cases e'
    · exact ⟨kp _ _ (N p q).1, Nat.ne_of_lt (Heap.lt_size (N p q).1), hideAll_none _ (List.mem_map_of_mem q)⟩
  refine wpAny_mono (h _ s.heap.objs.size h₁ tk cells FG ⟨x.toInCall.ns, fun b o e => kp b o (of_hideAll _ e), Nat.le_of_eq (hideAll_size _ _)⟩ NN Y BG (X₀.keeps st) (T.keeps st) (fun p hp => Heap.lt_size (N p hp).1) fun b o e n => hideAll_get _ e n) (fun fl s' hl => back _ _ hl) fun _ _ y => y
end

theorem row_pure {ns : List Int} {M : Int} (hb : ∀ x ∈ ns, 0 ≤ x ∧ x < 13) (hM : M ∈ ns) (hMx : ∀ a, a ∈ ns → a ≤ M) :
    (∀ p : Nat, (∀ x ∈ ns, x < (p : Int)) → ((rangeKs 0 (M + 1 - 0).toNat).map fun k' => if (ns.any fun x => x == k') = true then (1 : Int) else 0).length ≤ p) ∧
    ∀ k : Nat, ((rangeKs 0 (M + 1 - 0).toNat).map fun k' => if (ns.any fun x => x == k') = true then (1 : Int) else 0).getD k 0 = if (ns.any fun x => x == (k : Int)) = true then 1 else 0 := by
  have h0 := hb M hM
  refine ⟨fun p hp => ?_, fun k => ?_⟩
  · have := hp M hM
    rw [List.length_map, rangeKs_length]; omega
  · by_cases hk : k < (M + 1 - 0).toNat
    · rw [List.getD_eq_getElem?_getD]
      have hk' : k < (M + 1).toNat := by omega
      simp [rangeKs, List.getElem?_range hk']
    · rw [List.getD_eq_getElem?_getD, List.getElem?_eq_none (by rw [List.length_map, rangeKs_length]; omega), if_neg]
      · rfl
      · intro h
        obtain ⟨x, hx, e⟩ := List.any_eq_true.mp h
        have e' : x = (k : Int) := by simpa using e
        have := hMx x hx
        omega

set_option maxHeartbeats 8000000 in
theorem row_cal (w : World) (mean : ExcName → Option Value) (mg mb : Str → Option Value) (l : Addr) (vs : List Value) (n : Nat) (ns : List Int) (hi : IntsAre vs ns) (hlen : ns.length < 100) (hne : 0 < ns.length) (hb : ∀ x ∈ ns, 0 ≤ x ∧ x < 13) :
    Cal w mean mg mb 1 54 [.ref l] [(l, listOf vs.toArray n)] (fun r H h' => h'.get? l = some (listOf vs.toArray n) ∧ ∃ ra rs, r = .ref ra ∧ Ints h' ra rs ∧ (∀ p : Nat, (∀ x ∈ ns, x < (p : Int)) → rs.length ≤ p) ∧ (∀ k : Nat, rs.getD k 0 = if (ns.any fun x => x == (k : Int)) = true then 1 else 0) ∧ H.get? ra = none) := by
  unfold Cal
  w_on
  w_top off
  k_fill
  intro dp un gd cn cs a ccd cl outer A₀ base h₀ L m s Q E B F X N T hk hd hu hret
  k_with_none
  refine wpAny_call ?_
  k_dflt (refine' enterC ?k1 ?k2 ?k3 ?k4 ?k5 ?kA ?kF ?kK ?k6 ?k7 ?k8 ?k9 ?kB ?kD ?_ ?c2 ?c3 ?c4; (case kA => exact rfl); (case kF => exact rfl); (case kK => assumption); (case k1 => k_asm); (case k2 => k_asm); (case k3 => k_asm); (case k4 => k_asm); (case k5 => k_asm); (case k6 => k_is); (case k7 => k_is); (case k8 => ktr_room); (case k9 => exact BindsTo.of_eq rfl); (case kB => exact rfl); (case kD => decide +kernel); (case c2 => exact rfl); (case c3 => exact rfl); (case c4 => exact rfl); k_whole; intro g1 L1 h1 tk1 cells1 FG F1 N1 Y1 B1 X1 T1 hlt1 G1; (try k_lt hlt1); k_cells Y1; (try simp only [List.cons_append, List.nil_append] at N1); (try dsimp only); (try k_fold))
  k_steps
  rename_i M _ _ _ _ hM hMx _ _ _ _ _ _ _ _ _
  have hM2 := hb M hM
  obtain ⟨hM0, hM13⟩ := hM2
  k_steps
  rename_i hI8 _ D8 _ _ hF8 hN8 hd8 _ _ _ _
  have hp := row_pure hb hM hMx
  exact hret _ _ _ (by assumption) (keepOf hF8 G1) ⟨hN8.get (by kst_entry), D8, _, rfl, ⟨_, _, hN8.get (.head _), hI8⟩, hp.1, hp.2, freshOf hN8 G1 (.head _) (notMem1 (by k_ne))⟩
end Mine
end PartXRow

section PartXCount
open PySem PySem.W PyProof.Rows PySem.Calls
namespace Mine
def cnt1 (x : Int) (ys : List Int) (p : Int) (k : Nat) : Int := (ys.map fun y => if (x + y).fmod p = (k : Int) then (1 : Int) else 0).sum
def cntL (xs ys : List Int) (p : Int) (k : Nat) : Int := (xs.map fun x => cnt1 x ys p k).sum

theorem take_succ {ns : List Int} {i : Nat} {x : Int} (h : ns[i]? = some x) : ns.take (i + 1) = ns.take i ++ [x] := by
  rw [List.take_add_one, h]; rfl
theorem cnt1_step {x y p : Int} {ys : List Int} {j : Nat} (k : Nat) (h : ys[j]? = some y) : cnt1 x (ys.take (j + 1)) p k = cnt1 x (ys.take j) p k + (if (x + y).fmod p = (k : Int) then 1 else 0) := by
  unfold cnt1
  rw [take_succ h, List.map_append, List.sum_append]
  simp
theorem cntL_step {x p : Int} {xs ys : List Int} {i : Nat} (k : Nat) (h : xs[i]? = some x) : cntL (xs.take (i + 1)) ys p k = cntL (xs.take i) ys p k + cnt1 x ys p k := by
  unfold cntL
  rw [take_succ h, List.map_append, List.sum_append]
  simp

theorem count_step {x y p : Int} {xs ys fi : List Int} {i j : Nat} (hp : 0 < p) (hy : ys[j]? = some y) (hl : (fi.length : Int) = p) (hf : ∀ k, k < fi.length → fi.getD k 0 = cntL (xs.take i) ys p k + cnt1 x (ys.take j) p k) :
    ((fi.set ((x + y).fmod p).toNat (fi.getD ((x + y).fmod p).toNat 0 + 1)).length : Int) = p ∧
      ∀ k, k < (fi.set ((x + y).fmod p).toNat (fi.getD ((x + y).fmod p).toNat 0 + 1)).length → (fi.set ((x + y).fmod p).toNat (fi.getD ((x + y).fmod p).toNat 0 + 1)).getD k 0 = cntL (xs.take i) ys p k + cnt1 x (ys.take (j + 1)) p k := by
  have h0 := Int.fmod_nonneg_of_pos (x + y) hp
  have h1 := Int.fmod_lt_of_pos (x + y) hp
  refine ⟨by rw [List.length_set]; exact hl, fun k hk => ?_⟩
  rw [List.length_set] at hk
  rw [getD_set (by omega), cnt1_step k hy]
  by_cases h : k = ((x + y).fmod p).toNat
  · rw [if_pos h, ← h, hf k hk, if_pos (by omega)]; omega
  · rw [if_neg h, hf k hk, if_neg (by omega)]; omega

set_option maxHeartbeats 8000000 in
theorem counted_cal (w : World) (mean : ExcName → Option Value) (mg mb : Str → Option Value) (l1 l2 : Addr) (vs1 vs2 : List Value) (n1 n2 : Nat) (ns1 ns2 : List Int) (hi1 : IntsAre vs1 ns1) (hi2 : IntsAre vs2 ns2) (hlen1 : ns1.length < 100) (hlen2 : ns2.length < 100)
    (p : Int) (t : Tok) (hp : 5 ≤ p ∧ p ≤ 13) :
    Cal w mean mg mb 1 68 [.ref l1, .ref l2, .int p t] [(l1, listOf vs1.toArray n1), (l2, listOf vs2.toArray n2)] (fun r H h' => h'.get? l1 = some (listOf vs1.toArray n1) ∧ h'.get? l2 = some (listOf vs2.toArray n2) ∧ ∃ ra rs, r = .ref ra ∧ Ints h' ra rs ∧
      (rs.length : Int) = p ∧ (∀ k, k < rs.length → rs.getD k 0 = cntL ns1 ns2 p k) ∧ H.get? ra = none) := by
  unfold Cal
  w_on
  w_top off
  k_fill
  intro dp un gd cn cs a ccd cl outer A₀ base h₀ L m s Q E B F X N T hk hd hu hret
  k_with_none
  refine wpAny_call ?_
  k_dflt (refine' code_defG ?k1 ?k2 ?k3 ?k4 ?k5 ?kA ?kF ?kK ?k6 ?k7 ?k8 ?k9 ?kB ?_ ?c2 ?c3 ?c4 ?c5; (case kA => exact rfl); (case kF => exact rfl); (case kK => assumption); (case k1 => k_asm); (case k2 => k_asm); (case k3 => k_asm); (case k4 => k_asm); (case k5 => k_asm); (case k6 => k_is); (case k7 => k_is); (case k8 => ktr_room); (case k9 => exact BindsTo.of_eq rfl); (case c5 => decide); (case kB => exact locs rfl); (case c2 => exact rfl); (case c3 => exact rfl); (case c4 => exact rfl); k_whole; intro g1 L1 h1 FG F1 N1 B1 X1 T1 G1; (try dsimp only); (try k_fold))
  have hp0 : 0 < p := by omega
  k_with "exec For Name Name cons nil" => (k_here; (rename Fr _ _ _ _ => lF'); (with_unfolding_all refine' For_turns lF' ?_; k_whole))
  k_steps
  rename_i fa _ hI0 _ _ hlen0 _ h30 _ _ hN0
  refine list_loop (σ := List Value × List Int × Nat) (fun c => [(fa, listOf c.1.toArray c.2.2), (l1, listOf vs1.toArray n1), (l2, listOf vs2.toArray n2)]) (fun _ => [])
    (fun i c => IntsAre c.1 c.2.1 ∧ (c.2.1.length : Int) = p ∧ ∀ k, k < c.2.1.length → c.2.1.getD k 0 = cntL (ns1.take i) ns2 p k)
    [Str.ofString "first", Str.ofString "second", Str.ofString "at"] (_, (List.replicate p.toNat [0]).flatten, 0)
    rfl (fun c => .tail _ (.head _)) (fun _ _ => rfl) hi1 (by assumption) (kst_newsOf hN0 (by kst_inAny)) (by kst_all) ⟨hI0, by (dsimp only; omega), fun k _ => (conv_start (a := []) (b := []) k).trans rfl⟩ ?_ ?_
  · rintro I oi ⟨fv, fi, fn⟩ i x tx u h tk hI hx ⟨hf1, hf2, hf3⟩ FT NT
    dsimp only [kstB] at FT
    dsimp only at hf1 hf2 hf3 NT hI
    k_lt hI
    (try k_fold)
    k_steps
    rename News _ _ _ _ => hN1
    refine list_loop (σ := List Value × List Int × Nat) (fun c => [(I, oi), (fa, listOf c.1.toArray c.2.2), (l1, listOf vs1.toArray n1), (l2, listOf vs2.toArray n2)]) (fun _ => [])
      (fun j c => IntsAre c.1 c.2.1 ∧ (c.2.1.length : Int) = p ∧ ∀ k, k < c.2.1.length → c.2.1.getD k 0 = cntL (ns1.take i) ns2 p k + cnt1 x (ns2.take j) p k)
      [Str.ofString "second", Str.ofString "at"] (fv, fi, fn)
      rfl (fun c => .tail _ (.tail _ (.tail _ (.head _)))) (fun _ _ => rfl) hi2 (by assumption) (kst_newsOf hN1 (by kst_inAny)) (by kst_all) ⟨hf1, hf2, fun k hk => (hf3 k hk).trans (Int.add_zero _).symm⟩ ?_ ?_
    · rintro J oi' ⟨gv, gi, gn⟩ j y ty u' h' tk' hJ hy ⟨hg1, hg2, hg3⟩ FT' NT'
      dsimp only [kstB] at FT'
      dsimp only at hg1 hg2 hg3 NT' hJ
      k_lt hJ
      have hm0 := Int.fmod_nonneg_of_pos (x + y) hp0
      have hm1 := Int.fmod_lt_of_pos (x + y) hp0
      (try k_fold)
      k_steps
      rename News _ _ _ _ => hN2
      refine ⟨_, _, _, _, rfl, by assumption, hN2, by kst_entry, (_, _, _), by kst_inAny, by kst_all, ?_, by assumption, count_step hp0 hy hg2 hg3⟩
      ksw_same
    · rintro ⟨gv, gi, gn⟩ u' h' tk' ⟨hg1, hg2, hg3⟩ FT' NT'
      dsimp only [kstB] at FT'
      dsimp only at hg1 hg2 hg3 NT'
      (try k_fold)
      k_steps
      rename News _ _ _ _ => hN2
      refine ⟨_, _, _, _, rfl, by assumption, hN2, by kst_entry, (_, _, _), by kst_inAny, by kst_all, ?_, hg1, hg2, fun k hk => (hg3 k hk).trans ?_⟩
      · ksw_same
      · rw [List.take_length, cntL_step k hx]
  · rintro ⟨fv, fi, fn⟩ u h tk ⟨hf1, hf2, hf3⟩ FT NT
    dsimp only [kstB] at FT
    dsimp only at hf1 hf2 hf3 NT
    rw [List.take_length] at hf3
    (try k_fold)
    k_steps
    exact hret _ _ _ (by assumption) (keepOf FT G1) ⟨NT.get (by kst_entry), NT.get (by kst_entry), fa, fi, rfl, ⟨_, _, NT.get (.head _), hf1⟩, hf2, hf3, freshOf NT G1 (.head _) (notMem2 (by k_ne) (by k_ne))⟩
end Mine
end PartXCount

section PartXWays
open PySem PySem.W PyProof.Rows PySem.Calls
namespace Mine
theorem ways_bound {hs rs : List Int} {f : Nat → Int} {p n : Nat} (hh : ∀ k, hs.getD k 0 = (rs.take p).getD k 0) (hr : ∀ k, rs.getD k 0 = f k) (hf : ∀ k, 0 ≤ f k ∧ f k ≤ (n : Int)) (hn : n ≤ 15) :
    ∀ k, 0 ≤ hs.getD k 0 + (rs.drop p).getD k 0 ∧ hs.getD k 0 + (rs.drop p).getD k 0 < 32 := by
  intro k
  have h1 : 0 ≤ hs.getD k 0 ∧ hs.getD k 0 ≤ (n : Int) := by
    rw [hh k]
    by_cases hk : k < p
    · have e : (rs.take p).getD k 0 = rs.getD k 0 := by
        rw [List.getD_eq_getElem?_getD, List.getD_eq_getElem?_getD, List.getElem?_take_of_lt hk]
      rw [e, hr]; exact hf k
    · rw [getD_outI (by rw [List.length_take]; omega)]; omega
  have h2 : (rs.drop p).getD k 0 = f (p + k) := by
    rw [List.getD_eq_getElem?_getD, List.getElem?_drop, ← List.getD_eq_getElem?_getD, hr]
  have h3 := hf (p + k)
  rw [h2]
  omega

theorem flat_zero (n : Nat) : (List.replicate n [(0 : Int)]).flatten = List.replicate n 0 := by
  induction n with
  | zero => rfl
  | succ n ih => rw [List.replicate_succ, List.flatten_cons, ih]; rfl
theorem ways_end {hs rs ro : List Int} {f : Nat → Int} {p : Nat} (hro : ∀ k, ro.getD k 0 = hs.getD k 0 + (rs.drop p).getD k 0) (hh : ∀ k, hs.getD k 0 = (rs.take p).getD k 0) (hr : ∀ k, rs.getD k 0 = f k) (hl : ro.length ≤ p) :
    (ro ++ (List.replicate ((p : Int) - (ro.length : Int)).toNat [(0 : Int)]).flatten).length = p ∧ ∀ k, k < p → (ro ++ (List.replicate ((p : Int) - (ro.length : Int)).toNat [(0 : Int)]).flatten).getD k 0 = f k + f (p + k) := by
  rw [flat_zero]
  refine ⟨by rw [List.length_append, List.length_replicate]; omega, fun k hk => ?_⟩
  have e : (ro ++ List.replicate ((p : Int) - (ro.length : Int)).toNat 0).getD k 0 = ro.getD k 0 := by
    by_cases h : k < ro.length
    · rw [List.getD_eq_getElem?_getD, List.getD_eq_getElem?_getD, List.getElem?_append_left h]
    · rw [List.getD_eq_getElem?_getD, List.getElem?_append_right (by omega), List.getElem?_replicate, getD_outI (by omega)]
      split <;> rfl
  rw [e, hro, hh, ← hr, ← hr, List.getD_eq_getElem?_getD, List.getElem?_take_of_lt hk, ← List.getD_eq_getElem?_getD]
  congr 1
  rw [List.getD_eq_getElem?_getD, List.getElem?_drop, ← List.getD_eq_getElem?_getD]

set_option maxHeartbeats 8000000 in
theorem ways_cal (w : World) (mean : ExcName → Option Value) (mg mb : Str → Option Value) (l1 l2 : Addr) (vs1 vs2 : List Value) (n1 n2 : Nat) (ns1 ns2 : List Int) (hi1 : IntsAre vs1 ns1) (hi2 : IntsAre vs2 ns2) (hlen1 : ns1.length < 100) (hlen2 : ns2.length < 100)
    (hne1 : 0 < ns1.length) (hne2 : 0 < ns2.length) (p : Nat) (t : Tok) (hp : 5 ≤ p ∧ p ≤ 13) (hb1 : ∀ x ∈ ns1, 0 ≤ x ∧ x < (p : Int)) (hb2 : ∀ x ∈ ns2, 0 ≤ x ∧ x < (p : Int)) (ww : Int) (t' : Tok) (hw : 5 ≤ ww ∧ ww ≤ 8) :
    Cal w mean mg mb 3 61 [.ref l1, .ref l2, .int p t, .int ww t'] [(l1, listOf vs1.toArray n1), (l2, listOf vs2.toArray n2)] (fun r H h' => h'.get? l1 = some (listOf vs1.toArray n1) ∧ h'.get? l2 = some (listOf vs2.toArray n2) ∧ ∃ ra rs r1 r2, r = .ref ra ∧ Ints h' ra rs ∧
      rs.length = p ∧ H.get? ra = none ∧ (∀ k : Nat, r1.getD k 0 = if (ns1.any fun x => x == (k : Int)) = true then 1 else 0) ∧ (∀ k : Nat, r2.getD k 0 = if (ns2.any fun x => x == (k : Int)) = true then 1 else 0) ∧ r1.length ≤ p ∧ r2.length ≤ p ∧
      ∀ k, k < p → rs.getD k 0 = convI r1 r2 r1.length k + convI r1 r2 r1.length (p + k)) := by
  unfold Cal
  w_on
  w_top off
  k_fill
  intro dp un gd cn cs a ccd cl outer A₀ base h₀ L m s Q E B F X N T hk hd hu hret
  k_with_none
  refine wpAny_call ?_
  k_dflt (refine' code_defG ?k1 ?k2 ?k3 ?k4 ?k5 ?kA ?kF ?kK ?k6 ?k7 ?k8 ?k9 ?kB ?_ ?c2 ?c3 ?c4 ?c5; (case kA => exact rfl); (case kF => exact rfl); (case kK => assumption); (case k1 => k_asm); (case k2 => k_asm); (case k3 => k_asm); (case k4 => k_asm); (case k5 => k_asm); (case k6 => k_is); (case k7 => k_is); (case k8 => ktr_room); (case k9 => exact BindsTo.of_eq rfl); (case c5 => decide); (case kB => exact locs rfl); (case c2 => exact rfl); (case c3 => exact rfl); (case c4 => exact rfl); k_whole; intro g1 L1 h1 FG F1 N1 B1 X1 T1 G1; (try dsimp only); (try k_fold))
  k_steps
  (k_dflt (refine' (row_cal w mean mg mb l1 vs1 n1 ns1 hi1 hlen1 hne1 (fun x hx => ⟨(hb1 x hx).1, by have := (hb1 x hx).2; omega⟩)).use ?zB ?zF ?zX ?zN ?zT ?zk ?zd ?zu ?_))
  case zB => k_asm
  case zF => k_asm
  case zX => k_asm
  case zN => exact kst_newsOf N1 (by kst_inAny)
  case zT => k_asm
  case zk => exact rfl
  case zd => ktr_room
  case zu => ktr_units
  intro r h2 tk2 F2 K2 hP
  obtain ⟨hl', ra, r1, rfl, ⟨wv1, wn1, hra, hw1⟩, hr1l, hr1, hfr⟩ := hP
  obtain ⟨N2, hne2'⟩ := newsAdd F1 N1 (newsSame1 N1 (.head _) K2 hl') hra hfr
  replace hr1l := hr1l p (fun x hx => (hb1 x hx).2)
  (try dsimp only)
  (try k_fold)
  k_steps
  (k_dflt (refine' (row_cal w mean mg mb l2 vs2 n2 ns2 hi2 hlen2 hne2 (fun x hx => ⟨(hb2 x hx).1, by have := (hb2 x hx).2; omega⟩)).use ?zB ?zF ?zX ?zN ?zT ?zk ?zd ?zu ?_))
  case zB => k_asm
  case zF => k_asm
  case zX => k_asm
  case zN => exact kst_newsOf N2 (by kst_inAny)
  case zT => k_asm
  case zk => exact rfl
  case zd => ktr_room
  case zu => ktr_units
  intro r h3 tk3 F3 K3 hP
  obtain ⟨hl', rb, r2, rfl, ⟨wv2, wn2, hrb, hw2⟩, hr2l, hr2, hfr⟩ := hP
  obtain ⟨N3, hne3'⟩ := newsAdd F2 N2 (newsSame1 N2 (.tail _ (.tail _ (.head _))) K3 hl') hrb hfr
  replace hr2l := hr2l p (fun x hx => (hb2 x hx).2)
  (try dsimp only)
  (try k_fold)
  k_steps
  have hv1 : ∀ k, 0 ≤ r1.getD k 0 ∧ r1.getD k 0 ≤ 1 := fun k => by rw [hr1 k]; split <;> decide
  have hv2 : ∀ k, 0 ≤ r2.getD k 0 ∧ r2.getD k 0 ≤ 1 := fun k => by rw [hr2 k]; split <;> decide
  (k_dflt (refine' (mul_cal w mean mg mb ra rb wv1 wv2 wn1 wn2 r1 r2 hw1 hw2 (by omega) (by omega) ww t' hw hv1 hv2).use ?zB ?zF ?zX ?zN ?zT ?zk ?zd ?zu ?_))
  case zB => k_asm
  case zF => k_asm
  case zX => k_asm
  case zN => exact kst_newsOf N3 (by kst_inAny)
  case zT => k_asm
  case zk => exact rfl
  case zd => ktr_room
  case zu => ktr_units
  intro r h4 tk4 F4 K4 hP
  obtain ⟨hla, hlb, rm, rs, rfl, ⟨wv3, wn3, hrm, hw3⟩, hrsl, hrs, hfr⟩ := hP
  obtain ⟨N4, hne4'⟩ := newsAdd F3 N3 (newsSame2 N3 (.tail _ (.head _)) (.head _) K4 hla hlb) hrm hfr
  (try dsimp only)
  (try k_fold)
  k_steps
  have hcb := fun k => convI_bound (a := r1) (b := r2) hv1 hv2 k r1.length
  (k_dflt (refine' (split_cal w mean mg mb rm wv3 wn3 rs hw3 (by omega) p t).use ?zB ?zF ?zX ?zN ?zT ?zk ?zd ?zu ?_))
  case zB => k_asm
  case zF => k_asm
  case zX => k_asm
  case zN => exact kst_newsOf N4 (by kst_inAny)
  case zT => k_asm
  case zk => exact rfl
  case zd => ktr_room
  case zu => ktr_units
  intro r h5 tk5 F5 K5 hP
  obtain ⟨hlm, T5, rh, rt, hs, rfl, hT5, ⟨wvh, wnh, hrh, hwh⟩, ⟨wvt, wnt, hrt, hwt⟩, hhl, hhs, fT, fh, ft⟩ := hP
  have N5 := newsAdd3 F4 N4 (newsSame1 N4 (.head _) K5 hlm) hT5 hrh hrt fT fh ft
  (try dsimp only)
  (try k_fold)
  k_steps
  have hadd : ∀ k, 0 ≤ hs.getD k 0 + (rs.drop p).getD k 0 ∧ hs.getD k 0 + (rs.drop p).getD k 0 < 32 := ways_bound (p := p) hhs hrs hcb (by omega)
  rename News _ _ _ _ => N6
  rename Fr g1 L1 _ _ => F6
  (k_dflt (refine' (add_cal w mean mg mb rh rt wvh wvt wnh wnt hs (rs.drop p) hwh hwt (by omega) (by (rw [List.length_drop]; omega)) ww t' hw hadd).use ?zB ?zF ?zX ?zN ?zT ?zk ?zd ?zu ?_))
  case zB => k_asm
  case zF => k_asm
  case zX => k_asm
  case zN => exact kst_newsOf N6 (by kst_inAny)
  case zT => k_asm
  case zk => exact rfl
  case zd => ktr_room
  case zu => ktr_units
  intro r h7 tk7 F7 K7 hP
  obtain ⟨hlh, hlt, rr, ro, rfl, ⟨wvr, wnr, hrr, hwr⟩, hrol, hro, hfr⟩ := hP
  obtain ⟨N7, hne7'⟩ := newsAdd F6 N6 (newsSame2 N6 (by kst_entry) (by kst_entry) K7 hlh hlt) hrr hfr
  have hrl : ro.length ≤ p := by (rw [List.length_drop] at hrol; omega)
  (try dsimp only)
  (try k_fold)
  k_steps
  rename_i D9 _ _ hF9 hN9 hI9 ho9 _ _ _ _
  have hend := ways_end (p := p) hro hhs hrs hrl
  exact hret _ _ _ (by assumption) (keepOf hF9 G1) ⟨hN9.get (by kst_entry), hN9.get (by kst_entry), D9, _, r1, r2, rfl, ⟨_, _, hN9.get (.head _), hI9⟩, hend.1, freshOf hN9 G1 (.head _) (notMem2 (by k_ne) (by k_ne)), hr1, hr2, hr1l, hr2l, hend.2⟩
end Mine
end PartXWays

section PartXMenu
open PySem PySem.W PyProof.Rows PySem.Calls
namespace Mine
/-- one of the law's primes -/
def IsP (p : Nat) : Prop := p = 5 ∨ p = 7 ∨ p = 11 ∨ p = 13
theorem IsP.bnd {p : Nat} (h : IsP p) : 5 ≤ p ∧ p ≤ 13 := by
  rcases h with rfl | rfl | rfl | rfl <;> decide
theorem menu4 {prog : Program} {w : World} {A : Around} {E : Value → Shared → Prop} {s : Shared} {h₀ : Heap} {L D : Addr} {news : List (Addr × Obj)} {value slice : PySem.Expr} {k : Int} {u t1 t2 t3 t4 : Tok} {n : Nat} {Q : Value → Shared → Prop}
    (N : News h₀ L s.heap news) (hm : (D, listOf #[.int 5 t1, .int 7 t2, .int 11 t3, .int 13 t4] n) ∈ news) (h0 : 0 ≤ k) (h1 : k < 4)
    (h : ∀ (p : Nat) t, IsP p → 5 ≤ p → p ≤ 13 → Q (.int (p : Int) t) s)
    (hs : subscripted slice false (.ref D) (.int k u) = operate [.ref D, .int k u] (getItem (.ref D) (.int k u))) : wpAny (model prog w) A (subscriptTail value slice (.ref D) (.int k u)) Q E s := by
  refine ksa_sub (vs := [.int 5 t1, .int 7 t2, .int 11 t3, .int 13 t4]) (ns := [5, 7, 11, 13]) N hm (.cons _ _ (.cons _ _ (.cons _ _ (.cons _ _ .nil)))) h0 (by show k < 4; exact h1) (by omega) (fun t => ?_) hs
  have hk : k = 0 ∨ k = 1 ∨ k = 2 ∨ k = 3 := by omega
  rcases hk with rfl | rfl | rfl | rfl
  · exact h 5 t (.inl rfl) (by decide) (by decide)
  · exact h 7 t (.inr (.inl rfl)) (by decide) (by decide)
  · exact h 11 t (.inr (.inr (.inl rfl))) (by decide) (by decide)
  · exact h 13 t (.inr (.inr (.inr rfl))) (by decide) (by decide)
theorem two_pow_lo {p : Nat} (h : 5 ≤ p) : (0 : Int) < 2 ^ ((p : Int)).toNat - 1 := by
  rw [Int.toNat_natCast]
  have h2 : (2 : Nat) ^ 5 ≤ 2 ^ p := Nat.pow_le_pow_right (by decide) h
  have h3 : ((2 ^ p : Nat) : Int) = (2 : Int) ^ p := by simp
  have h4 : (32 : Int) ≤ ((2 ^ p : Nat) : Int) := by exact_mod_cast h2
  omega
theorem two_pow_hi {p : Nat} (h : p ≤ 13) : (2 : Int) ^ ((p : Int)).toNat - 1 < 10000 := by
  rw [Int.toNat_natCast]
  have h2 : (2 : Nat) ^ p ≤ 2 ^ 13 := Nat.pow_le_pow_right (by decide) h
  have h3 : ((2 ^ p : Nat) : Int) = (2 : Int) ^ p := by simp
  have h4 : ((2 ^ p : Nat) : Int) ≤ 8192 := by exact_mod_cast h2
  omega
theorem upd3 {I C D y q cs cp cy : Nat} {oI oC oD o o' oq os op oy : Obj} (h : @Ne Nat y I ∧ @Ne Nat y C ∧ @Ne Nat y D) (hne : y ≠ q ∧ y ≠ cs ∧ y ≠ cp ∧ y ≠ cy) :
    Upd y o o' [(I, oI), (C, oC), (D, oD), (y, o), (q, oq), (cs, os), (cp, op), (cy, oy)] [(I, oI), (C, oC), (D, oD), (y, o'), (q, oq), (cs, os), (cp, op), (cy, oy)] :=
  .tail (Ne.symm h.1) (.tail (Ne.symm h.2.1) (.tail (Ne.symm h.2.2) (.head (List.forall_mem_cons.mpr ⟨Ne.symm hne.1, List.forall_mem_cons.mpr ⟨Ne.symm hne.2.1, List.forall_mem_cons.mpr ⟨Ne.symm hne.2.2.1, List.forall_mem_cons.mpr ⟨Ne.symm hne.2.2.2, List.forall_mem_nil _⟩⟩⟩⟩))))
end Mine
end PartXMenu

section PartXCell
open PySem PySem.W PyProof.Rows PySem.Calls
namespace Mine
def CellEnd (h₀ : Heap) (L : Addr) (m : Str → Option Value) (s₁ : Shared) (four : List (Addr × Obj)) (rest : Value → List (Addr × Obj) → Prop) (y : Value) (s₂ : Shared) : Prop :=
  ∃ h' tk news', s₂ = { s₁ with heap := h', toks := tk } ∧ Fr h₀ L h' m ∧ News h₀ L h' (four ++ news') ∧ (∀ p ∈ news', p.1 ∉ four.map (·.1)) ∧ rest y news'

def CellRest (prog : Program) (w : World) (A : Around) (h₀ : Heap) (L : Addr) (m : Str → Option Value) (env : Env) (elt : PySem.Expr) (x : Str) (scope : Scope) (cl : List (Str × Addr)) (s : Shared) (src : Addr × Obj) (Fin : List Value → List (Addr × Obj) → Prop) : List Value → List Value → List (Addr × Obj) → Prop
  | [], ys, news => Fin ys news
  | v :: r, ys, news => ∀ (I C c D : Nat) (oI oC oc : Obj) (h : Heap) (tk : Nat) (E' : Value → Shared → Prop), oc.data = .cell (some v) → Fr h₀ L h m → News h₀ L h ((I, oI) :: (C, oC) :: (c, oc) :: (D, LCg.lst ys) :: news) →
      (∀ p ∈ news, p.1 ∉ [I, C, c, D]) →
      wpAny (model prog w) A (eval elt (compEnvC scope ((x, c) :: cl) C env)) (CellEnd h₀ L m { s with heap := h, toks := tk } [(I, oI), (C, oC), (c, oc), (D, LCg.lst ys)] (fun y news' => src ∈ news' ∧ CellRest prog w A h₀ L m env elt x scope cl s src Fin r (ys ++ [y]) news')) E' { s with heap := h, toks := tk }

theorem cellEnd_new {h₀ h' : Heap} {L : Addr} {m : Str → Option Value} {s₁ : Shared} {four news : List (Addr × Obj)} {rest : Value → List (Addr × Obj) → Prop} {D : Nat} {o : Obj} {tk : Nat} (F : Fr h₀ L h' m) (N : News h₀ L h' ((D, o) :: (four ++ news)))
    (off1 : ∀ p ∈ news, p.1 ∉ four.map (·.1)) (off2 : ∀ q ∈ four ++ news, q.1 ≠ D) (r : rest (.ref D) ((D, o) :: news)) : CellEnd h₀ L m s₁ four rest (.ref D) { s₁ with heap := h', toks := tk } := by
  refine ⟨h', tk, (D, o) :: news, rfl, F, fun p hp => N p ?_, fun p hp hm => ?_, r⟩
  · rcases List.mem_append.mp hp with hp | hp
    · exact .tail _ (List.mem_append.mpr (.inl hp))
    · rcases List.mem_cons.mp hp with rfl | hp
      · exact .head _
      · exact .tail _ (List.mem_append.mpr (.inr hp))
  · rcases List.mem_cons.mp hp with rfl | hp
    · obtain ⟨q, hq, e⟩ := List.mem_map.mp hm
      exact off2 q (List.mem_append.mpr (.inl hq)) e
    · exact off1 p hp hm

def CellFin (h₀ : Heap) (L : Addr) (m : Str → Option Value) (Q : Value → Shared → Prop) (s₂ : Shared) (ys : List Value) (news : List (Addr × Obj)) : Prop :=
  ∀ (D : Nat) (h : Heap) (tk : Nat), Fr h₀ L h m → News h₀ L h ((D, LCg.lst ys) :: news) → (∀ p ∈ news, p.1 ≠ D) → Q (.ref D) { s₂ with heap := h, toks := tk }

section
variable {prog : Program} {w : World} {A : Around} {E : Value → Shared → Prop} {s : Shared} {env : Env} {h₀ : Heap} {L : Addr} {m : Str → Option Value}

theorem cellLoop {elt iter : PySem.Expr} {x : Str} {px : Pos} {scope : Scope} {cl : List (Str × Addr)} {pos : Pos} {U : Option (Value → Sem Unit)} {Fin : List Value → List (Addr × Obj) → Prop} {Q : Value → Shared → Prop} {s₁ : Shared} {ax : Addr} {vals : List Value} {n : Nat} (I C c D : Nat)
    (hfin : ∀ (ys : List Value) (news : List (Addr × Obj)) (h : Heap) (tk : Nat) (m' : Str → Option Value) (r : Flow), Fr h₀ L h m → News h₀ L h ((D, LCg.lst ys) :: news) → (∀ p ∈ news, p.1 ≠ D) → h.Ns C m' → C ≠ L → h₀.get? C = none → (∀ p ∈ (D, LCg.lst ys) :: news, p.1 ≠ C) → Fin ys news →
      compPost (model prog w) A E U Q (.ref D) C (.ok r) { s₁ with heap := h, toks := tk }) (hh : A.handled = none) (hkind : scope.kind = .function)
    (hx : (compEnvC scope ((x, c) :: cl) C env).kindOf x = some .cell) (hsz : vals.length ≤ sizeLine) (hIC : I ≠ C) (hIc : I ≠ c) (hID : I ≠ D) (hCc : C ≠ c) (hCD : C ≠ D) (hcD : c ≠ D) :
    ∀ (r ys : List Value) (news : List (Addr × Obj)) (h : Heap) (tk : Nat) (oI oC oc : Obj) (m' : Str → Option Value) (v₀ : Option Value), vals = (vals.take ys.length) ++ r → ys.length + r.length = vals.length → h.IsListIter I ax ys.length → (ax, listOf (List.toArray vals) n) ∈ news → Fr h₀ L h m →
      News h₀ L h ((I, oI) :: (C, oC) :: (c, oc) :: (D, LCg.lst ys) :: news) → oc.data = .cell v₀ → LCg.NsObj oC m' → (∀ p ∈ news, p.1 ∉ [I, C, c, D]) →
      CellRest prog w A h₀ L m env elt x scope cl s₁ (ax, listOf (List.toArray vals) n) Fin r ys news →
      codeAny (model prog w) A (.compLoop (.ListComp elt [⟨.Name x px, iter, [], 0⟩] scope pos) 0 (.ref I) (.ref D) (compEnvC scope ((x, c) :: cl) C env))
        (compPost (model prog w) A E U Q (.ref D) C) { s₁ with heap := h, toks := tk } := by
  intro r ys news h tk oI oC oc m' v₀ hv hlen hit hsrc F N hoc hoC off R
  let W := Walks.list (prog := prog) (w := w) hh I ax
  refine codeAny_compLoop_tests
    (fun k s' => ∃ (r ys : List Value) (news : List (Addr × Obj)) (h : Heap) (tk : Nat) (oI oC oc : Obj) (m' : Str → Option Value) (v₀ : Option Value), s' = { s₁ with heap := h, toks := tk } ∧ k = r.length + 1 ∧ vals = (vals.take ys.length) ++ r ∧ ys.length + r.length = vals.length ∧ h.IsListIter I ax ys.length ∧ (ax, listOf (List.toArray vals) n) ∈ news ∧ Fr h₀ L h m ∧
      News h₀ L h ((I, oI) :: (C, oC) :: (c, oc) :: (D, LCg.lst ys) :: news) ∧ oc.data = .cell v₀ ∧ LCg.NsObj oC m' ∧ (∀ p ∈ news, p.1 ∉ [I, C, c, D]) ∧
      CellRest prog w A h₀ L m env elt x scope cl s₁ (ax, listOf (List.toArray vals) n) Fin r ys news) ?_ (r.length + 1)
    ⟨r, ys, news, h, tk, oI, oC, oc, m', v₀, rfl, rfl, hv, hlen, hit, hsrc, F, N, hoc, hoC, off, R⟩
  rintro k s' ⟨r, ys, news, h, tk, oI, oC, oc, m', v₀, rfl, rfl, hv, hlen, hit, hsrc, F, N, hoc, hoC, off, R⟩
  have zI := N (I, oI) (.head _)
  have zC := N (C, oC) (.tail _ (.head _))
  have zc := N (c, oc) (.tail _ (.tail _ (.head _)))
  have zD := N (D, LCg.lst ys) (.tail _ (.tail _ (.tail _ (.head _))))
  have Nn : News h₀ L h news := fun p hp => N p (.tail _ (.tail _ (.tail _ (.tail _ hp))))
  have zax := Nn _ hsrc
  have hl : h.IsList ax vals.toArray := ⟨_, zax.1, rfl, n, rfl⟩
  have hneI : ax ≠ I := fun e => off _ hsrc (by rw [show (ax, listOf (List.toArray vals) n).1 = I from e]; exact .head _)
  have offI : ∀ p ∈ news, p.1 ≠ I := fun p hp e => off p hp (by rw [e]; exact .head _)
  have offC : ∀ p ∈ news, p.1 ≠ C := fun p hp e => off p hp (by rw [e]; exact .tail _ (.head _))
  have offc : ∀ p ∈ news, p.1 ≠ c := fun p hp e => off p hp (by rw [e]; exact .tail _ (.tail _ (.head _)))
  have offD : ∀ p ∈ news, p.1 ≠ D := fun p hp e => off p hp (by rw [e]; exact .tail _ (.tail _ (.tail _ (.head _))))
  cases r with
  | nil =>
    have hn : ys.length = vals.toArray.size := by simpa using hlen
    refine (W hneI vals.toArray).done _ _ _ ⟨hn ▸ hit, hl⟩ fun h₂ tk₂ hk₂ => ?_
    have hp1 : ∀ p ∈ (D, LCg.lst ys) :: news, p.1 ≠ I ∧ p.1 ≠ C := fun p hp => by
      rcases List.mem_cons.mp hp with rfl | hp
      · exact ⟨Ne.symm hID, Ne.symm hCD⟩
      · exact ⟨offI p hp, offC p hp⟩
    refine hfin ys news h₂ tk₂ m' _ (LCg.fr_but F hk₂ (Ne.symm zI.2.1) zI.2.2) (fun p hp => ?_) offD ((hoC.ns zC.1).at' fun o e => hk₂ _ o (by simpa using Ne.symm hIC) e) zC.2.1 zC.2.2 (fun p hp => (hp1 p hp).2) R
    have z := N p (.tail _ (.tail _ (.tail _ hp)))
    exact ⟨hk₂ _ _ (by simpa using (hp1 p hp).1) z.1, z.2⟩
  | cons v r =>
    have hlt : ys.length < vals.toArray.size := by
      rw [List.length_cons] at hlen
      rw [List.size_toArray]; omega
    refine (W hneI vals.toArray).item ys.length _ _ _ hlt ⟨hit, hl⟩ fun v' h₂ tk₂ hPv hst₂ hk₂ => ?_
    have hvv : v' = v := by
      have e1 : vals.toArray[ys.length]? = some v' := hPv
      have e2 : vals[ys.length]? = some v := by
        rw [hv, List.getElem?_append_right (by rw [List.length_take]; exact Nat.min_le_left _ _)]
        have : ys.length - (vals.take ys.length).length = 0 := by
          rw [List.length_take]
          rw [List.size_toArray] at hlt
          omega
        rw [this]; rfl
      have e3 : vals[ys.length]? = some v' := by simpa using e1
      rw [e2] at e3
      exact (Option.some.inj e3).symm
    subst hvv
    have zc₂ : h₂.get? c = some oc := hk₂ _ _ (by simpa using Ne.symm hIc) zc.1
    refine wpAny_assign_Name (wpAny_storeName_cell (by simp [compEnvC, relabel, hkind]) hx (by simp [compEnvC]) ⟨oc, zc₂, hoc⟩ fun h₃ hc₃ hs₃ => ?_)
    refine wpAny_tests_nil ?_
    simp only [if_true]
    obtain ⟨oI', heI, _⟩ := id hst₂.1
    obtain ⟨oc', hec, hoc'⟩ := hc₃
    have F₃ : Fr h₀ L h₃ m := (LCg.fr_but F hk₂ (Ne.symm zI.2.1) zI.2.2).change hs₃ zc.2.1 zc.2.2
    have heI₃ : h₃.get? I = some oI' := hs₃.extBut _ _ hIc heI
    have hit₃ : h₃.IsListIter I ax (ys.length + 1) := hst₂.1.extBut hs₃.extBut hIc
    have N₃ : News h₀ L h₃ ((I, oI') :: (C, oC) :: (c, oc') :: (D, LCg.lst ys) :: news) := fun p hp => by
      rcases List.mem_cons.mp hp with rfl | hp
      · exact ⟨heI₃, zI.2⟩
      rcases List.mem_cons.mp hp with rfl | hp
      · exact ⟨hs₃.extBut _ _ hCc (hk₂ _ _ (by simpa using Ne.symm hIC) zC.1), zC.2⟩
      rcases List.mem_cons.mp hp with rfl | hp
      · exact ⟨hec, zc.2⟩
      rcases List.mem_cons.mp hp with rfl | hp
      · exact ⟨hs₃.extBut _ _ (Ne.symm hcD) (hk₂ _ _ (by simpa using Ne.symm hID) zD.1), zD.2⟩
      · exact ⟨hs₃.extBut _ _ (offc p hp) (hk₂ _ _ (by simpa using offI p hp) (Nn p hp).1), (Nn p hp).2⟩
    refine wpAny_mono (R I C c D oI' oC oc' h₃ _ _ hoc' F₃ N₃ off) (fun y s₄ h₄ => ?_) fun _ _ e => e
    obtain ⟨h₄, tk₄, news₄, rfl, F₄, N₄, off₄, hsrc₄, R₄⟩ := h₄
    have yI := N₄ (I, oI') (.head _)
    have yC := N₄ (C, oC) (.tail _ (.head _))
    have yc := N₄ (c, oc') (.tail _ (.tail _ (.head _)))
    have yD := N₄ (D, LCg.lst ys) (.tail _ (.tail _ (.tail _ (.head _))))
    have hit₄ : h₄.IsListIter I ax (ys.length + 1) := by
      obtain ⟨o', q, rest⟩ := hit₃
      rw [heI₃] at q
      cases q
      exact ⟨oI', yI.1, rest⟩
    refine append_at (hsz := by show ys.toArray.size ≤ sizeLine; rw [List.size_toArray]; rw [List.size_toArray] at hlt; exact Nat.le_trans (Nat.le_of_lt hlt) hsz) yD.1 fun h₅ hs₅ hD₅ => ?_
    refine ⟨r.length + 1, by simp, r, ys ++ [y], news₄, h₅, tk₄, oI', oC, oc', m', some v', rfl, rfl, ?_, ?_, ?_, hsrc₄, F₄.change hs₅ yD.2.1 yD.2.2, fun p hp => ?_, hoc', hoC, off₄, ?_⟩
    · simp only [List.length_append, List.length_singleton]
      have e3 : vals[ys.length]? = some v' := by simpa using hPv
      rw [List.take_add_one, e3]
      simpa using hv
    · simp only [List.length_append, List.length_singleton]
      rw [List.length_cons] at hlen; omega
    · simp only [List.length_append, List.length_singleton]
      exact hit₄.extBut hs₅.extBut hID
    · rcases List.mem_cons.mp hp with rfl | hp
      · exact ⟨hs₅.extBut _ _ hID yI.1, yI.2⟩
      rcases List.mem_cons.mp hp with rfl | hp
      · exact ⟨hs₅.extBut _ _ hCD yC.1, yC.2⟩
      rcases List.mem_cons.mp hp with rfl | hp
      · exact ⟨hs₅.extBut _ _ hcD yc.1, yc.2⟩
      rcases List.mem_cons.mp hp with rfl | hp
      · exact ⟨hD₅.trans (congrArg some (LCg.lst_snoc ys y)), yD.2⟩
      · have z := N₄ p (.tail _ (.tail _ (.tail _ (.tail _ hp))))
        exact ⟨hs₅.extBut _ _ (fun e => off₄ p hp (by rw [e]; exact .tail _ (.tail _ (.tail _ (.head _))))) z.1, z.2⟩
    · exact R₄

def CellSrc (prog : Program) (w : World) (A : Around) (h₀ : Heap) (L : Addr) (m : Str → Option Value) (env : Env) (elt : PySem.Expr) (x : Str) (scope : Scope) (cl : List (Str × Addr)) (Fin : Shared → List Value → List (Addr × Obj) → Prop) (xv : Value) (s₁ : Shared) : Prop :=
  ∃ ax vals n news, xv = .ref ax ∧ Fr h₀ L s₁.heap m ∧ News h₀ L s₁.heap news ∧ (ax, listOf (List.toArray vals) n) ∈ news ∧ vals.length ≤ sizeLine ∧
      ∀ s₂ : Shared, (∃ g, s₂ = { s₁ with heap := g }) → CellRest prog w A h₀ L m env elt x scope cl s₂ (ax, listOf (List.toArray vals) n) (Fin s₂) vals [] news

theorem cellComp {elt iter : PySem.Expr} {x : Str} {px : Pos} {scope : Scope} {cl : List (Str × Addr)} {pos : Pos} {Q : Value → Shared → Prop} (F₀ : Fr h₀ L s.heap m) (hh : A.handled = none)
    (hclos : closureFor scope env = pure cl) (hkind : scope.kind = .function) (hnames : ∀ y ∈ scope.names, y.2 = .local → scope.names.lookup y.1 = some .local)
    (hcf : ∀ n acc, cellsFrom n scope.names acc = (x, n) :: acc) (hpc : ∀ h, pushCells h scope.names = h.push { cls := .type "cell", data := .cell none })
    (hx : ∀ c C, (compEnvC scope ((x, c) :: cl) C env).kindOf x = some .cell)
    (h : wpAny (model prog w) A (eval iter env) (CellSrc prog w A h₀ L m env elt x scope cl (CellFin h₀ L m Q)) E s)
    (hs : ∀ x, foldedSetIterable iter env x = pure x := by intro _; rfl) :
    wpAny (model prog w) A (eval (.ListComp elt [⟨.Name x px, iter, [], 0⟩] scope pos) env) Q E s := by
  rw [eval_ListComp]
  refine wpAny_comprehension_free (use := none) rfl hs hclos hkind hnames (wpAny_mono h (fun xv s₁ h₁ => ?_) fun _ _ e => e)
  obtain ⟨ax, vals, n, news, rfl, F, N, hm, hsz, R⟩ := h₁
  have hax := N _ hm
  have hl : s₁.heap.IsList ax vals.toArray := ⟨_, hax.1, rfl, n, rfl⟩
  have hlt : ax < s₁.heap.objs.size := Heap.lt_size hax.1
  refine wpAny_pyIter_list hl ?_
  have R' := R { s₁ with heap := s₁.heap.push { cls := .type "list_iterator", data := .fields #[.ref ax, .int 0 0] } } ⟨_, rfl⟩
  refine wpAny_newObj_type ?_
  simp only [newFunctionEnv, Option.isSome_some, if_true]
  refine wpAny_bind (wpAny_alloc ?_)
  refine wpAny_bind (wpAny_layCells _ (fun name kind cells => by cases hkc : kind == NameKind.cell <;> simp [hkc]) _ _ _ _ ?_)
  rw [hcf, hpc]
  refine wpAny_bind ?_
  rw [List.forIn_nil]
  refine wpAny_pure (wpAny_pure ?_)
  dsimp only
  generalize hH1 : s₁.heap.push { cls := .type "list_iterator", data := .fields #[.ref ax, .int 0 0] } = H1 at R' ⊢
  generalize hH2 : H1.push { cls := .type "list", data := .seq (List.toArray ([] : List Value)) } = H2
  generalize hH3 : H2.push { cls := .type "dict", data := .dict #[] } = H3
  generalize hH4 : H3.push { cls := .type "cell", data := .cell none } = H4
  have sz1 : H1.objs.size = s₁.heap.objs.size + 1 := by rw [← hH1, Heap.size_push]
  have sz2 : H2.objs.size = H1.objs.size + 1 := by rw [← hH2, Heap.size_push]
  have sz3 : H3.objs.size = H2.objs.size + 1 := by rw [← hH3, Heap.size_push]
  have k1 : ∀ b o, s₁.heap.get? b = some o → H1.get? b = some o := fun b o e => by rw [← hH1]; exact Heap.get?_push_of_some _ e
  have k2 : ∀ b o, H1.get? b = some o → H2.get? b = some o := fun b o e => by rw [← hH2]; exact Heap.get?_push_of_some _ e
  have k3 : ∀ b o, H2.get? b = some o → H3.get? b = some o := fun b o e => by rw [← hH3]; exact Heap.get?_push_of_some _ e
  have k4 : ∀ b o, H3.get? b = some o → H4.get? b = some o := fun b o e => by rw [← hH4]; exact Heap.get?_push_of_some _ e
  have kk : ∀ b o, s₁.heap.get? b = some o → H4.get? b = some o := fun b o e => k4 _ _ (k3 _ _ (k2 _ _ (k1 _ _ e)))
  have gI : H1.get? s₁.heap.objs.size = some { cls := .type "list_iterator", data := .fields #[.ref ax, .int 0 0] } := by rw [← hH1]; exact Heap.get?_push_size _ rfl
  have gD : H2.get? H1.objs.size = some (LCg.lst []) := by rw [← hH2]; exact Heap.get?_push_size _ rfl
  have gc : H4.get? H3.objs.size = some { cls := .type "cell", data := .cell none } := by rw [← hH4]; exact Heap.get?_push_size _ rfl
  have nC : H3.Ns H2.objs.size (fun _ => none) := by rw [← hH3]; exact Heap.Ns.new H2 (.type "dict")
  obtain ⟨oC, gC, hoC⟩ := LCg.ns_obj nC
  have fresh : ∀ a, s₁.heap.objs.size ≤ a → h₀.get? a = none := fun a ha => by
    cases e : h₀.get? a with
    | none => rfl
    | some o' => exact absurd (Heap.lt_size (F.keep a o' e)) (Nat.not_lt.mpr ha)
  have hLlt : L < s₁.heap.objs.size := F.ns.lt
  have hLn : ∀ a, s₁.heap.objs.size ≤ a → a ≠ L := fun a ha e => by rw [e] at ha; exact absurd hLlt (Nat.not_lt.mpr ha)
  have N4 : News h₀ L H4 ((s₁.heap.objs.size, { cls := .type "list_iterator", data := .fields #[.ref ax, .int 0 0] }) :: (H2.objs.size, oC) :: (H3.objs.size, { cls := .type "cell", data := .cell none }) :: (H1.objs.size, LCg.lst []) :: news) := fun p hp => by
    rcases List.mem_cons.mp hp with rfl | hp
    · exact ⟨k4 _ _ (k3 _ _ (k2 _ _ gI)), hLn _ (Nat.le_refl _), fresh _ (Nat.le_refl _)⟩
    rcases List.mem_cons.mp hp with rfl | hp
    · exact ⟨k4 _ _ gC, hLn _ (by omega), fresh _ (by omega)⟩
    rcases List.mem_cons.mp hp with rfl | hp
    · exact ⟨gc, hLn _ (by omega), fresh _ (by omega)⟩
    rcases List.mem_cons.mp hp with rfl | hp
    · exact ⟨k4 _ _ (k3 _ _ gD), hLn _ (by omega), fresh _ (by omega)⟩
    · exact ⟨kk _ _ (N p hp).1, (N p hp).2⟩
  have off : ∀ p ∈ news, p.1 ∉ [s₁.heap.objs.size, H2.objs.size, H3.objs.size, H1.objs.size] := fun p hp hm => by
    have hp1 : (p.1 : Nat) < s₁.heap.objs.size := Heap.lt_size (N p hp).1
    simp only [List.mem_cons, List.not_mem_nil, or_false] at hm
    rcases hm with e | e | e | e <;> exact absurd hp1 (Nat.not_lt.mpr (by rw [e]; omega))
  have hit : H4.IsListIter s₁.heap.objs.size ax 0 := ⟨_, k4 _ _ (k3 _ _ (k2 _ _ gI)), rfl, rfl⟩
  have loop : codeAny (model prog w) A (.compLoop (.ListComp elt [⟨.Name x px, iter, [], 0⟩] scope pos) 0 (.ref s₁.heap.objs.size) (.ref H1.objs.size) (compEnvC scope ((x, H3.objs.size) :: cl) H2.objs.size env))
      (compPost (model prog w) A E none Q (.ref H1.objs.size) H2.objs.size) { s₁ with heap := H4, toks := s₁.toks } :=
    cellLoop (Fin := CellFin h₀ L m Q { s₁ with heap := H1 }) (U := none) (s₁ := { s₁ with heap := H1 }) (n := n) (ax := ax) (vals := vals) _ _ _ _
      (fun ys news h tk m' r F N oD hn hCL hC₀ oC fin => ⟨m', hn, fun h'' hs'' => fin _ h'' tk (F.change hs'' hCL hC₀) (fun p hp => ⟨hs''.extBut _ _ (oC p hp) (N p hp).1, (N p hp).2⟩) oD⟩) hh hkind (hx _ _) hsz (by omega) (by omega) (by omega) (by omega) (by omega) (by omega)
      vals [] news H4 s₁.toks _ oC _ _ none rfl (by simp) hit hm (F.keeps kk) N4 rfl hoC off R'
  exact codeAny_compStart_list loop (wpAny_pyIter_listiter hit loop)
end
end Mine
end PartXCell

section PartXInner
open PySem PySem.W PyProof.Rows PySem.Calls
namespace Mine
def MaskOk (p : Nat) (m : Int) : Prop := 1 ≤ m ∧ m ≤ 2 ^ p - 1
def lawDef : Stmt := (PySem.Challenge.pw_xm0435_01.main.body.getLast?).getD (.Pass default)
def lawBody : List Stmt := match lawDef with
  | .FunctionDef _ _ b _ _ _ _ _ _ _ => b
  | _ => []
def lawScope : Scope := match lawDef with
  | .FunctionDef _ _ _ _ _ _ sc _ _ _ => sc
  | _ => default
/-- the element of the comprehension that a statement of the law stores, and that comprehension's scope -/
def compElt (n : Nat) : PySem.Expr := match lawBody[n]? with
  | some (.Assign _ (.ListComp e _ _ _) _) => e
  | _ => .Name (Str.ofString "x") default
def compScope (n : Nat) : Scope := match lawBody[n]? with
  | some (.Assign _ (.ListComp _ _ sc _) _) => sc
  | _ => default
/-- the places of a mask's ones -/
def onesStep (mk : Int) (l : List Int) (k : Int) : List Int := if (mk.fdiv (2 ^ k.toNat)).fmod 2 = 1 then l ++ [k] else l
def onesOf (mk : Int) (p : Nat) : List Int := (rangeKs 0 p).foldl (onesStep mk) []
theorem off1_mem {D : Nat} : ∀ {l : List (Addr × Obj)}, LCg.Off1 D l → ∀ q ∈ l, q.1 ≠ D
  | [], _, _, h => nomatch h
  | _ :: _, x, q, h => by
    rcases List.mem_cons.mp h with rfl | h
    · exact x.1
    · exact off1_mem x.2 q h
theorem pow_bnd {k : Int} {p : Nat} (h : k < 0 + (p : Int)) (hp : p ≤ 13) : k ≤ 1000000 := by omega

local macro_rules | `(tactic| walk_at "CompSrcT") => `(tactic| (k_here; refine Stop.out ?_))
local macro_rules | `(tactic| walk_at "eval Name") => `(tactic| (k_here; (with_reducible show wpAny _ _ (eval (PySem.Expr.Name (Str.ofString "mask") _) _) _ _ _); k_dflt (refine kcf_cell (by k_asm) (by rfl) (List.mem_cons_of_mem _ (List.mem_cons_of_mem _ (List.mem_cons_of_mem _ (by assumption)))) (by assumption) ?_)))
set_option maxHeartbeats 1600000 in
theorem inner_comp (w : World) (mean : ExcName → Option Value) (mg mb : Str → Option Value) (dp un : Nat) (gd : Option (List Code)) (L a : Addr) (ccd : Value) (A₀ : Around) (base h₀ : Heap) (m : Str → Option Value) (s : Shared) (Q E : Value → Shared → Prop)
    (cy cp cs c1 C1 : Nat) (oc1 op : Obj) (mk : Int) (tmk tp : Tok) (p : Nat) (news : List (Addr × Obj))
    (B : Below A₀ base [] h₀) (F : Fr h₀ L s.heap m) (X : (hd.heap_39 w.params).In h₀)
    (N : News h₀ L s.heap news) (hmc : (c1, oc1) ∈ news) (hmp : (cp, op) ∈ news) (T : Top hd.view_39 (looseW hd.view_39 []) mean mg mb h₀)
    (hoc1 : oc1.data = .cell (some (.int mk tmk))) (hop : op.data = .cell (some (.int (p : Int) tp))) (hp13 : p ≤ 13)
    (ret : ∀ (D : Nat) ys h' tk', Fr h₀ L h' m → News h₀ L h' ((D, LCg.lst ys) :: news) → IntsAre ys (onesOf mk p) → (∀ q ∈ news, q.1 ≠ D) → Q (.ref D) { s with heap := h', toks := tk' }) :
    wpAny (model PySem.Challenge.rw_xm0435_01.row.prog w) (ktrTop dp un gd (Str.ofString "law") lawScope L a ccd [(Str.ofString "step", cs), (Str.ofString "prime", cp), (Str.ofString "yard", cy)] [])
      (eval (compElt 3) (compEnvC (compScope 3) [(Str.ofString "mask", c1), (Str.ofString "prime", cp)] C1 (envX (Str.ofString "law") lawScope L a ccd [(Str.ofString "step", cs), (Str.ofString "prime", cp), (Str.ofString "yard", cy)]))) Q E s := by
  have kf : Mine.hd.heap_39 w.params = Mine.hd.heap_39 w.params := rfl
  revert kf
  w_on
  w_top off
  k_fill
  intro _
  k_with_none
  with_unfolding_all show wpAny _ _ (eval (PySem.Expr.ListComp _ _ _ _) _) _ _ _
  k_steps
  refine Stop.back ?_
  rename_i hR hF hN hK
  (k_dflt (refine LCt.CompSrcT.range (by rfl) hF hN hR (small_one (by decide) (by decide) (by omega) (by omega)) (rangeSize_nat _ _) (by (rw [PySem.sizeLine_eq]; omega)) ?_))
  intro g'
  refine' kci_range (onesStep mk) (fun k t I oI C oC D m₂ ys l h tk E' hlo hhi hys hC hx F' N' off ne mkk => ?_) ?_ ?_
  · have hk1 : k ≤ 1000000 := by omega
    have h2 : (2 : Int) ^ k.toNat ≠ 0 := Int.ne_of_gt (kbt_pos _)
    (try dsimp only)
    (try k_fold)
    k_steps
    · exact LCg.CompEnd.intro (by assumption) (by assumption) news (fun _ h => h) off trivial ⟨rfl, k, _, rfl, if_pos (by assumption)⟩
    · exact LCg.CompEnd.intro (by assumption) (by assumption) news (fun _ h => h) off trivial ⟨rfl, if_neg (by assumption)⟩
  · intro ys hy _
    unfold LCg.FinE
    intro D h tk F' N' off
    have e : ((p : Int) - 0).toNat = p := by omega
    rw [e] at hy
    exact ret D ys h tk F' N' hy (off1_mem off)
  · intro l k
    unfold onesStep
    split <;> simp
end Mine
end PartXInner

section PartXPure
open PySem PySem.W PyProof.Rows PySem.Calls
namespace Mine
def IsRow (p : Nat) (o : List Int) : Prop := (∀ x ∈ o, 0 ≤ x ∧ x < (p : Int)) ∧ 0 < o.length ∧ o.length ≤ p ∧ o.Nodup

theorem ones_fold (mk : Int) : ∀ (n : Nat), (∀ x ∈ onesOf mk n, 0 ≤ x ∧ x < (n : Int)) ∧ (onesOf mk n).length ≤ n ∧ (onesOf mk n).Nodup ∧ ∀ j : Nat, j < n → (mk.fdiv (2 ^ j)).fmod 2 = 1 → (j : Int) ∈ onesOf mk n := by
  intro n
  induction n with
  | zero => exact ⟨fun x h => (nomatch h), Nat.le_refl _, List.nodup_nil, fun j h => absurd h (Nat.not_lt_zero _)⟩
  | succ n ih =>
    have e : onesOf mk (n + 1) = onesStep mk (onesOf mk n) (n : Int) := by
      unfold onesOf rangeKs
      rw [List.range_succ, List.map_append, List.foldl_append]
      simp
    obtain ⟨h1, h2, h3, h4⟩ := ih
    rw [e]
    unfold onesStep
    rw [Int.toNat_natCast]
    by_cases h : (mk.fdiv (2 ^ n)).fmod 2 = 1
    · rw [if_pos h]
      refine ⟨fun x hx => ?_, by rw [List.length_append, List.length_singleton]; omega, ?_, fun j hj hb => ?_⟩
      · rcases List.mem_append.mp hx with hx | hx
        · have := h1 x hx; omega
        · rw [List.mem_singleton.mp hx]; omega
      · rw [List.nodup_append]
        refine ⟨h3, by simp, fun a ha b hb => ?_⟩
        rw [List.mem_singleton.mp hb]
        have := h1 a ha
        omega
      · by_cases hjn : j = n
        · subst hjn; exact List.mem_append.mpr (.inr (List.mem_singleton.mpr rfl))
        · exact List.mem_append.mpr (.inl (h4 j (by omega) hb))
    · rw [if_neg h]
      refine ⟨fun x hx => ?_, by omega, h3, fun j hj hb => ?_⟩
      · have := h1 x hx; omega
      · by_cases hjn : j = n
        · subst hjn; exact absurd hb h
        · exact h4 j (by omega) hb

/-- a number of 1 to 2^p - 1 has a one below p -/
theorem has_one : ∀ (p m : Nat), 1 ≤ m → m < 2 ^ p → ∃ j, j < p ∧ m / 2 ^ j % 2 = 1
  | 0, m, h, h2 => by simp at h2; omega
  | p + 1, m, h, h2 => by
    by_cases hodd : m % 2 = 1
    · exact ⟨0, by omega, by simpa using hodd⟩
    · have h3 : 1 ≤ m / 2 := by omega
      have h4 : m / 2 < 2 ^ p := by rw [Nat.pow_succ] at h2; omega
      obtain ⟨j, hj, e⟩ := has_one p (m / 2) h3 h4
      refine ⟨j + 1, by omega, ?_⟩
      rw [Nat.pow_succ, Nat.mul_comm, ← Nat.div_div_eq_div_mul]
      exact e

theorem ones_row {mk : Int} {p : Nat} (h : MaskOk p mk) : IsRow p (onesOf mk p) := by
  obtain ⟨h1, h2, h3, h4⟩ := ones_fold mk p
  refine ⟨h1, ?_, h2, h3⟩
  obtain ⟨hm1, hm2⟩ := h
  obtain ⟨m, rfl⟩ : ∃ m : Nat, mk = (m : Int) := ⟨mk.toNat, by omega⟩
  have hp : ((2 ^ p : Nat) : Int) = (2 : Int) ^ p := by simp
  obtain ⟨j, hj, e⟩ := has_one p m (by omega) (by rw [← hp] at hm2; omega)
  have hj2 : ((2 ^ j : Nat) : Int) = (2 : Int) ^ j := by simp
  have hmem := h4 j hj (by
    rw [← hj2, Int.fdiv_eq_ediv_of_nonneg _ (Int.natCast_nonneg _), Int.fmod_eq_emod_of_nonneg _ (by decide)]
    have : ((m : Int) / ((2 ^ j : Nat) : Int)) % 2 = ((m / 2 ^ j % 2 : Nat) : Int) := by simp
    rw [this, e]; rfl)
  exact List.length_pos_of_mem hmem
end Mine
end PartXPure

section PartXCD
open PySem PySem.W PyProof.Rows PySem.Calls
namespace Mine
def cntB : Nat → (Nat → Bool) → Nat
  | 0, _ => 0
  | n + 1, A => cntB n A + (if A n = true then 1 else 0)
theorem cntB_mono {A B : Nat → Bool} : ∀ n, (∀ x, x < n → A x = true → B x = true) → cntB n A ≤ cntB n B
  | 0, _ => Nat.le_refl _
  | n + 1, h => by
    have ih := cntB_mono (A := A) (B := B) n fun x hx => h x (by omega)
    have h1 := h n (by omega)
    simp only [cntB]
    by_cases ha : A n = true
    · rw [if_pos ha, if_pos (h1 ha)]; omega
    · rw [if_neg ha]; omega
theorem cntB_le {A : Nat → Bool} : ∀ n, cntB n A ≤ n
  | 0 => Nat.le_refl _
  | n + 1 => by
    have ih := cntB_le (A := A) n
    simp only [cntB]; split <;> omega
theorem cntB_all {A : Nat → Bool} : ∀ n, (∀ x, x < n → A x = true) → cntB n A = n
  | 0, _ => rfl
  | n + 1, h => by
    have ih := cntB_all (A := A) n fun x hx => h x (by omega)
    simp only [cntB]; rw [if_pos (h n (by omega)), ih]
theorem cntB_congr {A B : Nat → Bool} (n : Nat) (h : ∀ x, x < n → A x = B x) : cntB n A = cntB n B :=
  Nat.le_antisymm (cntB_mono n fun x hx e => by rw [← h x hx]; exact e) (cntB_mono n fun x hx e => by rw [h x hx]; exact e)
theorem cntB_pos {A : Nat → Bool} {x : Nat} : ∀ n, x < n → A x = true → 1 ≤ cntB n A
  | 0, h, _ => absurd h (Nat.not_lt_zero _)
  | n + 1, h, e => by
    simp only [cntB]
    by_cases hx : x = n
    · subst hx; rw [if_pos e]; omega
    · have := cntB_pos n (by omega) e; omega
theorem cntB_lt {A B : Nat → Bool} {x : Nat} : ∀ n, (∀ x, x < n → A x = true → B x = true) → x < n → B x = true → A x = false → cntB n A < cntB n B
  | 0, _, h, _, _ => absurd h (Nat.not_lt_zero _)
  | n + 1, h, hx, hB, hA => by
    simp only [cntB]
    by_cases e : x = n
    · subst e
      have := cntB_mono (A := A) (B := B) x fun z hz => h z (by omega)
      rw [if_pos hB, if_neg (by rw [hA]; decide)]; omega
    · have ih := cntB_lt n (fun z hz => h z (by omega)) (by omega) hB hA
      have h1 := h n (by omega)
      by_cases ha : A n = true
      · rw [if_pos ha, if_pos (h1 ha)]; omega
      · rw [if_neg ha]; omega
theorem cntB_ex {A : Nat → Bool} : ∀ n, 1 ≤ cntB n A → ∃ a, a < n ∧ A a = true
  | 0, h => by simp [cntB] at h
  | n + 1, h => by
    by_cases ha : A n = true
    · exact ⟨n, by omega, ha⟩
    · simp only [cntB] at h
      rw [if_neg ha] at h
      obtain ⟨a, h1, h2⟩ := cntB_ex n h
      exact ⟨a, by omega, h2⟩
theorem cntB_two {A : Nat → Bool} : ∀ n, 2 ≤ cntB n A → ∃ a b, a < b ∧ b < n ∧ A a = true ∧ A b = true
  | 0, h => by simp [cntB] at h
  | n + 1, h => by
    simp only [cntB] at h
    by_cases ha : A n = true
    · rw [if_pos ha] at h
      obtain ⟨a, h1, h2⟩ := cntB_ex n (A := A) (by omega)
      exact ⟨a, n, h1, by omega, h2, ha⟩
    · rw [if_neg ha] at h
      obtain ⟨a, b, h1, h2, h3⟩ := cntB_two n h
      exact ⟨a, b, h1, by omega, h3⟩
theorem cntB_or_and {A B : Nat → Bool} : ∀ n, cntB n (fun x => A x || B x) + cntB n (fun x => A x && B x) = cntB n A + cntB n B
  | 0 => rfl
  | n + 1 => by
    have ih := cntB_or_and (A := A) (B := B) n
    simp only [cntB]
    by_cases ha : A n = true <;> by_cases hb : B n = true <;> simp [ha, hb] <;> omega
def Per (p : Nat) (A : Nat → Bool) : Prop := ∀ x, A (x + p) = A x
theorem Per.mul {p : Nat} {A : Nat → Bool} (h : Per p A) (x : Nat) : ∀ k, A (x + p * k) = A x
  | 0 => by simp
  | k + 1 => by rw [Nat.mul_succ, ← Nat.add_assoc, h, h.mul x k]
theorem cntB_step {A : Nat → Bool} : ∀ n, cntB n (fun x => A (x + 1)) + (if A 0 = true then 1 else 0) = cntB n A + (if A n = true then 1 else 0)
  | 0 => by simp [cntB]
  | n + 1 => by
    have ih := cntB_step (A := A) n
    simp only [cntB]; omega
theorem cntB_sh {p : Nat} {A : Nat → Bool} (h : Per p A) : ∀ e, cntB p (fun x => A (x + e)) = cntB p A
  | 0 => by simp
  | e + 1 => by
    have ih := cntB_sh h e
    have st := cntB_step (A := fun x => A (x + e)) p
    have e1 : A (0 + e) = A (p + e) := by rw [Nat.zero_add, Nat.add_comm p e, h]
    simp only [e1] at st
    have e2 : cntB p (fun x => A (x + (e + 1))) = cntB p (fun x => A (x + 1 + e)) := cntB_congr p fun x _ => by rw [Nat.add_assoc, Nat.add_comm 1 e]
    rw [e2]
    omega

theorem closed_all {p d a : Nat} {A : Nat → Bool} (hp : 0 < p) (hA : Per p A) (hd : ∃ c t, c * d = 1 + p * t) (ha : A a = true) (hc : ∀ x, A x = true → A (x + d) = true) : ∀ y, A y = true := by
  intro y
  obtain ⟨c, t, e⟩ := hd
  have step : ∀ m, A (a + m * d) = true := by
    intro m
    induction m with
    | zero => simpa using ha
    | succ m ih => rw [Nat.succ_mul, ← Nat.add_assoc]; exact hc _ ih
  obtain ⟨q, rfl⟩ : ∃ q, p = q + 1 := ⟨p - 1, by omega⟩
  have h := step (c * (y + q * a))
  have e2 : a + c * (y + q * a) * d = y + (q + 1) * (a + t * (y + q * a)) := by
    have e3 : c * (y + q * a) * d = (c * d) * (y + q * a) := by
      rw [Nat.mul_assoc, Nat.mul_comm (y + q * a) d, ← Nat.mul_assoc]
    have e4 : ∀ Z, (1 + (q + 1) * t) * Z = Z + (q + 1) * (t * Z) := fun Z => by rw [Nat.add_mul, Nat.one_mul, Nat.mul_assoc]
    have e5 : ∀ W, (q + 1) * (a + W) = q * a + a + (q + 1) * W := fun W => by rw [Nat.mul_add, Nat.succ_mul q a]
    rw [e3, e, e4, e5]
    generalize (q + 1) * (t * (y + q * a)) = W
    omega
  rw [e2, hA.mul] at h
  exact h

theorem cd {p : Nat} (hp : 0 < p) (inv : ∀ d, 0 < d → d < p → ∃ c t, c * d = 1 + p * t) : ∀ (n : Nat) (A B T : Nat → Bool), Per p A → Per p B → Per p T → cntB p B ≤ n → 1 ≤ cntB p A → 1 ≤ cntB p B →
    (∀ x y, A x = true → B y = true → T (x + y) = true) → min p (cntB p A + cntB p B - 1) ≤ cntB p T := by
  intro n
  induction n with
  | zero => intro A B T _ _ _ h _ h2; omega
  | succ n ih =>
    intro A B T pA pB pT hn hA hB hT
    have low : cntB p A ≤ cntB p T := by
      obtain ⟨b, _, hb⟩ := cntB_ex p hB
      rw [← cntB_sh pT b]
      exact cntB_mono p fun x _ hx => hT x b hx hb
    by_cases h1 : cntB p B ≤ 1
    · have : min p (cntB p A + cntB p B - 1) ≤ cntB p A + cntB p B - 1 := Nat.min_le_right _ _
      omega
    obtain ⟨b, b', hbb, hb'p, hb, hb'⟩ := cntB_two p (A := B) (by omega)
    by_cases hcl : ∃ a, A a = true ∧ A (a + (b' - b)) = false
    · obtain ⟨a, ha, had⟩ := hcl
      obtain ⟨q, rfl⟩ : ∃ q, p = q + 1 := ⟨p - 1, by omega⟩
      -- e with b + e = a modulo p, and its opposite
      let e := a + q * b
      let f := q * e
      have hbe : b + e = a + (q + 1) * b := by show b + (a + q * b) = _; rw [Nat.succ_mul]; omega
      have hbe' : b' + e = a + (b' - b) + (q + 1) * b := by show b' + (a + q * b) = _; rw [Nat.succ_mul]; omega
      have hef : ∀ x, x + e + f = x + (q + 1) * e := fun x => by show x + e + q * e = _; rw [Nat.succ_mul]; omega
      have hfe : ∀ x, x + f + e = x + (q + 1) * e := fun x => by show x + q * e + e = _; rw [Nat.succ_mul]; omega
      let A' : Nat → Bool := fun x => A x || B (x + f)
      let B' : Nat → Bool := fun x => B x && A (x + e)
      have pA' : Per (q + 1) A' := fun x => by
        show (A (x + (q + 1)) || B (x + (q + 1) + f)) = _
        rw [pA, show x + (q + 1) + f = x + f + (q + 1) by omega, pB]
      have pB' : Per (q + 1) B' := fun x => by
        show (B (x + (q + 1)) && A (x + (q + 1) + e)) = _
        rw [pB, show x + (q + 1) + e = x + e + (q + 1) by omega, pA]
      have cB' : cntB (q + 1) B' = cntB (q + 1) (fun x => A x && B (x + f)) := by
        rw [← cntB_sh pB' f]
        refine cntB_congr _ fun x _ => ?_
        show (B (x + f) && A (x + f + e)) = _
        rw [hfe, pA.mul, Bool.and_comm]
      have sum : cntB (q + 1) A' + cntB (q + 1) B' = cntB (q + 1) A + cntB (q + 1) B := by
        rw [cB']
        have h := cntB_or_and (A := A) (B := fun x => B (x + f)) (q + 1)
        rw [cntB_sh pB f] at h
        exact h
      have hB'1 : 1 ≤ cntB (q + 1) B' := cntB_pos (x := b) _ (by omega) (by
        show (B b && A (b + e)) = true
        rw [hb, hbe, pA.mul, ha]; rfl)
      have hB'2 : cntB (q + 1) B' < cntB (q + 1) B := cntB_lt (x := b') _ (fun x _ hx => (Bool.and_eq_true_iff.mp hx).1) hb'p hb' (by
        show (B b' && A (b' + e)) = false
        rw [hbe', pA.mul, had, Bool.and_false])
      have hA'1 : 1 ≤ cntB (q + 1) A' := Nat.le_trans hA (cntB_mono _ fun x _ hx => by show (A x || B (x + f)) = true; rw [hx]; rfl)
      have hT' : ∀ x y, A' x = true → B' y = true → T (x + y) = true := by
        intro x y hx hy
        obtain ⟨hy1, hy2⟩ := Bool.and_eq_true_iff.mp (show (B y && A (y + e)) = true from hy)
        rcases Bool.or_eq_true_iff.mp (show (A x || B (x + f)) = true from hx) with hx | hx
        · exact hT x y hx hy1
        · have h := hT _ _ hy2 hx
          rw [show y + e + (x + f) = x + y + e + f by omega, hef, pT.mul] at h
          exact h
      have := ih A' B' T pA' pB' pT (by omega) hA'1 hB'1 hT'
      rw [sum] at this
      exact this
    · have hc : ∀ x, A x = true → A (x + (b' - b)) = true := fun x hx => by
        cases h : A (x + (b' - b)) with
        | true => rfl
        | false => exact absurd ⟨x, hx, h⟩ hcl
      obtain ⟨a, _, ha⟩ := cntB_ex p hA
      have all := closed_all hp pA (inv (b' - b) (by omega) (by omega)) ha hc
      have e := cntB_all (A := A) p fun x _ => all x
      have : min p (cntB p A + cntB p B - 1) ≤ p := Nat.min_le_left _ _
      omega

theorem inv_dec : ∀ p ∈ [5, 7, 11, 13], ∀ d ∈ List.range p, d = 0 ∨ ∃ c ∈ List.range p, c * d % p = 1 := by decide
theorem inv_of {p : Nat} (h : IsP p) : ∀ d, 0 < d → d < p → ∃ c t, c * d = 1 + p * t := by
  intro d h0 hd
  have hm : p ∈ [5, 7, 11, 13] := by rcases h with rfl | rfl | rfl | rfl <;> decide
  rcases inv_dec p hm d (List.mem_range.mpr hd) with e | ⟨c, _, e⟩
  · omega
  · exact ⟨c, c * d / p, by rw [← e, Nat.mod_add_div]⟩
end Mine
end PartXCD

section PartXSum
open PySem PySem.W PyProof.Rows PySem.Calls
namespace Mine
def sumTo : Nat → (Nat → Int) → Int
  | 0, _ => 0
  | n + 1, f => sumTo n f + f n
theorem sumTo_congr {f g : Nat → Int} : ∀ n, (∀ i, i < n → f i = g i) → sumTo n f = sumTo n g
  | 0, _ => rfl
  | n + 1, h => by simp only [sumTo]; rw [sumTo_congr n fun i hi => h i (by omega), h n (by omega)]
theorem sumTo_add {f g : Nat → Int} : ∀ n, sumTo n (fun i => f i + g i) = sumTo n f + sumTo n g
  | 0 => rfl
  | n + 1 => by simp only [sumTo]; rw [sumTo_add n]; omega
theorem sumTo_zero : ∀ n, sumTo n (fun _ => 0) = 0
  | 0 => rfl
  | n + 1 => by simp only [sumTo]; rw [sumTo_zero n]; rfl
theorem sumTo_one {f : Nat → Int} {j : Nat} : ∀ n, sumTo n (fun i => if i = j then f i else 0) = if j < n then f j else 0
  | 0 => rfl
  | n + 1 => by
    simp only [sumTo]
    rw [sumTo_one n]
    by_cases h1 : j < n
    · rw [if_pos h1, if_neg (by omega), if_pos (by omega)]; omega
    · by_cases h2 : n = j
      · subst h2; rw [if_neg h1, if_pos rfl, if_pos (by omega)]; omega
      · rw [if_neg h1, if_neg h2, if_neg (by omega)]; rfl
theorem sumTo_ext {f : Nat → Int} {n : Nat} : ∀ d, (∀ i, n ≤ i → f i = 0) → sumTo (n + d) f = sumTo n f
  | 0, _ => rfl
  | d + 1, h => by
    show sumTo (n + d) f + f (n + d) = _
    rw [sumTo_ext d h, h _ (by omega)]; omega
def ind (o : List Int) (j : Nat) : Int := if (o.any fun x => x == (j : Int)) = true then 1 else 0
theorem ind_out {o : List Int} {p j : Nat} (h : ∀ x ∈ o, 0 ≤ x ∧ x < (p : Int)) (hj : p ≤ j) : ind o j = 0 := by
  unfold ind
  rw [if_neg]
  intro e
  obtain ⟨x, hx, e⟩ := List.any_eq_true.mp e
  have := h x hx
  have e2 : x = (j : Int) := by simpa using e
  omega
theorem ind_cons {z : Nat} {o : List Int} (hz : (z : Int) ∉ o) (j : Nat) : ind ((z : Int) :: o) j = (if j = z then 1 else 0) + ind o j := by
  unfold ind
  rw [List.any_cons]
  by_cases h : j = z
  · subst h
    have h2 : (o.any fun x => x == (j : Int)) = false := by
      rw [List.any_eq_false]
      intro x hx e
      have e2 : x = (j : Int) := by simpa using e
      exact hz (e2 ▸ hx)
    rw [h2]; simp
  · have h3 : ((z : Int) == (j : Int)) = false := by
      rw [beq_eq_false_iff_ne]
      intro e; exact h (by omega)
    rw [h3, if_neg h, Bool.false_or]; omega
theorem sum_ind {p : Nat} (g : Int → Int) : ∀ {o : List Int}, o.Nodup → (∀ x ∈ o, 0 ≤ x ∧ x < (p : Int)) → (o.map g).sum = sumTo p (fun j => ind o j * g (j : Int))
  | [], _, _ => by
    rw [sumTo_congr p (g := fun _ => 0) fun i _ => by simp [ind]]
    rw [sumTo_zero]; rfl
  | x :: o, hn, hb => by
    obtain ⟨z, rfl⟩ : ∃ z : Nat, x = (z : Int) := ⟨x.toNat, by have := (hb x (.head _)).1; omega⟩
    have hz : (z : Int) ∉ o := (List.nodup_cons.mp hn).1
    rw [List.map_cons, List.sum_cons, sum_ind g (List.nodup_cons.mp hn).2 fun y hy => hb y (.tail _ hy)]
    have e := sumTo_congr (f := fun j => ind ((z : Int) :: o) j * g (j : Int)) p (g := fun j => (if j = z then g (j : Int) else 0) + ind o j * g (j : Int)) fun i _ => by
      rw [ind_cons hz, Int.add_mul]
      by_cases h : i = z
      · rw [if_pos h, if_pos h, Int.one_mul]
      · rw [if_neg h, if_neg h, Int.zero_mul]
    rw [e, sumTo_add, sumTo_one (f := fun j => g (j : Int)), if_pos (by have := (hb (z : Int) (.head _)).2; omega)]
theorem sum_mod {i j k p : Nat} (hi : i < p) (hj : j < p) (hk : k < p) : ((i : Int) + (j : Int)).fmod (p : Int) = (k : Int) ↔ j = if i ≤ k then k - i else p + k - i := by
  rw [Int.fmod_eq_emod_of_nonneg _ (by omega)]
  have e : ((i : Int) + (j : Int)) % (p : Int) = ((i + j) % p : Nat) := by simp
  rw [e]
  have e2 : (i + j) % p = if i + j < p then i + j else i + j - p := by
    split
    · rename_i h; exact Nat.mod_eq_of_lt h
    · rename_i h
      rw [Nat.mod_eq_sub_mod (by omega), Nat.mod_eq_of_lt (by omega)]
  rw [e2]
  split <;> split <;> omega
theorem cnt1_ind {o : List Int} {i p k : Nat} (hn : o.Nodup) (hb : ∀ x ∈ o, 0 ≤ x ∧ x < (p : Int)) (hi : i < p) (hk : k < p) : cnt1 (i : Int) o (p : Int) k = ind o (if i ≤ k then k - i else p + k - i) := by
  unfold cnt1
  rw [sum_ind (p := p) (fun y => if ((i : Int) + y).fmod (p : Int) = (k : Int) then (1 : Int) else 0) hn hb]
  rw [sumTo_congr p (g := fun j => if j = (if i ≤ k then k - i else p + k - i) then ind o j else 0) fun j hj => by
    by_cases h : ((i : Int) + (j : Int)).fmod (p : Int) = (k : Int)
    · rw [if_pos h, if_pos ((sum_mod hi hj hk).mp h), Int.mul_one]
    · rw [if_neg h, if_neg (fun e => h ((sum_mod hi hj hk).mpr e)), Int.mul_zero]]
  rw [sumTo_one (f := fun j => ind o j)]
  rw [if_pos (by split <;> omega)]
theorem convI_sum {a b : List Int} {k : Nat} : ∀ n, convI a b n k = sumTo n (fun i => if i ≤ k then a.getD i 0 * b.getD (k - i) 0 else 0)
  | 0 => rfl
  | n + 1 => by simp only [convI, sumTo]; rw [convI_sum n]
theorem conv_cnt {o1 o2 r1 r2 : List Int} {p k : Nat} (hn1 : o1.Nodup) (hn2 : o2.Nodup) (hb1 : ∀ x ∈ o1, 0 ≤ x ∧ x < (p : Int)) (hb2 : ∀ x ∈ o2, 0 ≤ x ∧ x < (p : Int))
    (h1 : ∀ k : Nat, r1.getD k 0 = if (o1.any fun x => x == (k : Int)) = true then 1 else 0) (h2 : ∀ k : Nat, r2.getD k 0 = if (o2.any fun x => x == (k : Int)) = true then 1 else 0) (hl1 : r1.length ≤ p) (hk : k < p) :
    convI r1 r2 r1.length k + convI r1 r2 r1.length (p + k) = cntL o1 o2 (p : Int) k := by
  have e1 : cntL o1 o2 (p : Int) k = sumTo p (fun i => ind o1 i * cnt1 (i : Int) o2 (p : Int) k) := by
    unfold cntL
    exact sum_ind (p := p) (fun x => cnt1 x o2 (p : Int) k) hn1 hb1
  rw [e1, convI_sum, convI_sum, ← sumTo_add]
  obtain ⟨d, hd⟩ : ∃ d, p = r1.length + d := ⟨p - r1.length, by omega⟩
  have ext := sumTo_ext (n := r1.length) (f := fun i => (if i ≤ k then r1.getD i 0 * r2.getD (k - i) 0 else 0) + (if i ≤ p + k then r1.getD i 0 * r2.getD (p + k - i) 0 else 0)) d (fun i hi => by
    have e : r1.getD i 0 = 0 := by simp [List.getD, hi]
    simp only [e, Int.zero_mul]
    simp)
  rw [← hd] at ext
  rw [← ext]
  refine sumTo_congr p fun i hi => ?_
  rw [cnt1_ind hn2 hb2 hi hk]
  have f1 : r1.getD i 0 = ind o1 i := h1 i
  have f2 : ∀ j, r2.getD j 0 = ind o2 j := h2
  rw [f1, f2, f2, if_pos (show i ≤ p + k by omega)]
  by_cases h : i ≤ k
  · rw [if_pos h, if_pos h, ind_out hb2 (show p ≤ p + k - i by omega), Int.mul_zero]; omega
  · rw [if_neg h, if_neg h]; omega
theorem list_eq_getD {a b : List Int} (hl : a.length = b.length) (h : ∀ k, k < a.length → a.getD k 0 = b.getD k 0) : a = b := by
  refine List.ext_getElem hl fun i h1 h2 => ?_
  have := h i h1
  simpa [List.getD, h1, h2] using this
theorem ways_eq {o1 o2 r1 r2 rs rc : List Int} {p : Nat} (hn1 : o1.Nodup) (hn2 : o2.Nodup) (hb1 : ∀ x ∈ o1, 0 ≤ x ∧ x < (p : Int)) (hb2 : ∀ x ∈ o2, 0 ≤ x ∧ x < (p : Int))
    (h1 : ∀ k : Nat, r1.getD k 0 = if (o1.any fun x => x == (k : Int)) = true then 1 else 0) (h2 : ∀ k : Nat, r2.getD k 0 = if (o2.any fun x => x == (k : Int)) = true then 1 else 0) (hl1 : r1.length ≤ p)
    (hrs : rs.length = p) (hs : ∀ k, k < p → rs.getD k 0 = convI r1 r2 r1.length k + convI r1 r2 r1.length (p + k)) (hrc : (rc.length : Int) = (p : Int)) (hc : ∀ k, k < rc.length → rc.getD k 0 = cntL o1 o2 (p : Int) k) : rc = rs := by
  refine list_eq_getD (by omega) fun k hk => ?_
  rw [hc k hk, hs k (by omega), conv_cnt hn1 hn2 hb1 hb2 h1 h2 hl1 (by omega)]
end Mine
end PartXSum

section PartXRows
open PySem PySem.W PyProof.Rows PySem.Calls
namespace Mine
theorem cnt1_total {p : Nat} (hp : 0 < p) (x : Int) : ∀ o : List Int, sumTo p (fun k => cnt1 x o (p : Int) k) = (o.length : Int)
  | [] => by
    have e := sumTo_congr (f := fun k => cnt1 x [] (p : Int) k) p (g := fun _ => 0) fun i _ => rfl
    rw [e, sumTo_zero]; rfl
  | y :: o => by
    have ih := cnt1_total hp x o
    have h0 : 0 ≤ (x + y).fmod (p : Int) := Int.fmod_nonneg_of_pos _ (by omega)
    have h1 : (x + y).fmod (p : Int) < (p : Int) := Int.fmod_lt_of_pos _ (by omega)
    have e := sumTo_congr (f := fun k => cnt1 x (y :: o) (p : Int) k) p (g := fun k => (if k = ((x + y).fmod (p : Int)).toNat then 1 else 0) + cnt1 x o (p : Int) k) fun i _ => by
      unfold cnt1
      rw [List.map_cons, List.sum_cons]
      congr 1
      by_cases h : (x + y).fmod (p : Int) = (i : Int)
      · rw [if_pos h, if_pos (by omega)]
      · rw [if_neg h, if_neg (by omega)]
    rw [e, sumTo_add, ih, sumTo_one (f := fun _ => 1), if_pos (by omega), List.length_cons]
    omega
theorem cntL_total {p : Nat} (hp : 0 < p) (o2 : List Int) : ∀ o1 : List Int, sumTo p (fun k => cntL o1 o2 (p : Int) k) = (o1.length : Int) * (o2.length : Int)
  | [] => by
    have e := sumTo_congr (f := fun k => cntL [] o2 (p : Int) k) p (g := fun _ => 0) fun i _ => rfl
    rw [e, sumTo_zero]; simp
  | x :: o => by
    have ih := cntL_total hp o2 o
    have e := sumTo_congr (f := fun k => cntL (x :: o) o2 (p : Int) k) p (g := fun k => cnt1 x o2 (p : Int) k + cntL o o2 (p : Int) k) fun i _ => by
      unfold cntL
      rw [List.map_cons, List.sum_cons]
    rw [e, sumTo_add, ih, cnt1_total hp, List.length_cons]
    rw [show ((o.length + 1 : Nat) : Int) = (o.length : Int) + 1 by omega, Int.add_mul, Int.one_mul]
    omega
theorem take_succ' {ns : List Int} {n : Nat} (h : n < ns.length) : ns.take (n + 1) = ns.take n ++ [ns.getD n 0] := by
  rw [List.take_add_one]
  simp [List.getD, h]
theorem sum_take {ns : List Int} : ∀ n, n ≤ ns.length → (ns.take n).sum = sumTo n (fun k => ns.getD k 0)
  | 0, _ => rfl
  | n + 1, h => by
    rw [take_succ' (by omega), List.sum_append, sum_take n (by omega)]
    simp [sumTo]
theorem rc_sum {p : Nat} (hp : 0 < p) {o1 o2 rc : List Int} (hl : (rc.length : Int) = (p : Int)) (hc : ∀ k, k < rc.length → rc.getD k 0 = cntL o1 o2 (p : Int) k) : rc.sum = (o1.length : Int) * (o2.length : Int) := by
  have h := sum_take (ns := rc) rc.length (Nat.le_refl _)
  rw [List.take_length] at h
  rw [h, sumTo_congr rc.length hc, show rc.length = p by omega, cntL_total hp]
theorem filt_cnt {ns : List Int} : ∀ n, n ≤ ns.length → ((ns.take n).filter fun x => decide (0 < x)).length = cntB n (fun k => decide (0 < ns.getD k 0))
  | 0, _ => rfl
  | n + 1, h => by
    rw [take_succ' (by omega), List.filter_append, List.length_append, filt_cnt n (by omega)]
    simp only [cntB]
    congr 1
    have key : ∀ v : Int, ([v].filter fun x => decide (0 < x)).length = if decide (0 < v) = true then 1 else 0 := fun v => by
      by_cases h : 0 < v
      · simp [h]
      · simp [h]
    exact key _
theorem filt_len {ns : List Int} : (ns.filter fun x => decide (0 < x)).length = cntB ns.length (fun k => decide (0 < ns.getD k 0)) := by
  have h := filt_cnt (ns := ns) ns.length (Nat.le_refl _)
  rw [List.take_length] at h
  exact h
theorem cntB_sum {A : Nat → Bool} : ∀ n, ((cntB n A : Nat) : Int) = sumTo n (fun j => if A j = true then 1 else 0)
  | 0 => rfl
  | n + 1 => by
    simp only [cntB, sumTo]
    rw [← cntB_sum n]
    split <;> omega
theorem sum_ones : ∀ o : List Int, (o.map fun _ => (1 : Int)).sum = (o.length : Int)
  | [] => rfl
  | x :: o => by rw [List.map_cons, List.sum_cons, sum_ones o, List.length_cons]; omega
def inRow (p : Nat) (o : List Int) (x : Nat) : Bool := o.any fun z => z == ((x % p : Nat) : Int)
theorem inRow_per (p : Nat) (o : List Int) : Per p (inRow p o) := fun x => by unfold inRow; rw [Nat.add_mod_right]
theorem inRow_cnt {p : Nat} {o : List Int} (hn : o.Nodup) (hb : ∀ x ∈ o, 0 ≤ x ∧ x < (p : Int)) : cntB p (inRow p o) = o.length := by
  have h1 := cntB_sum (A := inRow p o) p
  have h2 := sum_ind (p := p) (fun _ => 1) hn hb
  rw [sum_ones] at h2
  have h3 : sumTo p (fun j => if inRow p o j = true then (1 : Int) else 0) = sumTo p (fun j => ind o j * 1) := sumTo_congr p fun i hi => by
    unfold inRow ind
    rw [Nat.mod_eq_of_lt hi, Int.mul_one]
  rw [h3, ← h2] at h1
  omega
theorem sum_ge : ∀ l : List Int, (∀ x ∈ l, 0 ≤ x) → 0 ≤ l.sum ∧ ∀ x ∈ l, x ≤ l.sum
  | [], _ => ⟨Int.le_refl _, fun _ h => nomatch h⟩
  | y :: l, h => by
    obtain ⟨h1, h2⟩ := sum_ge l fun x hx => h x (.tail _ hx)
    have hy := h y (.head _)
    rw [List.sum_cons]
    refine ⟨by omega, fun x hx => ?_⟩
    rcases List.mem_cons.mp hx with rfl | hx
    · omega
    · have := h2 x hx; omega
theorem sum_ex : ∀ l : List Int, 0 < l.sum → ∃ x ∈ l, 0 < x
  | [], h => absurd h (by decide)
  | y :: l, h => by
    rw [List.sum_cons] at h
    by_cases hy : 0 < y
    · exact ⟨y, .head _, hy⟩
    · obtain ⟨x, hx, h2⟩ := sum_ex l (by omega)
      exact ⟨x, .tail _ hx, h2⟩
theorem cnt1_nonneg (x : Int) (o : List Int) (p : Int) (k : Nat) : 0 ≤ cnt1 x o p k := by
  refine (sum_ge _ fun y hy => ?_).1
  obtain ⟨z, _, rfl⟩ := List.mem_map.mp hy
  split <;> decide
theorem cntL_pos {x y p : Int} {o1 o2 : List Int} {k : Nat} (hx : x ∈ o1) (hy : y ∈ o2) (h : (x + y).fmod p = (k : Int)) : 0 < cntL o1 o2 p k := by
  have h1 : 0 < cnt1 x o2 p k := by
    have h2 := (sum_ge (o2.map fun y => if (x + y).fmod p = (k : Int) then (1 : Int) else 0) (fun y hy => by
      obtain ⟨z, _, rfl⟩ := List.mem_map.mp hy
      split <;> decide)).2 _ (List.mem_map.mpr ⟨y, hy, rfl⟩)
    rw [if_pos h] at h2
    unfold cnt1; omega
  have h3 := (sum_ge (o1.map fun x => cnt1 x o2 p k) (fun y hy => by
    obtain ⟨z, _, rfl⟩ := List.mem_map.mp hy
    exact cnt1_nonneg _ _ _ _)).2 _ (List.mem_map.mpr ⟨x, hx, rfl⟩)
  unfold cntL; omega
theorem cntL_ex {p : Int} {o1 o2 : List Int} {k : Nat} (h : 0 < cntL o1 o2 p k) : ∃ x ∈ o1, ∃ y ∈ o2, (x + y).fmod p = (k : Int) := by
  obtain ⟨a, ha, h1⟩ := sum_ex _ h
  obtain ⟨x, hx, rfl⟩ := List.mem_map.mp ha
  obtain ⟨b, hb, h2⟩ := sum_ex _ h1
  obtain ⟨y, hy, rfl⟩ := List.mem_map.mp hb
  refine ⟨x, hx, y, hy, ?_⟩
  by_cases e : (x + y).fmod p = (k : Int)
  · exact e
  · rw [if_neg e] at h2; omega
theorem cd_rows {p : Nat} (hP : IsP p) {o1 o2 rc : List Int} (hn1 : o1.Nodup) (hn2 : o2.Nodup) (hb1 : ∀ x ∈ o1, 0 ≤ x ∧ x < (p : Int)) (hb2 : ∀ x ∈ o2, 0 ≤ x ∧ x < (p : Int)) (hl1 : 0 < o1.length) (hl2 : 0 < o2.length)
    (hl : (rc.length : Int) = (p : Int)) (hc : ∀ k, k < rc.length → rc.getD k 0 = cntL o1 o2 (p : Int) k) : min p (o1.length + o2.length - 1) ≤ (rc.filter fun x => decide (0 < x)).length := by
  have hp := hP.bnd
  have hrl : rc.length = p := by omega
  let T : Nat → Bool := fun x => decide (0 < rc.getD (x % p) 0)
  have h := cd (p := p) (by omega) (inv_of hP) (cntB p (inRow p o2)) (inRow p o1) (inRow p o2) T (inRow_per p o1) (inRow_per p o2) (fun x => by show decide _ = decide _; rw [Nat.add_mod_right]) (Nat.le_refl _)
    (by rw [inRow_cnt hn1 hb1]; omega) (by rw [inRow_cnt hn2 hb2]; omega) (fun x y hx hy => by
      obtain ⟨a, ha, ea⟩ := List.any_eq_true.mp hx
      obtain ⟨b, hb, eb⟩ := List.any_eq_true.mp hy
      have ea : a = ((x % p : Nat) : Int) := by simpa using ea
      have eb : b = ((y % p : Nat) : Int) := by simpa using eb
      have hlt : (x + y) % p < p := Nat.mod_lt _ (by omega)
      refine decide_eq_true ?_
      rw [hc _ (by omega)]
      refine cntL_pos ha hb ?_
      rw [ea, eb, Int.fmod_eq_emod_of_nonneg _ (by omega)]
      rw [show (((x % p : Nat) : Int) + ((y % p : Nat) : Int)) % (p : Int) = ((x % p + y % p) % p : Nat) by simp]
      rw [← Nat.add_mod])
  rw [inRow_cnt hn1 hb1, inRow_cnt hn2 hb2] at h
  rw [filt_len, hrl]
  refine Nat.le_trans h (Nat.le_of_eq (cntB_congr p fun x hx => ?_))
  show decide _ = decide _
  rw [Nat.mod_eq_of_lt hx]
end Mine
end PartXRows

section PartXInner2
open PySem PySem.W PyProof.Rows PySem.Calls
namespace Mine
theorem prog_len (st : Int) (p n : Nat) : ((rangeKs 0 n).map fun k => (k * st).fmod (p : Int)).length = n := by rw [List.length_map, rangeKs_length]
theorem prog_bnd (st : Int) (p n : Nat) (hp : 0 < p) : ∀ x ∈ (rangeKs 0 n).map fun k => (k * st).fmod (p : Int), 0 ≤ x ∧ x < (p : Int) := by
  intro x hx
  obtain ⟨k, _, rfl⟩ := List.mem_map.mp hx
  exact ⟨Int.fmod_nonneg_of_pos _ (by omega), Int.fmod_lt_of_pos _ (by omega)⟩
local macro_rules | `(tactic| walk_at "CompSrc") => `(tactic| (k_here; refine Stop.out ?_))
local macro_rules | `(tactic| walk_at "CompEnd") => `(tactic| (k_here; refine Stop.out ?_))
local macro_rules | `(tactic| walk_at "eval Name") => `(tactic| (k_here; (first | (with_reducible show wpAny _ _ (eval (PySem.Expr.Name (Str.ofString "step") _) _) _ _ _) | (with_reducible show wpAny _ _ (eval (PySem.Expr.Name (Str.ofString "prime") _) _) _ _ _)); k_dflt (refine kcf_cell (by k_asm) (by rfl) (List.mem_cons_of_mem _ (List.mem_cons_of_mem _ (List.mem_cons_of_mem _ (by assumption)))) (by assumption) ?_)))
local macro_rules | `(tactic| walk_at "eval Name") => `(tactic| (k_here; (with_reducible show wpAny _ _ (eval (PySem.Expr.Name (Str.ofString "size") _) _) _ _ _); k_dflt (refine LCgL.ld_own (by k_asm) (by assumption) (by assumption) (by assumption) ?_)))
set_option maxHeartbeats 1000000 in
theorem inner_comp2 (w : World) (mean : ExcName → Option Value) (mg mb : Str → Option Value) (dp un : Nat) (gd : Option (List Code)) (L a : Addr) (ccd : Value) (A₀ : Around) (base h₀ : Heap) (m m₂ : Str → Option Value) (s : Shared) (Q E : Value → Shared → Prop)
    (cy cp cs C1 : Nat) (oC1 op os : Obj) (st : Int) (tn tst tp : Tok) (p : Nat) (n : Int) (news : List (Addr × Obj))
    (B : Below A₀ base [] h₀) (F : Fr h₀ L s.heap m) (X : (hd.heap_39 w.params).In h₀)
    (N : News h₀ L s.heap news) (hmc : (C1, oC1) ∈ news) (hmp : (cp, op) ∈ news) (hms : (cs, os) ∈ news) (T : Top hd.view_39 (looseW hd.view_39 []) mean mg mb h₀)
    (hC1 : LCg.NsObj oC1 m₂) (hx1 : m₂ (Str.ofString "size") = some (.int n tn)) (hop : op.data = .cell (some (.int (p : Int) tp))) (hos : os.data = .cell (some (.int st tst))) (hp5 : 5 ≤ p) (hp13 : p ≤ 13) (hn13 : 0 ≤ n ∧ n ≤ 13) (hst : 1 ≤ st ∧ st ≤ 12)
    (ret : ∀ (D : Nat) ys h' tk', Fr h₀ L h' m → News h₀ L h' ((D, LCg.lst ys) :: news) → IntsAre ys ((rangeKs 0 n.toNat).map fun k => (k * st).fmod (p : Int)) → (∀ q ∈ news, q.1 ≠ D) → Q (.ref D) { s with heap := h', toks := tk' }) :
    wpAny (model PySem.Challenge.rw_xm0435_01.row.prog w) (ktrTop dp un gd (Str.ofString "law") lawScope L a ccd [(Str.ofString "step", cs), (Str.ofString "prime", cp), (Str.ofString "yard", cy)] [])
      (eval (compElt 7) (compEnvC (compScope 7) [(Str.ofString "step", cs), (Str.ofString "prime", cp)] C1 (envX (Str.ofString "law") lawScope L a ccd [(Str.ofString "step", cs), (Str.ofString "prime", cp), (Str.ofString "yard", cy)]))) Q E s := by
  have kf : Mine.hd.heap_39 w.params = Mine.hd.heap_39 w.params := rfl
  revert kf
  w_on
  w_top off
  k_fill
  intro _
  k_with_none
  with_unfolding_all show wpAny _ _ (eval (PySem.Expr.ListComp _ _ _ _) _) _ _ _
  k_steps
  refine Stop.back ?_
  rename_i hR hF hN hK
  (k_dflt (refine LCg.CompSrc.range (n := n.toNat) (by rfl) hF hN hR (small_one (by decide) (by decide) (by omega) (by omega)) (by (rw [← Int.toNat_of_nonneg hn13.1]; exact rangeSize_nat _ _)) (by (rw [PySem.sizeLine_eq]; omega)) ?_))
  intro g'
  refine' kcf_range (fun k => (k * st).fmod (p : Int)) (fun k t I oI C oC D m₃ ys h tk E' hlo hhi hC hx F' N' off ne mkk => ?_) ?_
  · have hk1 : k ≤ 1000000 := by omega
    have hk2 : 0 ≤ k ∧ k ≤ 13 := by omega
    have h01 : 0 ≤ k * st := Int.mul_nonneg hk2.1 (by omega)
    have h02 : k * st ≤ 13 * 12 := Int.le_trans (Int.mul_le_mul_of_nonneg_right hk2.2 (by omega)) (Int.mul_le_mul_of_nonneg_left hst.2 (by decide))
    (try dsimp only)
    (try k_fold)
    k_steps
    refine Stop.back ?_
    exact LCg.CompEnd.intro (by assumption) (by assumption) news (fun _ h => h) off trivial ⟨rfl, _, rfl⟩
  · intro ys hy
    unfold LCg.FinE
    intro D h tk F' N' off
    exact ret D ys h tk F' N' hy (off1_mem off)
end Mine
end PartXInner2

section PartXProg
open PySem PySem.W PyProof.Rows PySem.Calls
namespace Mine
theorem prog_val {s k p : Nat} (hp : 0 < p) : ((0 + (k : Int)) * (s : Int)).fmod (p : Int) = ((k * s % p : Nat) : Int) := by
  rw [Int.fmod_eq_emod_of_nonneg _ (by omega)]
  simp
theorem prog_inj {p s : Nat} (inv : ∃ c t, c * s = 1 + p * t) {a b : Nat} (ha : a < p) (hb : b < p) (h : a * s % p = b * s % p) : a = b := by
  obtain ⟨c, t, e⟩ := inv
  have h1 : ∀ x, x < p → (x * s % p) * c % p = x := fun x hx => by
    rw [Nat.mod_mul_mod, Nat.mul_assoc, Nat.mul_comm s c, e, Nat.mul_add, Nat.mul_one]
    rw [show x * (p * t) = p * (x * t) by rw [Nat.mul_left_comm], Nat.add_mul_mod_self_left]
    exact Nat.mod_eq_of_lt hx
  rw [← h1 a ha, ← h1 b hb, h]
theorem prog_nodup {p s n : Nat} (hp : 0 < p) (inv : ∃ c t, c * s = 1 + p * t) (hn : n ≤ p) : ((rangeKs 0 n).map fun k => (k * (s : Int)).fmod (p : Int)).Nodup := by
  unfold rangeKs
  rw [List.map_map]
  unfold List.Nodup
  rw [List.pairwise_map]
  refine List.Pairwise.imp_of_mem (fun {a b} ha hb hab => ?_) (List.pairwise_lt_range (n := n))
  intro e
  have ha := List.mem_range.mp ha
  have hb := List.mem_range.mp hb
  simp only [Function.comp] at e
  rw [prog_val hp, prog_val hp] at e
  have := prog_inj inv (a := a) (b := b) (by omega) (by omega) (by omega)
  omega
theorem prog_nodupI {p n : Nat} (hP : IsP p) {st : Int} (hst : 1 ≤ st ∧ st ≤ (p : Int) - 1) (hn : n ≤ p) : ((rangeKs 0 n).map fun k => (k * st).fmod (p : Int)).Nodup := by
  obtain ⟨s, rfl⟩ : ∃ s : Nat, st = (s : Int) := ⟨st.toNat, by omega⟩
  have hp := hP.bnd
  exact prog_nodup (by omega) (inv_of hP s (by omega) (by omega)) hn
theorem cntB_one {c : Nat} : ∀ n, cntB n (fun x => x == c) ≤ 1
  | 0 => by simp [cntB]
  | n + 1 => by
    simp only [cntB]
    by_cases h : n = c
    · have e : cntB n (fun x => x == c) = 0 := by
        cases e : cntB n (fun x => x == c) with
        | zero => rfl
        | succ m =>
          obtain ⟨a, h1, h2⟩ := cntB_ex n (A := fun x => x == c) (by omega)
          have : a = c := by simpa using h2
          omega
      rw [e]; split <;> omega
    · have := cntB_one (c := c) n
      rw [if_neg (by simpa using h)]; omega
theorem cntB_list {p : Nat} {h : Nat → Nat} : ∀ (m : Nat) (T : Nat → Bool), (∀ x, x < p → T x = true → ∃ t, t < m ∧ x = h t) → cntB p T ≤ m
  | 0, T, hT => by
    cases e : cntB p T with
    | zero => exact Nat.le_refl _
    | succ k =>
      obtain ⟨a, h1, h2⟩ := cntB_ex p (A := T) (by omega)
      obtain ⟨t, ht, _⟩ := hT a h1 h2
      omega
  | m + 1, T, hT => by
    have ih := cntB_list (p := p) (h := h) m (fun x => T x && !(x == h m)) (fun x hx e => by
      obtain ⟨e1, e2⟩ := Bool.and_eq_true_iff.mp e
      obtain ⟨t, ht, ex⟩ := hT x hx e1
      refine ⟨t, ?_, ex⟩
      have : ¬ x = h m := by simpa using e2
      by_cases htm : t = m
      · subst htm; exact absurd ex this
      · omega)
    have h1 := cntB_one (c := h m) p
    have h2 := cntB_or_and (A := fun x => T x && !(x == h m)) (B := fun x => x == h m) p
    have h3 := cntB_mono (A := T) (B := fun x => (T x && !(x == h m)) || (x == h m)) p (fun x _ e => by
      show ((T x && !(x == h m)) || (x == h m)) = true
      rw [e]
      cases (x == h m) <;> rfl)
    omega
theorem prog_count {p n1 n2 : Nat} (hP : IsP p) {st : Int} (hst : 1 ≤ st ∧ st ≤ (p : Int) - 1) (h1 : 0 < n1) (h1p : n1 ≤ p) (h2 : 0 < n2) (h2p : n2 ≤ p) {rc : List Int}
    (hl : (rc.length : Int) = (p : Int)) (hc : ∀ k, k < rc.length → rc.getD k 0 = cntL ((rangeKs 0 n1).map fun k => (k * st).fmod (p : Int)) ((rangeKs 0 n2).map fun k => (k * st).fmod (p : Int)) (p : Int) k) :
    ((rc.filter fun x => decide (0 < x)).length : Int) = min (p : Int) ((n1 : Int) + n2 - 1) := by
  obtain ⟨s, rfl⟩ : ∃ s : Nat, st = (s : Int) := ⟨st.toNat, by omega⟩
  have hp := hP.bnd
  have inv := inv_of hP s (by omega) (by omega)
  have lo := cd_rows hP (prog_nodup (by omega) inv h1p) (prog_nodup (by omega) inv h2p) (prog_bnd _ p n1 (by omega)) (prog_bnd _ p n2 (by omega)) (by rw [prog_len]; exact h1) (by rw [prog_len]; exact h2) hl hc
  rw [prog_len, prog_len] at lo
  have hrl : rc.length = p := by omega
  have up : (rc.filter fun x => decide (0 < x)).length ≤ n1 + n2 - 1 := by
    rw [filt_len, hrl]
    refine cntB_list (h := fun t => t * s % p) _ _ fun x hx e => ?_
    have e : 0 < rc.getD x 0 := by simpa using e
    rw [hc x (by omega)] at e
    obtain ⟨a, ha, b, hb, e2⟩ := cntL_ex e
    obtain ⟨a', ha', rfl⟩ := List.mem_map.mp ha
    obtain ⟨b', hb', rfl⟩ := List.mem_map.mp hb
    have ma := mem_rangeKs ha'
    have mb := mem_rangeKs hb'
    obtain ⟨i, rfl⟩ : ∃ i : Nat, a' = 0 + (i : Int) := ⟨a'.toNat, by omega⟩
    obtain ⟨j, rfl⟩ : ∃ j : Nat, b' = 0 + (j : Int) := ⟨b'.toNat, by omega⟩
    refine ⟨i + j, by omega, ?_⟩
    rw [prog_val (by omega), prog_val (by omega), Int.fmod_eq_emod_of_nonneg _ (by omega)] at e2
    rw [show (((i * s % p : Nat) : Int) + ((j * s % p : Nat) : Int)) % (p : Int) = ((i * s % p + j * s % p) % p : Nat) by simp] at e2
    rw [← Nat.add_mod, ← Nat.add_mul] at e2
    show x = (i + j) * s % p
    omega
  have up2 : (rc.filter fun x => decide (0 < x)).length ≤ p := by
    rw [← hrl]; exact List.length_filter_le _ _
  omega
end Mine
end PartXProg

section PartXTail2
open PySem PySem.W PyProof.Rows PySem.Calls
namespace Mine
local macro_rules | `(tactic| walk_at "call ref") => `(tactic| (k_here; refine Stop.out ?_))
local macro_rules | `(tactic| walk_at "execs cons") => `(tactic| (k_here; refine Stop.out ?_))
local macro_rules | `(tactic| walk_at "CompSrc") => `(tactic| (k_here; k_dflt (first | (refine LCg.CompSrc.ledger (by rfl) (by k_asm) (by k_asm) (by k_mem) (by first | size_fits | exact Nat.le_of_ble_eq_true rfl) ?_; intro g'; lcg_lit) | (refine LCg.CompSrc.range (by rfl) (by k_asm) (by k_asm) (by assumption) (by first | decide | rfl) (by first | rfl | decide) (by first | size_fits | exact Nat.le_of_ble_eq_true rfl) ?_; intro g'; lcg_lit))))
local macro_rules | `(tactic| walk_at "CompEnd") => `(tactic| (k_here; refine Stop.out ?_))
local macro_rules | `(tactic| walk_at "eval ListComp") => `(tactic| (k_here; (with_reducible show wpAny _ _ (eval (PySem.Expr.ListComp _ _ _ _) (compEnvC _ _ _ _)) _ _ _); refine Stop.out ?_))
set_option maxHeartbeats 1000000 in
theorem tail2_cal (w : World) (mean : ExcName → Option Value) (mg mb : Str → Option Value) (dp un : Nat) (gd : Option (List Code)) (L a : Addr) (ccd : Value) (A₀ : Around) (base h₀ : Heap) (u : Str → Option Value) (s : Shared) (Q : Flow → Shared → Prop) (E : Value → Shared → Prop)
    (cy cp cs y q : Nat) (oy op os : Obj) (ww st : Int) (tw tp tc tst : Tok) (p : Nat) (vs : List Value) (nq : Nat) (ns : List Int)
    (B : Below A₀ base [] h₀) (F : Fr h₀ L s.heap (fun z => if z = Str.ofString "w" then some (.int ww tw) else u z)) (X : (hd.heap_39 w.params).In h₀)
    (N : News h₀ L s.heap [(y, listOf #[.int 5 tc, .ref q] 0), (q, listOf (List.toArray vs) nq), (cs, os), (cp, op), (cy, oy)]) (T : Top hd.view_39 (looseW hd.view_39 []) mean mg mb h₀)
    (hoy : oy.data = .cell (some (.ref y))) (hop : op.data = .cell (some (.int (p : Int) tp))) (hos : os.data = .cell (some (.int st tst)))
    (hne : y ≠ q ∧ y ≠ cs ∧ y ≠ cp ∧ y ≠ cy)
    (hi : IntsAre vs ns) (hlen : ns.length < 100) (hP : IsP p) (hp5 : 5 ≤ p) (hp13 : p ≤ 13) (hw : 5 ≤ ww ∧ ww ≤ 8) (hst : 1 ≤ st ∧ st ≤ (p : Int) - 1)
    (hd : dp + 4 < recursionLimit) (hu : un + 100 < cLine)
    (hret : ∀ (h' : Heap) (tk' : Nat) (m' : Str → Option Value) (news' : List (Addr × Obj)), Fr h₀ L h' m' → News h₀ L h' news' → Q (.ret (.bool true)) { s with heap := h', toks := tk' }) :
    wpAny (model PySem.Challenge.rw_xm0435_01.row.prog w) (ktrTop dp un gd (Str.ofString "law") lawScope L a ccd [(Str.ofString "step", cs), (Str.ofString "prime", cp), (Str.ofString "yard", cy)] [])
      (execs (lawBody.drop 6) (envX (Str.ofString "law") lawScope L a ccd [(Str.ofString "step", cs), (Str.ofString "prime", cp), (Str.ofString "yard", cy)])) Q E s := by
  have kf : Mine.hd.heap_39 w.params = Mine.hd.heap_39 w.params := rfl
  revert kf
  w_on
  w_top off
  k_fill
  intro _
  k_with_none
  refine wpAny_execs_cons ?_
  k_steps
  refine Stop.back ?_
  rename Fr _ _ _ _ => F1
  rename News _ _ _ _ => N1
  (k_dflt (refine' (next_cal w mean mg mb y q (Ne.symm hne.1) 5 tc 0 nq vs ns hi hlen (by decide) (by decide) (p : Int) _ (by omega) (by omega)).use ?zB ?zF ?zX ?zN ?zT ?zk ?zd ?zu ?_))
  case zB => k_asm
  case zF => k_asm
  case zX => k_asm
  case zN => exact kst_newsOf N1 (by kst_inAny)
  case zT => k_asm
  case zk => exact rfl
  case zd => ktr_room
  case zu => ktr_units
  intro r hp9 tk11 F2 K2 hPo
  obtain ⟨hq2, v1, tv1, tc1, rfl, hv10, hv11, hy2⟩ := hPo
  have N2 := newsUpd N1 (upd3 (And.left (by assumption)) hne) (by kst_entry) K2 hy2 hq2
  clear K2 hq2 hy2 N1 F1
  (try dsimp only)
  (try k_fold)
  k_steps
  refine Stop.back ?_
  refine LCg.CompEnd.intro F2 N2 [(y, listOf #[.int (5 + 1) tc1, .ref q] 0), (q, listOf (List.toArray vs) nq), (cs, os), (cp, op), (cy, oy)] (by kst_inAny) (by (simp only [LCg.Off3, and_true]; assumption)) trivial ?_
  (try dsimp only)
  (try k_fold)
  k_steps
  refine Stop.back ?_
  rename Fr _ _ _ _ => F3
  rename News _ _ _ _ => N3
  (k_dflt (refine' (next_cal w mean mg mb y q (Ne.symm hne.1) (5 + 1) tc1 0 nq vs ns hi hlen (by decide) (by decide) (p : Int) _ (by omega) (by omega)).use ?zB ?zF ?zX ?zN ?zT ?zk ?zd ?zu ?_))
  case zB => k_asm
  case zF => k_asm
  case zX => k_asm
  case zN => exact kst_newsOf N3 (by kst_inAny)
  case zT => k_asm
  case zk => exact rfl
  case zd => ktr_room
  case zu => ktr_units
  intro r hp10 tk12 F4 K4 hPo
  obtain ⟨hq4, v2, tv2, tc2, rfl, hv20, hv21, hy4⟩ := hPo
  have N4 := newsUpd N3 (upd3 (And.left (by assumption)) hne) (by kst_entry) K4 hy4 hq4
  clear K4 hq4 hy4 N3 F3
  (try dsimp only)
  (try k_fold)
  k_steps
  refine Stop.back ?_
  refine LCg.CompEnd.intro F4 N4 [(y, listOf #[.int (5 + 1 + 1) tc2, .ref q] 0), (q, listOf (List.toArray vs) nq), (cs, os), (cp, op), (cy, oy)] (by kst_inAny) (by (simp only [LCg.Off3, and_true]; assumption)) trivial ?_
  (try dsimp only)
  (try k_fold)
  k_steps
  rename News _ _ _ _ => N5
  have N6 : News h₀ L _ [(_, LCg.lst ([] ++ [Value.int (1 + v1) tk11] ++ [Value.int (1 + v2) tk12])), (y, listOf #[.int (5 + 1 + 1) tc2, .ref q] 0), (q, listOf (List.toArray vs) nq), (cs, os), (cp, op), (cy, oy)] := N5
  rename Fr _ _ _ _ => F6
  clear N2 N4 F2 F4 N5
  refine Stop.back ?_
  refine wpAny_execs_cons ?_
  (try k_fold)
  k_steps
  refine Stop.back ?_
  rename Fr _ _ _ _ => F7
  rename News _ _ _ _ => N7
  (k_dflt (refine' inner_comp2 w mean mg mb dp un gd L a ccd A₀ base h₀ _ _ _ _ _ cy cp cs _ _ op os st _ tst tp p (1 + v1) _ B F7 X N7 (by kst_entry) (by kst_entry) (by kst_entry) T (by assumption) (by assumption) hop hos hp5 hp13 (by omega) (by omega) ?_))
  intro D7 ys7 h7 tk7 F8 N8 hI8 off8
  refine LCg.CompEnd.intro F8 N8 [(D7, LCg.lst ys7), (_, LCg.lst ([] ++ [Value.int (1 + v1) tk11] ++ [Value.int (1 + v2) tk12])), (y, listOf #[.int (5 + 1 + 1) tc2, .ref q] 0), (q, listOf (List.toArray vs) nq), (cs, os), (cp, op), (cy, oy)] (by kst_inAny) ⟨⟨Ne.symm (off8 _ (.head _)), Ne.symm (off8 _ (.tail _ (.head _))), Ne.symm (off8 _ (.tail _ (.tail _ (.head _))))⟩, by (simp only [LCg.Off3, and_true]; assumption)⟩ (.inr ⟨_, by kst_entry, rfl, _, rfl⟩) ?_
  (try dsimp only)
  (try k_fold)
  k_steps
  refine Stop.back ?_
  clear F7 N7 F8 N8
  rename Fr _ _ _ _ => F9
  rename News _ _ _ _ => N9
  (k_dflt (refine' inner_comp2 w mean mg mb dp un gd L a ccd A₀ base h₀ _ _ _ _ _ cy cp cs _ _ op os st _ tst tp p (1 + v2) _ B F9 X N9 (by kst_entry) (by kst_entry) (by kst_entry) T (by assumption) (by assumption) hop hos hp5 hp13 (by omega) (by omega) ?_))
  intro D8 ys8 h8 tk8 F10 N10 hI10 off10
  refine LCg.CompEnd.intro F10 N10 [(D8, LCg.lst ys8), (D7, LCg.lst ys7), (_, LCg.lst ([] ++ [Value.int (1 + v1) tk11] ++ [Value.int (1 + v2) tk12])), (y, listOf #[.int (5 + 1 + 1) tc2, .ref q] 0), (q, listOf (List.toArray vs) nq), (cs, os), (cp, op), (cy, oy)] (by kst_inAny) ⟨⟨Ne.symm (off10 _ (.head _)), Ne.symm (off10 _ (.tail _ (.head _))), Ne.symm (off10 _ (.tail _ (.tail _ (.head _))))⟩, by (simp only [LCg.Off3, and_true]; assumption)⟩ (.inr ⟨_, by kst_entry, rfl, _, rfl⟩) ?_
  clear F9 N9 F10 N10
  (try dsimp only)
  (try k_fold)
  k_steps
  refine Stop.back ?_
  rename News _ _ _ _ => N11
  have N12 : News h₀ L _ [(_, LCg.lst ([] ++ [Value.ref D7] ++ [Value.ref D8])), (D8, LCg.lst ys8), (D7, LCg.lst ys7), (_, LCg.lst ([] ++ [Value.int (1 + v1) tk11] ++ [Value.int (1 + v2) tk12])), (cp, op)] := kst_newsOf N11 (by kst_inAny)
  clear N11 N6 F6 off8 off10 hne hos
  have hs1 : ∃ n1 : Nat, 1 + v1 = (n1 : Int) ∧ 0 < n1 ∧ n1 ≤ p := ⟨(1 + v1).toNat, by omega, by omega, by omega⟩
  have hs2 : ∃ n2 : Nat, 1 + v2 = (n2 : Int) ∧ 0 < n2 ∧ n2 ≤ p := ⟨(1 + v2).toNat, by omega, by omega, by omega⟩
  obtain ⟨n1, hn1, hn10, hn1p⟩ := hs1
  obtain ⟨n2, hn2, hn20, hn2p⟩ := hs2
  rw [hn1] at hI8 N12
  rw [hn2] at hI10 N12
  rw [Int.toNat_natCast] at hI8 hI10
  have hb8 := prog_bnd st p n1 (by omega)
  have hb10 := prog_bnd st p n2 (by omega)
  have hl8 := prog_len st p n1
  have hl10 := prog_len st p n2
  refine wpAny_execs_cons ?_
  (try k_fold)
  k_steps
  refine Stop.back ?_
  rename Fr _ _ _ _ => F13
  rename News _ _ _ _ => N13
  (k_dflt (refine' (ways_cal w mean mg mb D7 D8 ys7 ys8 _ _ _ _ hI8 hI10 (by (rw [hl8]; omega)) (by (rw [hl10]; omega)) (by (rw [hl8]; omega)) (by (rw [hl10]; omega)) p tp ⟨hp5, hp13⟩ hb8 hb10 ww tw hw).use ?zB ?zF ?zX ?zN ?zT ?zk ?zd ?zu ?_))
  case zB => k_asm
  case zF => k_asm
  case zX => k_asm
  case zN => exact kst_newsOf N13 (by kst_inAny)
  case zT => k_asm
  case zk => exact rfl
  case zd => ktr_room
  case zu => ktr_units
  intro r h14 tk14 F14 K14 hPo
  obtain ⟨hla', hlb', rw1, rs, r1, r2, rfl, ⟨wv1, wn1, hra, hwr⟩, hrsl, hfr, hr1, hr2, hr1l, hr2l, hrs⟩ := hPo
  obtain ⟨N14, hne14⟩ := newsAdd F13 N13 (newsSame2 N13 (by kst_entry) (by kst_entry) K14 hla' hlb') hra hfr
  clear K14 hla' hlb' hra hfr N13 F13
  have hCnt : ((rs.filter fun x => decide (0 < x)).length : Int) = min (p : Int) ((n1 : Int) + n2 - 1) := by
    refine prog_count hP hst hn10 hn1p hn20 hn2p (by omega) fun k hk => ?_
    rw [hrs k (by omega)]
    exact conv_cnt (prog_nodupI hP hst hn1p) (prog_nodupI hP hst hn2p) hb8 hb10 hr1 hr2 hr1l (by omega)
  clear hr1 hr2 hrs
  (try dsimp only)
  (try k_fold)
  k_steps
  refine Stop.back ?_
  refine wpAny_execs_cons ?_
  (try k_fold)
  k_steps
  have hb : (((rs.filter fun a => decide (0 < a)).length : Int) == if (n1 : Int) + ((n2 : Int) + 0) - 1 < (p : Int) then (n1 : Int) + ((n2 : Int) + 0) - 1 else (p : Int)) = true := by
    rw [beq_iff_eq, hCnt]
    split <;> omega
  rw [hb]
  exact hret _ _ _ _ (by assumption) (by assumption)
end Mine
end PartXTail2

section PartXTail
open PySem PySem.W PyProof.Rows PySem.Calls
namespace Mine
theorem fr_at {h₀ H : Heap} {L : Addr} {m : Str → Option Value} {x : Str} {v : Value} (F : Fr h₀ L H m) (e : m x = some v) : Fr h₀ L H (fun z => if z = x then some v else m z) := by
  have h : (fun z => if z = x then some v else m z) = m := by
    funext z
    by_cases h : z = x
    · rw [if_pos h, h, e]
    · rw [if_neg h]
  rw [h]; exact F
local macro_rules | `(tactic| walk_at "call ref") => `(tactic| (k_here; refine Stop.out ?_))
local macro_rules | `(tactic| walk_at "execs cons") => `(tactic| (k_here; refine Stop.out ?_))
local macro_rules | `(tactic| walk_at "compareOp NotEq ref ref") => `(tactic| (k_here; (with_reducible show wpAny _ _ (compareOp CmpOp.NotEq (Value.ref _) (Value.ref _)) _ _ _); refine Stop.out ?_))
local macro_rules | `(tactic| walk_at "pyIter ref") => `(tactic| (k_here; refine Stop.out ?_))
set_option maxHeartbeats 500000 in
theorem tail_cal (w : World) (mean : ExcName → Option Value) (mg mb : Str → Option Value) (dp un : Nat) (gd : Option (List Code)) (L a : Addr) (ccd : Value) (A₀ : Around) (base h₀ : Heap) (u : Str → Option Value) (s : Shared) (Q : Flow → Shared → Prop) (E : Value → Shared → Prop)
    (cy cp cs dm y q : Nat) (oy op os : Obj) (m1 m2 ww : Int) (tm1 tm2 tw tp tc : Tok) (p : Nat) (vs : List Value) (nq : Nat) (ns : List Int)
    (B : Below A₀ base [] h₀) (F : Fr h₀ L s.heap (fun z => if z = Str.ofString "masks" then some (.ref dm) else if z = Str.ofString "w" then some (.int ww tw) else u z)) (X : (hd.heap_39 w.params).In h₀)
    (N : News h₀ L s.heap [(dm, listOf (List.toArray [.int m1 tm1, .int m2 tm2]) 2), (y, listOf #[.int 4 tc, .ref q] 0), (q, listOf (List.toArray vs) nq), (cs, os), (cp, op), (cy, oy)]) (T : Top hd.view_39 (looseW hd.view_39 []) mean mg mb h₀)
    (hoy : oy.data = .cell (some (.ref y))) (hop : op.data = .cell (some (.int (p : Int) tp))) (hos : os.data = .cell none)
    (hne : dm ≠ y ∧ dm ≠ q ∧ dm ≠ cs ∧ dm ≠ cp ∧ dm ≠ cy ∧ y ≠ q ∧ y ≠ cs ∧ y ≠ cp ∧ y ≠ cy ∧ q ≠ cs ∧ q ≠ cp ∧ q ≠ cy ∧ cs ≠ cp ∧ cs ≠ cy ∧ cp ≠ cy)
    (hi : IntsAre vs ns) (hlen : ns.length < 100) (hP : IsP p) (hp5 : 5 ≤ p) (hp13 : p ≤ 13) (hw : 5 ≤ ww ∧ ww ≤ 8) (hm1 : MaskOk p m1) (hm2 : MaskOk p m2)
    (hd : dp + 4 < recursionLimit) (hu : un + 100 < cLine)
    (hE : PassesOwn (model PySem.Challenge.rw_xm0435_01.row.prog w) (ktrTop dp un gd (Str.ofString "law") lawScope L a ccd [(Str.ofString "step", cs), (Str.ofString "prime", cp), (Str.ofString "yard", cy)] [])
      (envX (Str.ofString "law") lawScope L a ccd [(Str.ofString "step", cs), (Str.ofString "prime", cp), (Str.ofString "yard", cy)]) E)
    (hret : ∀ (h' : Heap) (tk' : Nat) (m' : Str → Option Value) (news' : List (Addr × Obj)), Fr h₀ L h' m' → News h₀ L h' news' → Q (.ret (.bool true)) { s with heap := h', toks := tk' }) :
    wpAny (model PySem.Challenge.rw_xm0435_01.row.prog w) (ktrTop dp un gd (Str.ofString "law") lawScope L a ccd [(Str.ofString "step", cs), (Str.ofString "prime", cp), (Str.ofString "yard", cy)] [])
      (execs (lawBody.drop 3) (envX (Str.ofString "law") lawScope L a ccd [(Str.ofString "step", cs), (Str.ofString "prime", cp), (Str.ofString "yard", cy)])) Q E s := by
  have kf : Mine.hd.heap_39 w.params = Mine.hd.heap_39 w.params := rfl
  revert kf
  w_on
  w_top off
  k_fill
  intro _
  k_with_none
  refine wpAny_execs_cons ?_
  k_steps
  (k_dflt (refine' cellComp F (by rfl) (by with_unfolding_all rfl) (by rfl) (by decide) (fun _ _ => rfl) (fun _ => rfl) (fun _ _ => by with_unfolding_all rfl) ?_ ?zs))
  case zs => intro _; rfl
  k_steps
  refine ⟨_, [.int m1 tm1, .int m2 tm2], 2, _, rfl, F, N, by kst_entry, Nat.le_of_ble_eq_true rfl, fun s₂ hg => ?_⟩
  obtain ⟨g, rfl⟩ := hg
  unfold CellRest
  intro I1 C1 c1 D1 oI1 oC1 oc1 h1 tk1 E1 hoc1 F11 N11 off1
  (k_dflt (refine' inner_comp w mean mg mb dp un gd L a ccd A₀ base h₀ _ _ _ _ cy cp cs c1 C1 oc1 op m1 tm1 tp p _ B F11 X N11 (by kst_entry) (by kst_entry) T hoc1 hop hp13 ?_))
  intro D2 ys2 h2 tk2 F12 N12 hI2 off2
  refine cellEnd_new F12 N12 off1 off2 ⟨by kst_entry, ?_⟩
  unfold CellRest
  intro I2 C2 c2 D3 oI2 oC2 oc2 h3 tk3 E3 hoc2 F13 N13 off3
  (k_dflt (refine' inner_comp w mean mg mb dp un gd L a ccd A₀ base h₀ _ _ _ _ cy cp cs c2 C2 oc2 op m2 tm2 tp p _ B F13 X N13 (by kst_entry) (by kst_entry) T hoc2 hop hp13 ?_))
  intro D4 ys4 h4 tk4 F14 N14 hI4 off4
  refine cellEnd_new F14 N14 off3 off4 ⟨by kst_entry, ?_⟩
  unfold CellRest CellFin
  intro D5 h5 tk5 F15 N15 off5
  clear N11 N12 N13 N14 F11 F12 F13 F14
  (try dsimp only)
  (try k_fold)
  k_steps
  rename News _ _ _ _ => N16
  rename Fr _ _ _ _ => F16
  have N17 : News h₀ L _ [(D4, LCg.lst ys4), (D2, LCg.lst ys2), (y, listOf #[.int 4 tc, .ref q] 0), (q, listOf (List.toArray vs) nq), (cs, os), (cp, op), (cy, oy)] := kst_newsOf N16 (by kst_inAny)
  clear N16
  have hO1 := ones_row hm1
  have hO2 := ones_row hm2
  generalize onesOf m1 p = o1 at hI2 hO1
  generalize onesOf m2 p = o2 at hI4 hO2
  have hl1 : 0 < o1.length ∧ o1.length ≤ 13 := ⟨hO1.2.1, Nat.le_trans hO1.2.2.1 hp13⟩
  have hl2 : 0 < o2.length ∧ o2.length ≤ 13 := ⟨hO2.2.1, Nat.le_trans hO2.2.2.1 hp13⟩
  refine Stop.back ?_
  refine wpAny_execs_cons ?_
  (try k_fold)
  (k_dflt (refine' For_invVF F16 ?zk1 ?zk2 ?_ ?zk3 ?zk4))
  case zk1 => with_unfolding_all rfl
  case zk2 => with_unfolding_all rfl
  case zk3 => intro _; rfl
  case zk4 => exact hE
  k_steps
  refine Stop.back ?_
  rename IsRange _ _ _ _ _ _ _ _ => hRg
  rename Fr _ _ _ _ => F17
  rename News _ _ _ _ => N18
  refine kst_range (σ := Unit) (fun _ => [(D4, LCg.lst ys4), (D2, LCg.lst ys2), (y, listOf #[.int 4 tc, .ref q] 0), (q, listOf (List.toArray vs) nq), (cs, os), (cp, op), (cy, oy)]) (fun _ => []) (fun _ => True) [Str.ofString "ways"] (fun _ _ => True) ()
    (by rfl) hRg (small_one (by decide) (by decide) (by omega) (by omega)) (rangeSize_nat _ _) F17 N18 trivial (by kst_all) trivial ?_ ?_
  · intro c0 pre k tk0 u1 h6 tk6 own hkeq hklt hoff _ _ F19 N19
    dsimp only [kstB] at F19
    dsimp only at N19
    simp only [List.cons_append, List.nil_append] at N19
    have hk1 : 1 ≤ k := by omega
    have hk2 : k ≤ (o2.length : Int) := by omega
    have hk0 : (0 : Int) ≤ k := by omega
    refine wpAny_execs_cons ?_
    (try k_fold)
    k_steps
    refine Stop.back ?_
    rename_i da wsa _ F20 N20 hIa hCa _ hlta
    have hka : (o2.take k.toNat).length = k.toNat := by (rw [hCa]; omega)
    clear hCa hlta
    (k_dflt (refine' (ways_cal w mean mg mb D2 da ys2 wsa _ 0 o1 (o2.take k.toNat) hI2 hIa (by omega) (by omega) hl1.1 (by omega) p tp ⟨hp5, hp13⟩ hO1.1 (fun x hx => hO2.1 x (List.mem_of_mem_take hx)) ww tw hw).use ?zB ?zF ?zX ?zN ?zT ?zk ?zd ?zu ?_))
    case zB => k_asm
    case zF => k_asm
    case zX => k_asm
    case zN => exact kst_newsOf N20 (by kst_inAny)
    case zT => k_asm
    case zk => exact rfl
    case zd => ktr_room
    case zu => ktr_units
    intro r h7 tk7 F21 K21 hPo
    obtain ⟨hla', hlb', rw1, rs, r1, r2, rfl, ⟨wv1, wn1, hra, hwr⟩, hrsl, hfr, hr1, hr2, hr1l, hr2l, hrs⟩ := hPo
    obtain ⟨N21, hne21⟩ := newsAdd F20 N20 (newsSame2 N20 (by kst_entry) (by kst_entry) K21 hla' hlb') hra hfr
    clear K21 hla' hlb' hra hfr N20 F20
    (try dsimp only)
    (try k_fold)
    k_steps
    refine Stop.back ?_
    refine wpAny_execs_cons ?_
    (try k_fold)
    k_steps
    refine Stop.back ?_
    rename_i db wsb _ F22 N22 hIb hCb _ hltb
    (k_dflt (refine' (counted_cal w mean mg mb D2 db ys2 wsb _ 0 o1 (o2.take k.toNat) hI2 hIb (by omega) (by omega) (p : Int) tp (by omega)).use ?zB ?zF ?zX ?zN ?zT ?zk ?zd ?zu ?_))
    case zB => k_asm
    case zF => k_asm
    case zX => k_asm
    case zN => exact kst_newsOf N22 (by kst_inAny)
    case zT => k_asm
    case zk => exact rfl
    case zd => ktr_room
    case zu => ktr_units
    intro r h8 tk8 F23 K23 hPo
    obtain ⟨hlc, hld, rc1, rc, rfl, ⟨wv2, wn2, hrc, hwc⟩, hrcl, hrcs, hfc⟩ := hPo
    obtain ⟨N23, hne23⟩ := newsAdd F22 N22 (newsSame2 N22 (by kst_entry) (by kst_entry) K23 hlc hld) hrc hfc
    clear K23 hlc hld hrc hfc N22 F22 hltb hne21 hne23
    have hnt : (o2.take k.toNat).Nodup := List.Pairwise.sublist (List.take_sublist _ _) hO2.2.2.2
    have hbt : ∀ x ∈ o2.take k.toNat, 0 ≤ x ∧ x < (p : Int) := fun x hx => hO2.1 x (List.mem_of_mem_take hx)
    have hEq : rc = rs := ways_eq hO1.2.2.2 hnt hO1.1 hbt hr1 hr2 hr1l hrsl hrs hrcl hrcs
    subst hEq
    have hSum : rc.sum = (o1.length : Int) * k := by
      rw [rc_sum (by omega) hrcl hrcs, hka, show ((k.toNat : Nat) : Int) = k by omega]
    have hCD9 : min p (o1.length + (o2.take k.toNat).length - 1) ≤ (rc.filter fun x => decide (0 < x)).length := cd_rows hP hO1.2.2.2 hnt hO1.1 hbt hl1.1 (by omega) hrcl hrcs
    rw [hka] at hCD9
    have hCD : min (p : Int) ((o1.length : Int) + k - 1) ≤ ((rc.filter fun x => decide (0 < x)).length : Int) := by omega
    clear hCD9 hnt hbt
    (try dsimp only)
    (try k_fold)
    k_steps
    refine Stop.back ?_
    refine ne_intsK (PySem.IsL.isList (N23.get (.tail _ (.tail _ (.head _))))) hwr (PySem.IsL.isList (N23.get (.head _))) hwc ?_ ?_
    · (have hcL9 := cLine_is; show un + 64 < cLine; omega)
    rw [show (!decide (rc = rc)) = false from by simp]
    k_steps
    · exact absurd hSum (by assumption)
    refine Stop.back ?_
    refine wpAny_execs_cons ?_
    (try k_fold)
    k_steps
    all_goals (try k_data)
    have hI9 := CarriedAll.intsOf (f := fun a => a) (by assumption : CarriedAll _ (List.map PyData.int (List.filter (fun a => decide (0 < a)) rc)))
    have hl9 := hI9.length
    rw [List.length_map] at hl9
    have hf9 : (rc.filter fun a => decide (0 < a)).length ≤ rc.length := List.length_filter_le _ _
    refine len_list (by assumption) (by (rw [List.size_toArray, hl9]; omega)) ?_
    rw [List.size_toArray, hl9]
    (try dsimp only)
    (try k_fold)
    k_steps
  · intro c0 u2 h10 tk10 _ _ F30 N30
    dsimp only [kstB] at F30
    dsimp only at N30
    have hy2 : y ≠ D2 := off2 (y, listOf #[.int 4 tc, .ref q] 0) (by kst_entry)
    have hy4 : y ≠ D4 := off4 (y, listOf #[.int 4 tc, .ref q] 0) (by kst_entry)
    have hc2 : cs ≠ D2 := off2 (cs, os) (by kst_entry)
    have hc4 : cs ≠ D4 := off4 (cs, os) (by kst_entry)
    clear off1 off2 off3 off4 off5 hRg
    (try k_fold)
    k_steps
    refine Stop.back ?_
    refine wpAny_execs_cons ?_
    (try k_fold)
    k_steps
    refine Stop.back ?_
    rename Fr _ _ _ _ => F31
    rename News _ _ _ _ => N31
    (k_dflt (refine' (next_cal w mean mg mb y q (Ne.symm hne.2.2.2.2.2.1) 4 tc 0 nq vs ns hi hlen (by decide) (by decide) ((p : Int) - 1) _ (by omega) (by omega)).use ?zB ?zF ?zX ?zN ?zT ?zk ?zd ?zu ?_))
    case zB => k_asm
    case zF => k_asm
    case zX => k_asm
    case zN => exact kst_newsOf N31 (by kst_inAny)
    case zT => k_asm
    case zk => exact rfl
    case zd => ktr_room
    case zu => ktr_units
    intro r hp9 tk11 F32 K32 hPo
    obtain ⟨hq32, v5, tv5, tc5, rfl, hv50, hv51, hy32⟩ := hPo
    have N32 := newsUpd N31 (by k_upd) (by kst_entry) K32 hy32 hq32
    clear K32 hq32 hy32 N31 F31
    (try dsimp only)
    (try k_fold)
    k_steps
    refine Stop.back ?_
    rename Fr _ _ _ _ => F33
    rename News _ _ _ _ => N33
    have F34 := fr_at F33 (x := Str.ofString "w") (v := .int ww tw) (by with_unfolding_all rfl)
    rw [show (4 + 1 : Int) = 5 from rfl] at N33
    rename Obj => os5
    have N34 : News h₀ L _ [(y, listOf #[.int 5 tc5, .ref q] 0), (q, listOf (List.toArray vs) nq), (cs, os5), (cp, op), (cy, oy)] := kst_newsOf N33 (by kst_inAny)
    (k_dflt (refine' tail2_cal w mean mg mb dp un gd L a ccd A₀ base h₀ _ _ _ _ cy cp cs y q oy op _ ww (1 + v5) tw tp tc5 _ p vs nq ns B F34 X N34 T hoy hop (by assumption) ⟨hne.2.2.2.2.2.1, hne.2.2.2.2.2.2.1, hne.2.2.2.2.2.2.2.1, hne.2.2.2.2.2.2.2.2.1⟩ hi hlen hP hp5 hp13 hw ⟨by omega, by omega⟩ hd hu ?_))
    intro h' tk' m' news' F N
    exact hret h' tk' m' news' F N
end Mine
end PartXTail

section PartXLaw
open PySem PySem.W PyProof.Rows PySem.Calls
namespace Mine
local macro_rules | `(tactic| walk_at "call ref") => `(tactic| (k_here; refine Stop.out ?_))
local macro_rules | `(tactic| walk_at "subscriptTail") => `(tactic| (k_here; (with_reducible show wpAny _ _ (subscriptTail (PySem.Expr.List _ _) _ (Value.ref _) (Value.int _ _)) _ _ _); refine Stop.out ?_))
local macro_rules | `(tactic| walk_at "CompSrc") => `(tactic| (k_here; k_dflt (first | (refine LCg.CompSrc.ledger (by rfl) (by k_asm) (by k_asm) (by k_mem) (by first | size_fits | exact Nat.le_of_ble_eq_true rfl) ?_; intro g'; lcg_lit) | (refine LCg.CompSrc.range (by rfl) (by k_asm) (by k_asm) (by assumption) (by first | decide | rfl) (by first | rfl | decide) (by first | size_fits | exact Nat.le_of_ble_eq_true rfl) ?_; intro g'; lcg_lit))))
local macro_rules | `(tactic| walk_at "execs cons") => `(tactic| (k_here; (with_reducible show wpAny _ _ (execs (PySem.Stmt.Assign _ (PySem.Expr.ListComp (PySem.Expr.ListComp _ _ _ _) _ _ _) _ :: _) _) _ _ _); refine Stop.out ?_))
theorem mask_ok {p : Nat} {v : Int} (h0 : 0 ≤ v) (h1 : v < 2 ^ ((p : Int)).toNat - 1) : MaskOk p (1 + v) := by
  rw [Int.toNat_natCast] at h1
  unfold MaskOk
  generalize (2 : Int) ^ p = z at h1 ⊢
  omega
local macro_rules | `(tactic| walk_at "no key of this name") => `(tactic| fail)
set_option maxHeartbeats 8000000 in
theorem holds : PySem.Challenge.rw_xm0435_01.Holds := hd (by
  w_on
  w_top off
  w_strict k_go0
  all_goals try k_fold
  k_with_none
  k_steps
  refine Stop.back ?_
  rename_i hIq hlenq q _ _ _ y _ hord _ _ F0 N0 _
  rename _ ≠ q ∧ _ ≠ q ∧ _ ≠ q ∧ _ ≠ q => o5
  (k_dflt (refine' (next_cal _ _ _ _ y q (by k_ne) 0 _ 0 _ ys _ hIq (by (simp only [List.length_map, List.length_take]; omega)) (by decide) (by decide) 4 _ (by decide) (by decide)).use ?zB ?zF ?zX ?zN ?zT ?zk ?zd ?zu ?_))
  case zB => k_asm
  case zF => k_asm
  case zX => k_asm
  case zN => exact kst_newsOf N0 (by kst_inAny)
  case zT => k_asm
  case zk => exact rfl
  case zd => ktr_room
  case zu => ktr_units
  intro r hp tk F1 K1 hP
  obtain ⟨hq1, v1, tv1, tc1, rfl, hv10, hv11, hy1⟩ := hP
  have N1 := newsUpd N0 (by k_upd) (by kst_entry) K1 hy1 hq1
  clear K1 hq1 hy1 N0 F0
  (try dsimp only)
  (try k_fold)
  k_steps
  refine Stop.back ?_
  rename Fr _ _ _ _ => F2
  rename News _ _ _ _ => N2
  (k_dflt (refine' (next_cal _ _ _ _ y q (by k_ne) (0 + 1) _ 0 _ ys _ hIq (by (simp only [List.length_map, List.length_take]; omega)) (by decide) (by decide) 4 _ (by decide) (by decide)).use ?zB ?zF ?zX ?zN ?zT ?zk ?zd ?zu ?_))
  case zB => k_asm
  case zF => k_asm
  case zX => k_asm
  case zN => exact kst_newsOf N2 (by kst_inAny)
  case zT => k_asm
  case zk => exact rfl
  case zd => ktr_room
  case zu => ktr_units
  intro r hp tk F3 K3 hP
  obtain ⟨hq3, v2, tv2, tc2, rfl, hv20, hv21, hy3⟩ := hP
  have N3 := newsUpd N2 (by k_upd) (by kst_entry) K3 hy3 hq3
  clear K3 hq3 hy3 N2 F2
  (try dsimp only)
  (try k_fold)
  k_steps
  refine Stop.back ?_
  rename News _ _ _ _ => N4
  k_dflt (refine' menu4 N4 ?zm hv20 hv21 ?_ ?zs)
  case zm => k_mem
  case zs => with_unfolding_all rfl
  intro p tp hIsP hp5 hp13
  have hpw0 := two_pow_lo hp5
  have hpw1 := two_pow_hi hp13
  k_steps
  refine Stop.back ?_
  rename Fr _ _ _ _ => F5
  rename News _ _ _ _ => N5
  (k_dflt (refine' (next_cal _ _ _ _ y q (by k_ne) (0 + 1 + 1) _ 0 _ ys _ hIq (by (simp only [List.length_map, List.length_take]; omega)) (by decide) (by decide) _ _ hpw0 hpw1).use ?zB ?zF ?zX ?zN ?zT ?zk ?zd ?zu ?_))
  case zB => k_asm
  case zF => k_asm
  case zX => k_asm
  case zN => exact kst_newsOf N5 (by kst_inAny)
  case zT => k_asm
  case zk => exact rfl
  case zd => ktr_room
  case zu => ktr_units
  intro r hp tk F6 K6 hP
  obtain ⟨hq6, v3, tv3, tc3, rfl, hv30, hv31, hy6⟩ := hP
  have N6 := newsUpd N5 (by k_upd) (by kst_entry) K6 hy6 hq6
  clear K6 hq6 hy6 N5 F5
  (try dsimp only)
  (try k_fold)
  k_steps
  refine Stop.back ?_
  rename Fr _ _ _ _ => F7
  rename News _ _ _ _ => N7
  (k_dflt (refine' (next_cal _ _ _ _ y q (by k_ne) (0 + 1 + 1 + 1) _ 0 _ ys _ hIq (by (simp only [List.length_map, List.length_take]; omega)) (by decide) (by decide) _ _ hpw0 hpw1).use ?zB ?zF ?zX ?zN ?zT ?zk ?zd ?zu ?_))
  case zB => k_asm
  case zF => k_asm
  case zX => k_asm
  case zN => exact kst_newsOf N7 (by kst_inAny)
  case zT => k_asm
  case zk => exact rfl
  case zd => ktr_room
  case zu => ktr_units
  intro r hp tk F8 K8 hP
  obtain ⟨hq8, v4, tv4, tc4, rfl, hv40, hv41, hy8⟩ := hP
  have N8 := newsUpd N7 (by k_upd) (by kst_entry) K8 hy8 hq8
  clear K8 hq8 hy8 N7 F7
  (try dsimp only)
  (try k_fold)
  k_steps
  refine Stop.back ?_
  rename Fr _ _ _ _ => F9
  rename News _ _ _ _ => N9
  rw [show (0 + 1 + 1 + 1 + 1 : Int) = 4 from rfl] at N9
  rename_i o9
  obtain ⟨d1, d2, d3, d4, d5, d6, d7, d8⟩ := o9
  (k_dflt (refine' tail_cal _ _ _ _ _ _ _ _ _ _ _ _ _ _ _ _ _ _ _ _ _ y q _ _ _ (1 + v3) (1 + v4) (5 + v1) _ _ _ tp tc4 p ys _ _ ?zB F9 ?zX (kst_newsOf N9 (List.forall_mem_cons.mpr ⟨.head _, List.forall_mem_cons.mpr ⟨.tail _ (.tail _ (.tail _ (.head _))), List.forall_mem_cons.mpr ⟨.tail _ (.tail _ (.tail _ (.tail _ (.head _)))), List.forall_mem_cons.mpr ⟨.tail _ (.tail _ (.tail _ (.tail _ (.tail _ (.tail _ (.head _)))))), List.forall_mem_cons.mpr ⟨.tail _ (.tail _ (.tail _ (.tail _ (.tail _ (.tail _ (.tail _ (.head _))))))), List.forall_mem_cons.mpr ⟨.tail _ (.tail _ (.tail _ (.tail _ (.tail _ (.tail _ (.tail _ (.tail _ (.head _)))))))), List.forall_mem_nil _⟩⟩⟩⟩⟩⟩)) ?zT ?zoy ?zop ?zos ?zne hIq ?zlen hIsP hp5 hp13 ⟨by omega, by omega⟩ (mask_ok hv30 hv31) (mask_ok hv40 hv41) ?zd ?zu ?zE ?zr))
  case zB => k_asm
  case zX => k_asm
  case zT => k_asm
  case zd => ktr_room
  case zu => ktr_units
  case zlen => (simp only [List.length_map, List.length_take]; omega)
  case zoy => assumption
  case zop => assumption
  case zos => first | assumption | rfl | k_asm
  case zne => exact ⟨Ne.symm d3, Ne.symm d4, Ne.symm d6, Ne.symm d7, Ne.symm d8, Nat.ne_of_gt hord.1, Nat.ne_of_gt hord.2.2.1, Nat.ne_of_gt hord.2.2.2.1, Nat.ne_of_gt hord.2.2.2.2, Ne.symm o5.2.1, Ne.symm o5.2.2.1, Ne.symm o5.2.2.2, Nat.ne_of_gt (Nat.lt_succ_self _), Nat.ne_of_gt (Nat.lt_succ_of_lt (Nat.lt_succ_self _)), Nat.ne_of_gt (Nat.lt_succ_self _)⟩
  case zE => first | assumption | (with_unfolding_all passes_own)
  intro h' tk' m' news' F90 N90
  (try dsimp only)
  clear hv10 hv11 hv20 hv21 hv30 hv31 hv40 hv41 hIq hlenq d1 d2 d3 d4 d5 d6 d7 d8 hord o5
  k_steps)
end Mine
end PartXLaw

theorem PySem.Challenge.cw_xm0435_01_holds : PySem.Challenge.rw_xm0435_01.Holds :=
  Mine.holds
