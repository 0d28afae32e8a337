import PyProof.Rows.All
import Wide.All
import OpenK.AllK
import Wide.FinOn
import PySem.Challenge.RW_xm0745_01
open PySem PySem.W PyProof.Rows PySem.Calls
set_option Elab.async false
set_option maxRecDepth 100000
set_option maxHeartbeats 8000000
set_option compiler.extract_closed false
namespace Mine
open_top hd for PySem.Challenge.rw_xm0745_01
end Mine

section
theorem Mine.fresh_M0 : True := by
  w_top off
  exact trivial
namespace Mine

/-- how the state stands behind a call: `adr` may have changed, all else stands, what is told is new or of `adr` -/
structure Back (h₀ : Heap) (L : Addr) (m : Str → Option Value) (s : Shared) (adr : List Addr) (out : List (Addr × Obj)) (h' : Heap) : Prop where
  F : Fr h₀ L h' m
  N : News h₀ L h' out
  keep : ∀ b o, s.heap.get? b = some o → b ∉ adr → h'.get? b = some o
  new : ∀ p ∈ out, ∀ o, s.heap.get? p.1 = some o → p.1 ∈ adr

def Fun (w : World) (f : Addr) (lvl : Nat) (vs : List Value) (ro : List (Addr × List Value)) (inn : List (Addr × Obj)) (Post : Value → List (Addr × Obj) → Prop) : Prop :=
  ∀ (mean : ExcName → Option Value) (mg mb : Str → Option Value) (dp un : Nat) (gd : Option (List Code)) (cn : Str) (cs : Scope) (a : Addr) (ccd : Value) (cl : List (Str × Addr)) (outer : List Env) (A₀ : Around) (base h₀ : Heap) (L : Addr) (m : Str → Option Value) (s : Shared) (Q E : Value → Shared → Prop),
    Below A₀ base outer h₀ → Fr h₀ L s.heap m → (hd.heap_39 w.params).In h₀ → Top hd.view_39 (looseW hd.view_39 []) mean mg mb h₀ → cs.kind = .function →
    (∀ p ∈ ro, s.heap.IsList p.1 p.2.toArray ∧ ∀ q ∈ inn, p.1 ≠ q.1) → News h₀ L s.heap inn →
    dp + lvl < recursionLimit → un + 8 * lvl + 100 < cLine →
    (∀ r out h' tk', Back h₀ L m s (inn.map (·.1)) out h' → Post r out → Q r { s with heap := h', toks := tk' }) →
    wpAny (model PySem.Challenge.rw_xm0745_01.row.prog w) (ktrTop dp un gd cn cs L a ccd cl outer) (call (.ref f) vs) Q E s

theorem lift_list {h g : Heap} {adr : List Addr} (G : GSub h g adr) {l : Addr} {its : Array Value} (x : h.IsList l its) (n : l ∉ adr) : g.IsList l its :=
  let ⟨o, ho, r⟩ := x; ⟨o, G l o ho n, r⟩

theorem not_mem_of_ne {inn : List (Addr × Obj)} {l : Addr} (h : ∀ q ∈ inn, l ≠ q.1) : l ∉ inn.map (·.1) := fun hm => by
  obtain ⟨q, hq, e⟩ := List.mem_map.mp hm
  exact h q hq e.symm

/-- the lists that a call is handed, over the callee's ground -/
theorem lift_ro {h g : Heap} {ro : List (Addr × List Value)} {inn : List (Addr × Obj)} (G : GSub h g (inn.map (·.1)))
    (hro : ∀ p ∈ ro, h.IsList p.1 p.2.toArray ∧ ∀ q ∈ inn, p.1 ≠ q.1) : ∀ p ∈ ro, g.IsList p.1 p.2.toArray :=
  fun p hp => lift_list G (hro p hp).1 (not_mem_of_ne (hro p hp).2)

theorem back_of {h₀ g : Heap} {L L' : Addr} {m m' : Str → Option Value} {s : Shared} {adr : List Addr} {out news' : List (Addr × Obj)} {h' : Heap}
    (G : GSub s.heap g adr) (kF : Fr h₀ L h' m) (kN : News h₀ L h' news') (F' : Fr g L' h' m') (N' : News g L' h' news') (sub : ∀ p ∈ out, p ∈ news') : Back h₀ L m s adr out h' where
  F := kF
  N := fun p hp => kN p (sub p hp)
  keep := fun b o e n => F'.keep b o (G b o e n)
  new := fun p hp o e => by
    refine Classical.byContradiction fun n => ?_
    have h1 := (N' p (sub p hp)).2.2
    rw [G p.1 o e n] at h1
    cases h1

/-- no address of the ledger is d -/
def AllNe (d : Nat) : List (Addr × Obj) → Prop
  | [] => True
  | p :: r => @Ne Nat p.1 d ∧ AllNe d r
theorem allNe_of {d : Addr} : ∀ {l : List (Addr × Obj)}, (∀ p ∈ l, p.1 ≠ d) → AllNe d l
  | [], _ => trivial
  | p :: _, h => ⟨h p (.head _), allNe_of fun q hq => h q (.tail _ hq)⟩
/-- the two ledgers lie apart -/
def Apart : List (Addr × Obj) → List (Addr × Obj) → Prop
  | [], _ => True
  | p :: r, l => AllNe p.1 l ∧ Apart r l
theorem apart_of {rest : List (Addr × Obj)} : ∀ {out : List (Addr × Obj)}, (∀ p ∈ out, ∀ q ∈ rest, q.1 ≠ p.1) → Apart out rest
  | [], _ => trivial
  | p :: _, h => ⟨allNe_of (h p (.head _)), apart_of fun q hq => h q (.tail _ hq)⟩

theorem Fun.use {w : World} {f : Addr} {lvl : Nat} {vs : List Value} {ro : List (Addr × List Value)} {inn : List (Addr × Obj)} {Post : Value → List (Addr × Obj) → Prop} (C : Fun w f lvl vs ro inn Post)
    {mean : ExcName → Option Value} {mg mb : Str → Option Value} {dp un : Nat} {gd : Option (List Code)} {cn : Str} {cs : Scope} {a : Addr} {ccd : Value} {cl : List (Str × Addr)} {outer : List Env} {A₀ : Around} {base h₀ : Heap} {L : Addr} {m : Str → Option Value} {s : Shared} {Q E : Value → Shared → Prop} {news : List (Addr × Obj)} (rest : List (Addr × Obj))
    (B : Below A₀ base outer h₀) (F : Fr h₀ L s.heap m) (X : (hd.heap_39 w.params).In h₀) (T : Top hd.view_39 (looseW hd.view_39 []) mean mg mb h₀) (hk : cs.kind = .function) (N : News h₀ L s.heap news)
    (hro : ∀ p ∈ ro, s.heap.IsList p.1 p.2.toArray ∧ ∀ q ∈ inn, p.1 ≠ q.1) (hin : ∀ p ∈ inn, p ∈ news) (hrest : ∀ p ∈ rest, p ∈ news ∧ ∀ q ∈ inn, p.1 ≠ q.1)
    (hd : dp + lvl < recursionLimit) (hu : un + 8 * lvl + 100 < cLine)
    (ret : ∀ r out h' tk', Fr h₀ L h' m → News h₀ L h' (out ++ rest) → Apart out rest → Post r out → Q r { s with heap := h', toks := tk' }) :
    wpAny (model PySem.Challenge.rw_xm0745_01.row.prog w) (ktrTop dp un gd cn cs L a ccd cl outer) (call (.ref f) vs) Q E s := by
  refine C _ _ _ _ _ _ _ _ _ _ _ _ _ _ _ _ _ _ _ _ B F X T hk hro (fun p hp => N p (hin p hp)) hd hu fun r out h' tk' b post => ret r out h' tk' b.F (fun p hp => ?_) (apart_of fun p hp q hq e => ?_) post
  · rcases List.mem_append.mp hp with hp | hp
    · exact b.N p hp
    · have z := N p (hrest p hp).1
      exact ⟨b.keep _ _ z.1 (not_mem_of_ne (hrest p hp).2), z.2⟩
  · have z := N q (hrest q hq).1
    rw [e] at z
    exact not_mem_of_ne (hrest q hq).2 (e ▸ b.new p hp _ z.1)

theorem Fun.use0 {w : World} {f : Addr} {lvl : Nat} {vs : List Value} {ro : List (Addr × List Value)} {Post : Value → List (Addr × Obj) → Prop} (C : Fun w f lvl vs ro [] Post)
    {mean : ExcName → Option Value} {mg mb : Str → Option Value} {dp un : Nat} {gd : Option (List Code)} {cn : Str} {cs : Scope} {a : Addr} {ccd : Value} {cl : List (Str × Addr)} {outer : List Env} {A₀ : Around} {base h₀ : Heap} {L : Addr} {m : Str → Option Value} {s : Shared} {Q E : Value → Shared → Prop} {news : List (Addr × Obj)}
    (B : Below A₀ base outer h₀) (F : Fr h₀ L s.heap m) (X : (hd.heap_39 w.params).In h₀) (T : Top hd.view_39 (looseW hd.view_39 []) mean mg mb h₀) (hk : cs.kind = .function) (N : News h₀ L s.heap news)
    (hro : ∀ p ∈ ro, s.heap.IsList p.1 p.2.toArray) (hdp : dp + lvl < recursionLimit) (hu : un + 8 * lvl + 100 < cLine)
    (ret : ∀ r out h' tk', Fr h₀ L h' m → News h₀ L h' (out ++ news) → Apart out news → Post r out → Q r { s with heap := h', toks := tk' }) :
    wpAny (model PySem.Challenge.rw_xm0745_01.row.prog w) (ktrTop dp un gd cn cs L a ccd cl outer) (call (.ref f) vs) Q E s :=
  Fun.use C news B F X T hk N (fun p hp => ⟨hro p hp, fun _ h => nomatch h⟩) (fun _ h => nomatch h) (fun _ h => ⟨h, fun _ h => nomatch h⟩) hdp hu ret

/-- a def whose locals are captured is entered; the ground holds all that the callee may not change -/
theorem code_cells {prog : Program} {w : World} {A A₀ : Around} {s : Shared} {K : Frag} {L : Addr} {h₀ base : Heap} {m mg mb : Str → Option Value} {news : List (Addr × Obj)} {p : Program} {loose : List Str} {mean : ExcName → Option Value}
    {env : Env} {outer : List Env} {R : Result → Shared → Prop} {name qual : Str} {params : Arguments} {body : List Stmt} {scope : Scope} {dV kV doc pm cdv ct oc : Value} {an od : Option Addr} {osl : Array (Option Value)} {f : Addr} {args : Args} {binds : List (Str × Value)}
    (B : Below A₀ base outer h₀) (F : Fr h₀ L s.heap m) (X₀ : K.In h₀) (N : News h₀ L s.heap news) (T : Top p loose mean mg mb h₀) (hA : A.frames = some (env :: outer)) (hf : env.frame = some L) (hke : env.scope.kind = .function)
    (ho : K.lookup f = some ⟨oc, od, .func (fnOf name qual params body scope dV kV doc pm an cdv ct), osl⟩) (hcd : codeIn K cdv qual = true) (hroom : A.depth < recursionLimit)
    (hbind : BindsTo s (fnOf name qual params body scope dV kV doc pm an cdv ct) args binds) (hkind : (binds.all fun y => scope.names.lookup y.1 == some .local || scope.names.lookup y.1 == some .cell) = true)
    (hnd : ((cellsFrom 0 scope.names []).map (·.1)).Nodup)
    (h : ∀ g L' h₁ tk cells, Fr h₀ L g m → Fr g L' h₁ (bindL (envOfC qual scope L' f cdv).kindOf binds fun _ => none) → News g L' h₁ (cells ++ news) →
      CellsAre (bindC (envOfC qual scope L' f cdv).kindOf binds fun _ => none) (cellsFrom (L' + 1) scope.names []) cells → Below A base (env :: outer) g → K.In g → Top p loose mean mg mb g → (∀ p ∈ news, p.1 < L') → GSub s.heap g (news.map (·.1)) →
      wpAny (model prog w) (A.deeper (envOfC qual scope L' f cdv)) (execs body (envOfC qual scope L' f cdv))
        (fun fl s' => LeaveK h₀ L m g R (match fl with | .ret v => v | _ => .none) s')
        (fun e s' => wpAny (model prog w) (A.deeper (envOfC qual scope L' f cdv)) (leaving (envOfC qual scope L' f cdv) e) (fun _ s'' => R (.error e) s'') (fun e' s'' => R (.error e') s'') s')
        { s with heap := h₁, toks := tk })
    (hco : scope.isCoroutine = false) (hgen : scope.isGenerator = false) (hk : scope.kind = .function) : codeAny (model prog w) A (.call (.ref f) args) R s := by
  obtain ⟨FG, BG, st, lv⟩ := groundX (R := R) B F N hA hf hke
  have XG := X₀.keeps F.keep
  refine codeAny_call_function hroom (XG _ _ ho) rfl hco hgen rfl (codeRec_of XG hcd) (hbind _ _ _ _ ?_)
  refine wpAny_newFunctionEnv_cells hk (kindsX hkind _) fun env' he s' x => ?_
  subst he
  refine ⟨(T.nolimit.keeps F.keep).keeps x.toInCall.keep, codeAny_func ?_⟩
  obtain ⟨h₁, tk, rfl, _⟩ := x.done
  have k₁ := x.toInCall.keep
  obtain ⟨cells, NC, Y⟩ := Cl.news (h₀ := s.heap) (Nat.le_refl _) fun n c hm => ⟨x.cell n c (lookup_of_mem_nodup (cellsFrom_names scope.names 0 (s.heap.objs.size + 1) [] [] rfl ▸ hnd) hm), x.above n c hm⟩
  have FB : Fr (hideAll s.heap (news.map (·.1))) s.heap.objs.size h₁ (bindL (envOfC qual scope s.heap.objs.size f cdv).kindOf binds fun _ => none) :=
    ⟨x.toInCall.ns, fun b o e => k₁ b o (of_hideAll _ e), Nat.le_of_eq (hideAll_size _ _)⟩
  have NB : News (hideAll s.heap (news.map (·.1))) s.heap.objs.size h₁ (cells ++ news) := by
    intro q hq
    rcases List.mem_append.mp hq with hq | hq
    · have z := NC q hq
      refine ⟨z.1, z.2.1, ?_⟩
      cases e : (hideAll s.heap (news.map (·.1))).get? q.1 with
      | none => rfl
      | some o => have e' := of_hideAll _ e; rw [z.2.2] at e'; cases e'
    · exact ⟨k₁ _ _ (N q hq).1, Nat.ne_of_lt (Heap.lt_size (N q hq).1), hideAll_none _ (List.mem_map_of_mem hq)⟩
  exact wpAny_mono (h _ s.heap.objs.size h₁ tk cells FG FB NB Y BG (X₀.keeps st) (T.keeps st) (fun q hq => Heap.lt_size (N q hq).1) fun b o e n => hideAll_get _ e n) (fun fl s' hl => lv _ _ hl) fun _ _ y => y

/-- a tree that the walk leaves alone -/
def holdTree {α : Type} (t : Sem α) : Sem α := t
theorem hold {α : Type} {M : Model} {A : Around} {E : Value → Shared → Prop} {s : Shared} {t : Sem α} {Q : α → Shared → Prop} (h : wpAny M A (holdTree t) Q E s) : wpAny M A t Q E s := h
theorem unhold {α : Type} {M : Model} {A : Around} {E : Value → Shared → Prop} {s : Shared} {t : Sem α} {Q : α → Shared → Prop} (h : wpAny M A t Q E s) : wpAny M A (holdTree t) Q E s := h

def HoldP (P : Prop) : Prop := P
theorem holdP {P : Prop} (h : HoldP P) : P := h
theorem unholdP {P : Prop} (h : P) : HoldP P := h
theorem holdIt {P : Prop} (h : P) : HoldP P := h
theorem unholdIt {P : Prop} (h : HoldP P) : P := h
theorem cn1 {x : Nat} : x + 1 ≠ x := by omega
theorem cn2 {x : Nat} : x + 1 + 1 ≠ x := by omega
theorem cn3 {x : Nat} : x + 1 + 1 + 1 ≠ x := by omega
theorem cd1 {d x : Nat} (h : d < x) : x + 1 ≠ d := by omega
theorem cd2 {d x : Nat} (h : d < x) : x + 1 + 1 ≠ d := by omega
theorem cd3 {d x : Nat} (h : d < x) : x + 1 + 1 + 1 ≠ d := by omega
theorem cd4 {d x : Nat} (h : d < x) : x + 1 + 1 + 1 + 1 ≠ d := by omega
theorem uo {un x y : Nat} (h : un + 8 * x + 100 < cLine) (hx : 3 + 8 * y ≤ 8 * x := by decide) : un + 3 + 8 * y + 100 < cLine := by omega
theorem uu {un x : Nat} (h : un + 8 * x + 100 < cLine) : un + 3 + 64 < cLine := by omega
theorem ro {dp x y : Nat} (h : dp + x < recursionLimit) (hx : 1 + y ≤ x := by decide) : dp + 1 + y < recursionLimit := by omega
theorem up {a p : Prop} (h : a ∧ p) : p := h.2
theorem pj0 {p q : Prop} (h : p ∧ q) : p := h.1

/-- what a frame is known to hold -/
def Names (m : Str → Option Value) : List (Str × Value) → Prop
  | [] => True
  | (x, v) :: r => m x = some v ∧ Names m r
/-- a frame with its known names ahead -/
def nms (m : Str → Option Value) : List (Str × Value) → Str → Option Value
  | [] => m
  | (x, v) :: r => fun z => if z = x then some v else nms m r z
theorem nms_eq {m : Str → Option Value} : ∀ {ps : List (Str × Value)}, Names m ps → nms m ps = m
  | [], _ => rfl
  | (x, v) :: r, h => by
    show (fun z => if z = x then some v else nms m r z) = m
    rw [nms_eq h.2]
    funext z
    by_cases e : z = x
    · simp only [if_pos e]; rw [e]; exact h.1.symm
    · simp only [if_neg e]
theorem Names.fr {h₀ h : Heap} {L : Addr} {m : Str → Option Value} {ps : List (Str × Value)} (k : Names m ps) (F : Fr h₀ L h m) : Fr h₀ L h (nms m ps) := by
  rw [nms_eq k]
  exact F
theorem Names.fr2 {h₀ h : Heap} {L : Addr} {m : Str → Option Value} {ps : List (Str × Value)} {x : Str} {v : Value} (k : Names m ps) (F : Fr h₀ L h (fun y => if y = x then some v else m y)) : Fr h₀ L h (nms m ((x, v) :: ps)) := by
  have e2 : nms m ((x, v) :: ps) = fun y => if y = x then some v else m y := by
    show (fun z => if z = x then some v else nms m ps z) = _
    rw [nms_eq k]
  rw [e2]
  exact F
theorem news_k1 {h₀ h : Heap} {L : Addr} {p : Addr × Obj} {r : List (Addr × Obj)} (N : News h₀ L h (p :: r)) : News h₀ L h [p] := fun x hx => N x (by rw [List.mem_singleton.mp hx]; exact .head _)
theorem news_k2 {h₀ h : Heap} {L : Addr} {p q : Addr × Obj} {r : List (Addr × Obj)} (N : News h₀ L h (p :: q :: r)) : News h₀ L h [p, q] := fun x hx => N x (by
  rcases List.mem_cons.mp hx with rfl | hx
  · exact .head _
  rw [List.mem_singleton.mp hx]; exact .tail _ (.head _))
theorem news_erase {h₀ h : Heap} {L : Addr} {l : List (Addr × Obj)} (k : Nat) (N : News h₀ L h l) : News h₀ L h (l.eraseIdx k) := fun x hx => N x (List.mem_of_mem_eraseIdx hx)
theorem news_sub {h₀ h : Heap} {L : Addr} {l l' : List (Addr × Obj)} (N : News h₀ L h l) (hs : ∀ p ∈ l', p ∈ l) : News h₀ L h l' := fun p hp => N p (hs p hp)

section
variable {prog : Program} {w : World} {A : Around} {E : Value → Shared → Prop} {s : Shared} {env : Env} {h₀ : Heap} {x : Str} {body : List Stmt} {Q : Flow → Shared → Prop}

/-- how a turn of a for loop may end -/
structure TurnEnds (h₀ : Heap) (L : Addr) (s : Shared) (I : Addr) (oI : Obj) (Jn : (Str → Option Value) → List (Addr × Obj) → Prop) (Q Qt : Flow → Shared → Prop) : Prop where
  next : ∀ m' nx all h' tk', Fr h₀ L h' m' → News h₀ L h' all → (I, oI) ∈ all → (∀ p ∈ nx, p ∈ all) → AllNe I nx → Jn m' nx → Qt .next { s with heap := h', toks := tk' }
  cont : ∀ m' nx all h' tk', Fr h₀ L h' m' → News h₀ L h' all → (I, oI) ∈ all → (∀ p ∈ nx, p ∈ all) → AllNe I nx → Jn m' nx → Qt .cont { s with heap := h', toks := tk' }
  brk : ∀ s₂, Q .next s₂ → Qt .brk s₂
  ret : ∀ v s₂, Q (.ret v) s₂ → Qt (.ret v) s₂

theorem AllNe.all {d : Nat} : ∀ {l : List (Addr × Obj)}, AllNe d l → ∀ p ∈ l, p.1 ≠ d
  | [], _, _, h => nomatch h
  | _ :: _, x, p, h => by
    rcases List.mem_cons.mp h with rfl | h
    · exact x.1
    · exact AllNe.all x.2 p h

/-- the iterator I over its own memory alone -/
theorem loop_one {I : Addr} {n : Nat} {P : Nat → Value → Prop} {St : Nat → Heap → Prop} {fp : List Addr} {m₀ : Str → Option Value} {news : List (Addr × Obj)} (J : Nat → (Str → Option Value) → List (Addr × Obj) → Prop)
    (W : Walks prog w A I fp [I] n P St) (hI : ∀ i h, St i h → ∃ o, h.get? I = some o) (hLf : env.locals ∉ fp) (hI₀ : h₀.get? I = none) (hnw : ∀ p ∈ news, p.1 ≠ I) (hfp : ∀ b ∈ fp, b = I ∨ ∃ o, h₀.get? b = some o) (hst : St 0 s.heap)
    (F : Fr h₀ env.locals s.heap m₀) (N : News h₀ env.locals s.heap news) (hj : J 0 m₀ news)
    (turn : ∀ i v m₁ news₁ h tk oI (Qt : Flow → Shared → Prop), i < n → P i v → J i m₁ news₁ → AllNe I news₁ → Fr h₀ env.locals h (fun y => if y = x then some v else m₁ y) → News h₀ env.locals h ((I, oI) :: news₁) →
      TurnEnds h₀ env.locals s I oI (J (i + 1)) Q Qt → wpAny (model prog w) A (execs body env) Qt E { s with heap := h, toks := tk })
    (done : ∀ m₁ news₁ h tk, J n m₁ news₁ → Fr h₀ env.locals h m₁ → News h₀ env.locals h news₁ → Q .next { s with heap := h, toks := tk }) :
    LoopAtV prog w A h₀ env x body Q E (.ref I) s := by
  refine ⟨I, fp, [I], n, P, St, m₀, news, J, rfl, W, hLf, (fun b hb => by rw [List.mem_singleton.mp hb]; exact hI₀), (fun p hp hm => hnw p hp (List.mem_singleton.mp hm)), hst, F, N, hj, ?_, ?_⟩
  · rintro i v m₁ news₁ s₁ own ⟨h, tk, rfl⟩ hi hP hJ hoff hown hown' hall hst' F₁ N₁
    obtain ⟨oI, hoI⟩ := hI _ _ hst'
    have hIf : I ∈ fp := W.sub I (List.mem_singleton.mpr rfl)
    have hmem : (I, oI) ∈ own := hall I hIf hI₀ oI hoI
    have only : ∀ p ∈ own, p = (I, oI) := fun p hp => by
      have hpI : p.1 = I := by
        rcases hfp _ (hown p hp) with e | ⟨o, e⟩
        · exact e
        · have z := (N₁ p (List.mem_append_left _ hp)).2.2
          rw [e] at z; cases z
      have e := hown' p hp
      rw [hpI] at e
      have e2 : some oI = some p.2 := hoI.symm.trans e
      obtain ⟨a, o⟩ := p
      simp only at hpI e2
      rw [hpI, Option.some.inj e2]
    have ane : AllNe I news₁ := allNe_of fun p hp e => hoff p hp (List.mem_singleton.mpr e)
    have N₂ : News h₀ env.locals h ((I, oI) :: news₁) := fun p hp => by
      rcases List.mem_cons.mp hp with rfl | hp
      · exact N₁ _ (List.mem_append_left _ hmem)
      · exact N₁ _ (List.mem_append_right _ hp)
    have fin : ∀ m' nx all h' tk', Fr h₀ env.locals h' m' → News h₀ env.locals h' all → (I, oI) ∈ all → (∀ p ∈ nx, p ∈ all) → AllNe I nx → J (i + 1) m' nx →
        LoopStepU h₀ env.locals [I] own (J (i + 1)) { s with heap := h, toks := tk } .next { s with heap := h', toks := tk' } := fun m' nx all h' tk' F' N' hI' hs hne hJ' =>
      ⟨rfl, h', tk', m', nx, rfl, F', (fun p hp => by
        rcases List.mem_append.mp hp with hp | hp
        · rw [only p hp]; exact N' _ hI'
        · exact N' _ (hs p hp)), (fun p hp hm => hne.all p hp (List.mem_singleton.mp hm)), hJ'⟩
    exact turn i v m₁ news₁ h tk oI _ hi hP hJ ane F₁ N₂ ⟨fun m' nx all h' tk' a b c d e f => .next (fin m' nx all h' tk' a b c d e f), fun m' nx all h' tk' a b c d e f => .cont (fin m' nx all h' tk' a b c d e f), fun _ h => .brk h, fun _ _ h => .ret h⟩
  · rintro h' tk m' news' F' N' _ hJ
    exact done m' news' h' tk hJ F' N'

theorem loop_range {r : Addr} {a b c : Int} {t₀ u₀ v₀ : Tok} {n : Nat} {m₀ : Str → Option Value} {news : List (Addr × Obj)} (J : Nat → (Str → Option Value) → List (Addr × Obj) → Prop)
    (hh : A.handled = none) (hr : IsRange s.heap r a b c t₀ u₀ v₀) (hsmall : Builtin.Range.small a b c = true) (hn : Builtin.Range.rangeSize a b c = (n : Int)) (F : Fr h₀ env.locals s.heap m₀) (N : News h₀ env.locals s.heap news) (hj : J 0 m₀ news)
    (turn : ∀ (i : Nat) t m₁ news₁ h tk I oI (Qt : Flow → Shared → Prop) s₁, i < n → J i m₁ news₁ → AllNe I news₁ → Fr h₀ env.locals h (fun y => if y = x then some (.int (a + (i : Int) * c) t) else m₁ y) → News h₀ env.locals h ((I, oI) :: news₁) →
      TurnEnds h₀ env.locals s₁ I oI (J (i + 1)) Q Qt → wpAny (model prog w) A (execs body env) Qt E { s₁ with heap := h, toks := tk })
    (done : ∀ m₁ news₁ h tk, J n m₁ news₁ → Fr h₀ env.locals h m₁ → News h₀ env.locals h news₁ → Q .next { s with heap := h, toks := tk }) :
    wpAny (model prog w) A (pyIter (.ref r)) (fun it s₂ => LoopAtV prog w A h₀ env x body Q E it s₂) E s := by
  refine wpAny_pyIter_range hr hsmall ?_
  refine loop_one J (Walks.range hh _ a c n) (fun i h st => ⟨_, st⟩) ?_ (next_is_new F) ?_ ?_ (by show IsRangeIter _ _ _ _ _; rw [hn]; simpa using Heap.get?_push_size _ rfl) (F.push _) (fun p hp => ⟨Heap.get?_push_of_some _ (N p hp).1, (N p hp).2⟩) hj ?_ ?_
  · intro hm
    exact absurd F.ns.lt ((List.mem_singleton.mp hm) ▸ Nat.lt_irrefl _)
  · intro p hp e
    exact absurd (Heap.lt_size (N p hp).1) (e ▸ Nat.lt_irrefl _)
  · intro b hb
    exact .inl (List.mem_singleton.mp hb)
  · rintro i v m₁ news₁ h tk oI Qt hi ⟨t, rfl⟩ hJ ane F₁ N₁ te
    exact turn i t m₁ news₁ h tk _ oI Qt _ hi hJ ane F₁ N₁ te
  · intro m₁ news₁ h tk hJ F₁ N₁
    exact done m₁ news₁ h tk hJ F₁ N₁

theorem loop_list {l : Addr} {vs : List Value} {ns : List Int} {m₀ : Str → Option Value} {news : List (Addr × Obj)} (J : Nat → (Str → Option Value) → List (Addr × Obj) → Prop)
    (hh : A.handled = none) (hl : h₀.IsList l vs.toArray) (hi : IntsAre vs ns) (F : Fr h₀ env.locals s.heap m₀) (N : News h₀ env.locals s.heap news) (hj : J 0 m₀ news)
    (turn : ∀ (i : Nat) k t m₁ news₁ h tk I oI (Qt : Flow → Shared → Prop) s₁, ns[i]? = some k → J i m₁ news₁ → AllNe I news₁ → Fr h₀ env.locals h (fun y => if y = x then some (.int k t) else m₁ y) → News h₀ env.locals h ((I, oI) :: news₁) →
      TurnEnds h₀ env.locals s₁ I oI (J (i + 1)) Q Qt → wpAny (model prog w) A (execs body env) Qt E { s₁ with heap := h, toks := tk })
    (done : ∀ m₁ news₁ h tk, J ns.length m₁ news₁ → Fr h₀ env.locals h m₁ → News h₀ env.locals h news₁ → Q .next { s with heap := h, toks := tk }) :
    wpAny (model prog w) A (pyIter (.ref l)) (fun it s₂ => LoopAtV prog w A h₀ env x body Q E it s₂) E s := by
  have hls : s.heap.IsList l vs.toArray := hl.at fun o e => F.keep l o e
  obtain ⟨ol, hol, _⟩ := id hl
  have hlt : l < h₀.objs.size := Heap.lt_size hol
  have hls2 : l < s.heap.objs.size := Nat.lt_trans (Nat.lt_of_lt_of_le hlt F.above) F.ns.lt
  refine wpAny_pyIter_list hls ?_
  have W := Walks.list (prog := prog) (w := w) hh s.heap.objs.size l (Nat.ne_of_lt hls2) vs.toArray
  have hlen : vs.toArray.size = ns.length := by simp [hi.length]
  rw [hlen] at W
  refine loop_one J W (fun i h st => by obtain ⟨o, e, _⟩ := st.1; exact ⟨o, e⟩) ?_ (next_is_new F) ?_ ?_ ⟨⟨_, Heap.get?_push_size _ rfl, rfl, rfl⟩, hls.at fun o e => Heap.get?_push_of_some _ e⟩ (F.push _) (fun p hp => ⟨Heap.get?_push_of_some _ (N p hp).1, (N p hp).2⟩) hj ?_ ?_
  · intro hm
    rcases List.mem_cons.mp hm with e | hm
    · exact absurd F.ns.lt (e ▸ Nat.lt_irrefl _)
    · exact absurd (Nat.lt_of_lt_of_le hlt F.above) ((List.mem_singleton.mp hm) ▸ Nat.lt_irrefl _)
  · intro p hp e
    exact absurd (Heap.lt_size (N p hp).1) (e ▸ Nat.lt_irrefl _)
  · intro b hb
    rcases List.mem_cons.mp hb with e | hb
    · exact .inl e
    · rw [List.mem_singleton.mp hb]; exact .inr ⟨_, hol⟩
  · rintro i v m₁ news₁ h tk oI Qt hi' hP hJ ane F₁ N₁ te
    obtain ⟨t, hx⟩ := hi.get i ns[i] (by simp [hi'])
    have hv : v = .int ns[i] t := by
      have hP' : vs[i]? = some v := by simpa using hP
      rw [hx] at hP'; exact (Option.some.inj hP').symm
    subst hv
    exact turn i ns[i] t m₁ news₁ h tk _ oI Qt _ (by simp [hi']) hJ ane F₁ N₁ te
  · intro m₁ news₁ h tk hJ F₁ N₁
    exact done m₁ news₁ h tk hJ F₁ N₁

/-- how a turn of a while loop may end -/
structure WhileEnds (h₀ : Heap) (L : Addr) (s : Shared) (n : Nat) (J : Nat → (Str → Option Value) → List (Addr × Obj) → Prop) (Jo : (Str → Option Value) → List (Addr × Obj) → Prop) (Q Qt : Flow → Shared → Prop) (Qo : Shared → Prop) : Prop where
  next : ∀ n' m' nx all h' tk', Fr h₀ L h' m' → News h₀ L h' all → (∀ p ∈ nx, p ∈ all) → n' < n → J n' m' nx → Qt .next { s with heap := h', toks := tk' }
  cont : ∀ n' m' nx all h' tk', Fr h₀ L h' m' → News h₀ L h' all → (∀ p ∈ nx, p ∈ all) → n' < n → J n' m' nx → Qt .cont { s with heap := h', toks := tk' }
  brk : ∀ s₂, Q .next s₂ → Qt .brk s₂
  ret : ∀ v s₂, Q (.ret v) s₂ → Qt (.ret v) s₂
  out : ∀ m' nx all h' tk', Fr h₀ L h' m' → News h₀ L h' all → (∀ p ∈ nx, p ∈ all) → Jo m' nx → Qo { s with heap := h', toks := tk' }

theorem loop_while {L : Addr} {test : Expr} {pos : Pos} {m : Str → Option Value} {news : List (Addr × Obj)} (J : Nat → (Str → Option Value) → List (Addr × Obj) → Prop) (Jo : (Str → Option Value) → List (Addr × Obj) → Prop) {n₀ : Nat}
    (F : Fr h₀ L s.heap m) (N : News h₀ L s.heap news) (hJ : J n₀ m news)
    (turn : ∀ n m₁ news₁ h tk (Qt : Flow → Shared → Prop) (Qo : Shared → Prop), Fr h₀ L h m₁ → News h₀ L h news₁ → J n m₁ news₁ → WhileEnds h₀ L s n J Jo Q Qt Qo →
      wpAny (model prog w) A (isTrue test env (eval test env)) (fun b s₂ => if b = true then wpAny (model prog w) A (execs body env) Qt E s₂ else Qo s₂) E { s with heap := h, toks := tk })
    (done : ∀ m' nx h' tk', Fr h₀ L h' m' → News h₀ L h' nx → Jo m' nx → Q .next { s with heap := h', toks := tk' })
    (hE : PassesOwn (model prog w) A env E) :
    wpAny (model prog w) A (exec (.While test body [] pos) env) Q E s := by
  refine While_inv2 (fun n m₁ news₁ => J n m₁ news₁) F N hJ ?_ hE
  intro n m₁ news₁ h tk F₁ N₁ J₁
  exact turn n m₁ news₁ h tk (WhileStep2 h₀ L s J Q n) (Q .next) F₁ N₁ J₁
    ⟨fun n' m' nx all h' tk' a b c d e => ⟨h', tk', m', nx, n', rfl, a, news_sub b c, d, e⟩, fun n' m' nx all h' tk' a b c d e => ⟨h', tk', m', nx, n', rfl, a, news_sub b c, d, e⟩, fun _ h => h, fun _ _ h => h,
      fun m' nx all h' tk' a b c d => done m' nx h' tk' a (news_sub b c) d⟩
end

section
variable {prog : Program} {w : World} {A : Around} {E : Value → Shared → Prop} {s : Shared}
theorem item_eq {value slice : Expr} {l : Addr} {vs : List Value} {ns : List Int} {k v : Int} {u : Tok} {Q : Value → Shared → Prop} (hl : s.heap.IsList l vs.toArray) (hi : IntsAre vs ns)
    (h0 : 0 ≤ k) (h1 : k < ns.length) (hfit : k < 2 ^ 63) (e : ns.getD k.toNat 0 = v) (h : ∀ t, Q (.int v t) s)
    (hs : subscripted slice false (.ref l) (.int k u) = operate [.ref l, .int k u] (getItem (.ref l) (.int k u)) := by with_unfolding_all rfl) :
    wpAny (model prog w) A (subscriptTail value slice (.ref l) (.int k u)) Q E s := item_list_intsR hl hi h0 h1 hfit (by rw [e]; exact h) hs
end

/-- a ledger without one of its objects -/
inductive Pick (d : Addr) (o : Obj) : List (Addr × Obj) → List (Addr × Obj) → Prop
  | head {r : List (Addr × Obj)} : AllNe d r → Pick d o ((d, o) :: r) r
  | tail {p : Addr × Obj} {l r : List (Addr × Obj)} : @Ne Nat p.1 d → Pick d o l r → Pick d o (p :: l) (p :: r)
theorem AllNe.ne {d : Addr} : ∀ {l : List (Addr × Obj)}, AllNe d l → ∀ p ∈ l, p.1 ≠ d
  | [], _, _, h => nomatch h
  | _ :: _, x, p, h => by
    rcases List.mem_cons.mp h with rfl | h
    · exact x.1
    · exact AllNe.ne x.2 p h
theorem Pick.mem {d : Addr} {o : Obj} {l r : List (Addr × Obj)} (h : Pick d o l r) : (d, o) ∈ l := by
  induction h with
  | head _ => exact .head _
  | tail _ _ ih => exact .tail _ ih
theorem Pick.rest {d : Addr} {o : Obj} {l r : List (Addr × Obj)} (h : Pick d o l r) : ∀ p ∈ r, p ∈ l ∧ p.1 ≠ d := by
  induction h with
  | head a => exact fun p hp => ⟨.tail _ hp, a.ne p hp⟩
  | tail n _ ih =>
    intro p hp
    rcases List.mem_cons.mp hp with rfl | hp
    · exact ⟨.head _, n⟩
    · exact ⟨.tail _ (ih p hp).1, (ih p hp).2⟩

end Mine

end

section
theorem Mine.fresh_M1 : True := by
  w_top off
  exact trivial
namespace Mine
section
variable {prog : Program} {w : World} {A : Around} {h₀ : Heap} {L : Addr} {m : Str → Option Value} {env : Env} {ct elt : Expr} {x : Str} {scope : Scope} {cl : List (Str × Addr)} {s : Shared} {news : List (Addr × Obj)}

theorem rest_map {n : Nat} {P : Nat → Value → Prop} {S : List (Addr × Obj) → Prop} {Fin : List Value → List (Addr × Obj) → Prop} {ks : List Int} (g : Int → Int) (hks : ks.length = n) (hP : ∀ i v, i < n → P i v → ∃ k t, ks[i]? = some k ∧ v = .int k t) (hS : S news)
    (turn : ∀ k t I oI C oC D m₂ ys h tk (Qt : Value → Shared → Prop) (E' : Value → Shared → Prop), k ∈ ks → LCg.NsObj oC m₂ → m₂ x = some (.int k t) → Fr h₀ L h m → News h₀ L h ((I, oI) :: (C, oC) :: (D, LCg.lst ys) :: news) → LCg.Off3 I C D news → ((@Ne Nat I C) ∧ (@Ne Nat I D) ∧ (@Ne Nat C D)) →
      (∀ t' all h' tk', Fr h₀ L h' m → News h₀ L h' all → (∀ p ∈ (I, oI) :: (C, oC) :: (D, LCg.lst ys) :: news, p ∈ all) → Qt (.int (g k) t') { s with heap := h', toks := tk' }) →
      wpAny (model prog w) A (eval elt (compEnvC scope cl C env)) Qt E' { s with heap := h, toks := tk })
    (fin : ∀ ys, IntsAre ys (ks.map g) → Fin ys news) : LCg.CompRest prog w A h₀ L m env elt x scope cl s S P Fin n 0 [] news := by
  refine kcf_rest g hks hP ?_ fin
  intro k t I oI C oC D m₂ ys h tk E' hk hC hx F N off ne _
  exact turn k t I oI C oC D m₂ ys h tk _ E' hk hC hx F N off ne fun t' all h' tk' F' N' sub => LCg.CompEnd.intro F' N' news sub off hS ⟨rfl, t', rfl⟩

theorem foldl_pick (p : Int → Bool) : ∀ (ks l : List Int), ks.foldl (fun l k => if p k = true then l ++ [k] else l) l = l ++ ks.filter p
  | [], l => by simp
  | k :: r, l => by
    rw [List.foldl_cons, foldl_pick p r]
    cases h : p k with
    | true => simp [List.filter_cons, h]
    | false => simp [List.filter_cons, h]

theorem rest_filter {n : Nat} {P : Nat → Value → Prop} {S : List (Addr × Obj) → Prop} {Fin : List Value → List (Addr × Obj) → Prop} {ks : List Int} (p : Int → Bool) (hks : ks.length = n) (hP : ∀ i v, i < n → P i v → ∃ k t, ks[i]? = some k ∧ v = .int k t) (hS : S news)
    (turn : ∀ k t I oI C oC D m₂ ys h tk (Qt : Value → Shared → Prop) (Qf : Shared → Prop) (E' : Value → Shared → Prop), k ∈ ks → LCg.NsObj oC m₂ → m₂ x = some (.int k t) → Fr h₀ L h m → News h₀ L h ((I, oI) :: (C, oC) :: (D, LCg.lst ys) :: news) → LCg.Off3 I C D news → ((@Ne Nat I C) ∧ (@Ne Nat I D) ∧ (@Ne Nat C D)) →
      (p k = true → ∀ t' all h' tk', Fr h₀ L h' m → News h₀ L h' all → (∀ p ∈ (I, oI) :: (C, oC) :: (D, LCg.lst ys) :: news, p ∈ all) → Qt (.int k t') { s with heap := h', toks := tk' }) →
      (p k = false → ∀ all h' tk', Fr h₀ L h' m → News h₀ L h' all → (∀ p ∈ (I, oI) :: (C, oC) :: (D, LCg.lst ys) :: news, p ∈ all) → Qf { s with heap := h', toks := tk' }) →
      wpAny (model prog w) A (isTrue ct (compEnvC scope cl C env) (eval ct (compEnvC scope cl C env))) (fun b s' => if b = true then wpAny (model prog w) A (eval elt (compEnvC scope cl C env)) Qt E' s' else Qf s') E' { s with heap := h, toks := tk })
    (fin : ∀ ys, IntsAre ys (ks.filter p) → Fin ys news) : LCt.CompRestT prog w A h₀ L m env ct elt x scope cl s S P Fin n 0 [] news := by
  refine kci_rest (fun l k => if p k = true then l ++ [k] else l) hks hP ?_ (fun ys hy _ => fin ys (by rw [foldl_pick] at hy; simpa using hy)) ?_
  · intro k t I oI C oC D m₂ ys l h tk E' hk hI hC hx F N off ne _
    refine turn k t I oI C oC D m₂ ys h tk _ (fun s' => _) E' hk hC hx F N off ne (fun hp t' all h' tk' F' N' sub => LCg.CompEnd.intro F' N' news sub off hS ⟨rfl, k, t', rfl, by rw [if_pos hp]⟩) (fun hp all h' tk' F' N' sub => LCg.CompEnd.intro F' N' news sub off hS ⟨rfl, by rw [if_neg (by rw [hp]; exact Bool.false_ne_true)]⟩)
  · intro l k
    dsimp only
    split
    · simp
    · omega
end

section
variable {prog : Program} {w : World} {A : Around} {h₀ : Heap} {L : Addr} {m : Str → Option Value} {env : Env} {ct elt : Expr} {x : Str} {scope : Scope} {cl : List (Str × Addr)} {s : Shared} {news : List (Addr × Obj)} {Fin : Shared → List Value → List (Addr × Obj) → Prop}
/-- a comprehension over a list of the ledger -/
theorem comp_list {ax : Addr} {k : Nat} {vs : List Value} {ns : List Int} (g : Int → Int) (hh : A.handled = none) (F : Fr h₀ L s.heap m) (N : News h₀ L s.heap news) (hm : (ax, listOf vs.toArray k) ∈ news) (hi : IntsAre vs ns) (hsz : ns.length ≤ 1000)
    (turn : ∀ k t I oI C oC D m₂ ys h tk (Qt : Value → Shared → Prop) (E' : Value → Shared → Prop), k ∈ ns → LCg.NsObj oC m₂ → m₂ x = some (.int k t) → Fr h₀ L h m → News h₀ L h ((I, oI) :: (C, oC) :: (D, LCg.lst ys) :: news) → LCg.Off3 I C D news → ((@Ne Nat I C) ∧ (@Ne Nat I D) ∧ (@Ne Nat C D)) →
      (∀ t' all h' tk', Fr h₀ L h' m → News h₀ L h' all → (∀ p ∈ (I, oI) :: (C, oC) :: (D, LCg.lst ys) :: news, p ∈ all) → Qt (.int (g k) t') { s with heap := h', toks := tk' }) →
      wpAny (model prog w) A (eval elt (compEnvC scope cl C env)) Qt E' { s with heap := h, toks := tk })
    (fin : ∀ ys s', (∃ h, s' = { s with heap := h }) → IntsAre ys (ns.map g) → Fin s' ys news) :
    LCg.CompSrc prog w A h₀ L m env elt x scope cl Fin (.ref ax) s := by
  have hlen : vs.toArray.size = ns.length := by rw [List.size_toArray]; exact hi.length
  refine LCg.CompSrc.ledger hh F N hm (by rw [hlen, PySem.sizeLine_eq]; omega) fun h => ?_
  refine rest_map (ks := ns) g hlen.symm (fun i v _ hv => ?_) (.inr ⟨_, hm, rfl, _, rfl⟩) (fun k t I oI C oC D m₂ ys h' tk Qt E' hk hC hx F' N' off ne r => ?_) fun ys hy => fin ys _ ⟨h, rfl⟩ hy
  · obtain ⟨k, t, e, hk⟩ := IntsAre.at hi i v (by simpa using hv)
    exact ⟨k, t, hk, e⟩
  · exact turn k t I oI C oC D m₂ ys h' tk Qt E' hk hC hx F' N' off ne r

/-- a comprehension over a range -/
theorem comp_range {r : Addr} {a b : Int} {t u v : Tok} {n : Nat} (g : Int → Int) (hh : A.handled = none) (F : Fr h₀ L s.heap m) (N : News h₀ L s.heap news) (hr : IsRange s.heap r a b 1 t u v) (hsm : Builtin.Range.small a b 1 = true) (hn : Builtin.Range.rangeSize a b 1 = ((n : Nat) : Int)) (hsz : n ≤ 1000)
    (turn : ∀ k t I oI C oC D m₂ ys h tk (Qt : Value → Shared → Prop) (E' : Value → Shared → Prop), a ≤ k → k < a + (n : Int) → LCg.NsObj oC m₂ → m₂ x = some (.int k t) → Fr h₀ L h m → News h₀ L h ((I, oI) :: (C, oC) :: (D, LCg.lst ys) :: news) → LCg.Off3 I C D news → ((@Ne Nat I C) ∧ (@Ne Nat I D) ∧ (@Ne Nat C D)) →
      (∀ t' all h' tk', Fr h₀ L h' m → News h₀ L h' all → (∀ p ∈ (I, oI) :: (C, oC) :: (D, LCg.lst ys) :: news, p ∈ all) → Qt (.int (g k) t') { s with heap := h', toks := tk' }) →
      wpAny (model prog w) A (eval elt (compEnvC scope cl C env)) Qt E' { s with heap := h, toks := tk })
    (fin : ∀ ys s', (∃ h, s' = { s with heap := h }) → IntsAre ys ((rangeKs a n).map g) → Fin s' ys news) :
    LCg.CompSrc prog w A h₀ L m env elt x scope cl Fin (.ref r) s := by
  refine LCg.CompSrc.range hh F N hr hsm hn (by rw [PySem.sizeLine_eq]; omega) fun h => ?_
  refine rest_map (ks := rangeKs a n) g (rangeKs_length a n) (fun i v hi hv => ?_) trivial (fun k t I oI C oC D m₂ ys h' tk Qt E' hk hC hx F' N' off ne r => ?_) fun ys hy => fin ys _ ⟨h, rfl⟩ hy
  · obtain ⟨t, e⟩ := hv
    exact ⟨a + (i : Int), t, by simp [rangeKs, hi], e⟩
  · exact turn k t I oI C oC D m₂ ys h' tk Qt E' (mem_rangeKs hk).1 (mem_rangeKs hk).2 hC hx F' N' off ne r

/-- a range, picked from by a test -/
theorem comp_pick {r : Addr} {a b : Int} {t u v : Tok} {n : Nat} (p : Int → Bool) (hh : A.handled = none) (F : Fr h₀ L s.heap m) (N : News h₀ L s.heap news) (hr : IsRange s.heap r a b 1 t u v) (hsm : Builtin.Range.small a b 1 = true) (hn : Builtin.Range.rangeSize a b 1 = ((n : Nat) : Int)) (hsz : n ≤ 1000)
    (turn : ∀ k t I oI C oC D m₂ ys h tk (Qt : Value → Shared → Prop) (Qf : Shared → Prop) (E' : Value → Shared → Prop), a ≤ k → k < a + (n : Int) → LCg.NsObj oC m₂ → m₂ x = some (.int k t) → Fr h₀ L h m → News h₀ L h ((I, oI) :: (C, oC) :: (D, LCg.lst ys) :: news) → LCg.Off3 I C D news → ((@Ne Nat I C) ∧ (@Ne Nat I D) ∧ (@Ne Nat C D)) →
      (p k = true → ∀ t' all h' tk', Fr h₀ L h' m → News h₀ L h' all → (∀ p ∈ (I, oI) :: (C, oC) :: (D, LCg.lst ys) :: news, p ∈ all) → Qt (.int k t') { s with heap := h', toks := tk' }) →
      (p k = false → ∀ all h' tk', Fr h₀ L h' m → News h₀ L h' all → (∀ p ∈ (I, oI) :: (C, oC) :: (D, LCg.lst ys) :: news, p ∈ all) → Qf { s with heap := h', toks := tk' }) →
      wpAny (model prog w) A (isTrue ct (compEnvC scope cl C env) (eval ct (compEnvC scope cl C env))) (fun b s' => if b = true then wpAny (model prog w) A (eval elt (compEnvC scope cl C env)) Qt E' s' else Qf s') E' { s with heap := h, toks := tk })
    (fin : ∀ ys s', (∃ h, s' = { s with heap := h }) → IntsAre ys ((rangeKs a n).filter p) → Fin s' ys news) :
    LCt.CompSrcT prog w A h₀ L m env ct elt x scope cl Fin (.ref r) s := by
  refine LCt.CompSrcT.range hh F N hr hsm hn (by rw [PySem.sizeLine_eq]; omega) fun h => ?_
  refine rest_filter (ks := rangeKs a n) p (rangeKs_length a n) (fun i v hi hv => ?_) trivial (fun k t I oI C oC D m₂ ys h' tk Qt Qf E' hk hC hx F' N' off ne r1 r2 => ?_) fun ys hy => fin ys _ ⟨h, rfl⟩ hy
  · obtain ⟨t, e⟩ := hv
    exact ⟨a + (i : Int), t, by simp [rangeKs, hi], e⟩
  · exact turn k t I oI C oC D m₂ ys h' tk Qt Qf E' (mem_rangeKs hk).1 (mem_rangeKs hk).2 hC hx F' N' off ne r1 r2
end
end Mine

end

section
theorem Mine.fresh_M2 : True := by
  w_top off
  exact trivial
open Sem (wp)
namespace Mine
section
variable {prog : Program} {w : World} {A : Around} {R : Result → Shared → Prop} {E : Value → Shared → Prop} {h : Heap} {g : Array GenState} {d : Drawn} {t : Nat} {os : OsState}
variable {nm q : Str} {C N : Addr} {bs bm : List Value} {hdct : Bool} {sn : List Str} {sub : List Value} {ab : Bool} {col : Option Bool} {dd : Option Addr} {k0 k1 k2 k3 k5 : Option Value} {Bn newId inN : String} {bmN : List Value}

/-- an own exception is made, whatever __init__ its class finds -/
theorem exc_new (Fn : ExcBaseFacts Bn newId inN bmN) (hcB : (Value.ref C :: bm).contains (.type Bn) = true) (hcA : (Value.ref C :: bm).contains (.type "AttributeError") = false) (hcN : (Value.ref C :: bm).contains (.type "NameError") = false) {rest : List Value}
    (hC : h.get? C = some (excClassObj nm q C N bs bm hdct sn sub ab col dd k0 k1 k2 k3 k5 newId))
    (hq : R (.ok (.ret (.ref (h.objs.size + 1)))) ⟨(h.push { cls := .type "tuple", data := .seq rest.toArray }).push
      { cls := .ref C, data := .fields #[.ref h.objs.size, .none, .none, .none, .bool false, .none] }, g, d, t, os⟩) (hrest : rest.length ≤ sizeLine) :
    codeAny (model prog w) A (.builtin newId ⟨.ref C :: rest, []⟩) R ⟨h, g, d, t, os⟩ := by
  have hends := Fn.ends
  refine codeAny_builtinAt Fn.entry ?_
  unfold Builtin.«BaseException.__new__»
  refine PySem.wpAt_bind ?_
  show PySem.wpAt _ _ _ (stack >>= _) _ _ _
  refine PySem.wpAt_bind (PySem.wpAt_stack fun p below => PySem.wpAt_of_wpAny ?_)
  wp_walk
  refine PySem.wpAt_of_wpAny ?_
  rw [Fn.owner]
  repeat (first | with_reducible refine wpAny_madeHere_exc Fn.canon hC ?_ | with_reducible refine wpAny_loadPart_at hC ?_ | (with_reducible refine wpAny_isSubtype_exc hC ?_; first | rw [hcB] | rw [hcA] | rw [hcN]) | wp_step)
  show R _ _
  rw [Heap.size_push]
  exact hq

theorem exc_type_call (Fn : ExcBaseFacts Bn newId inN bmN) (hBn : bm.contains (.type Bn) = true) (hcA : (Value.ref C :: bm).contains (.type "AttributeError") = false) (hcN : (Value.ref C :: bm).contains (.type "NameError") = false) {rest : List Value} {fI : Addr} {oI : Obj} {Q : Fin → Shared → Prop}
    (hC : h.get? C = some (excClassObj nm q C N bs bm hdct sn sub ab col dd k0 k1 k2 k3 k5 newId)) (hI : Looks (model prog w) h (typeLookup (.ref C) "__init__") (some (.ref fI)))
    (hfI : h.get? fI = some oI) (hfc : oI.cls = .type "function")
    (hq : ∀ h' e, Heap.MadeExcOf h h' e (.ref C) rest →
      wpAny (model prog w) A (call (.ref fI) (.ref e :: rest)) (fun r s' => r = .none ∧ Q (.done (.ret (.ref e))) s') E ⟨h', g, d, t, os⟩) (hrest : rest.length ≤ sizeLine) :
    wpAny (model prog w) A (Builtin.«type.__call__» ⟨.ref C :: rest, []⟩) Q E ⟨h, g, d, t, os⟩ := by
  have hcB : (Value.ref C :: bm).contains (.type Bn) = true := by rw [List.contains_cons, hBn, Bool.or_true]
  repeat (first | with_reducible refine wpAny_loadPart_at hC ?_ | with_reducible refine wpAny_madeBy_exc hC ?_ | wp_step)
  refine codeAny_call_builtin_code (Code.quiet_builtin _ Fn.quiet) (wpAny_check_new_subU Fn hBn .base hC ?_)
  refine exc_new Fn hcB hcA hcN hC ?_ hrest
  show wpAny _ _ _ _ _ _
  have up : ∀ b o, h.get? b = some o → ((h.push { cls := .type "tuple", data := .seq rest.toArray }).push
      { cls := .ref C, data := .fields #[.ref h.objs.size, .none, .none, .none, .bool false, .none] }).get? b = some o := fun b o e => Heap.get?_push_of_some _ (Heap.get?_push_of_some _ e)
  have hC₁ := up _ _ hC
  have hfI₁ := up _ _ hfI
  have hget : ((h.push { cls := .type "tuple", data := .seq rest.toArray }).push
      { cls := .ref C, data := .fields #[.ref h.objs.size, .none, .none, .none, .bool false, .none] }).get? (h.objs.size + 1) = some
      { cls := .ref C, data := .fields #[.ref h.objs.size, .none, .none, .none, .bool false, .none] } := by heap_get
  have hcC : (Value.ref C :: bm).contains (.ref C) = true := by simp
  unfold isInstance
  repeat (first | with_reducible refine wpAny_loadPart_at hget ?_ | (with_reducible refine wpAny_isSubtype_exc hC₁ ?_; rw [hcC]) | wp_step)
  show wpAny _ _ (typeLookup (.ref C) _) _ _ _
  refine (hI.keeps up).here ?_
  refine wpAny_holding (wpAny_bind ?_)
  unfold bindSpecial
  refine wpAny_bind (wpAny_typeOf (T := "function") ⟨_, hfI₁, hfc⟩ ?_)
  rw [if_pos (by decide)]
  refine wpAny_pure (wpAny_bind (wpAny_mono (hq _ (h.objs.size + 1) ⟨up, Heap.get?_none_of_le (Nat.le_succ _), h.objs.size, hget, Heap.get?_none_of_le (Nat.le_refl _), ?_⟩) (fun r s' hr => ?_) fun _ _ x => x))
  · exact Heap.get?_push_of_some _ (Heap.get?_push_at rfl rfl)
  · obtain ⟨rfl, hQ⟩ := hr
    wp_walk
    exact hQ

theorem exc_call (Fn : ExcBaseFacts Bn newId inN bmN) (hBn : bm.contains (.type Bn) = true) (hcA : (Value.ref C :: bm).contains (.type "AttributeError") = false) (hcN : (Value.ref C :: bm).contains (.type "NameError") = false) {rest : List Value} {fI : Addr} {oI : Obj} {Q : Value → Shared → Prop}
    (hC : h.get? C = some (excClassObj nm q C N bs bm hdct sn sub ab col dd k0 k1 k2 k3 k5 newId)) (hI : Looks (model prog w) h (typeLookup (.ref C) "__init__") (some (.ref fI)))
    (hfI : h.get? fI = some oI) (hfc : oI.cls = .type "function")
    (hq : ∀ h' e, Heap.MadeExcOf h h' e (.ref C) rest →
      wpAny (model prog w) (A.under (.builtin "type.__call__" ⟨.ref C :: rest, []⟩)) (call (.ref fI) (.ref e :: rest)) (fun r s' => r = .none ∧ Q (.ref e) s') E ⟨h', g, d, t, os⟩) (hrest : rest.length ≤ sizeLine) :
    wpAny (model prog w) A (call (.ref C) rest) Q E ⟨h, g, d, t, os⟩ := by
  have f1 := tc_lookup
  have f2 := tc_bind (.ref C)
  have hT : (⟨h, g, d, t, os⟩ : Shared).TypeIs (.ref C) "type" := ⟨_, hC, rfl⟩
  refine wpAny_call (codeAny_of_tree ?_)
  show wpAny _ _ (callAny (.ref C) _) _ _ _
  repeat (any_goals (first | assumption | with_reducible refine wpAny_loadPart_at hC ?_ | wp_step))
  refine ⟨rfl, ?_⟩
  exact codeAny_call_builtin_at (Code.quiet_builtin _ (by decide +kernel)) entry_typeCall (wpAny_check_type_call_sub hC (exc_type_call Fn hBn hcA hcN hC hI hfI hfc (fun h' e hm => hq h' e hm) hrest))
end
open Builtin Builtin.ObjectAttr in
/-- a name stored on an exception that has no dict yet -/
theorem exc_set {prog : Program} {w : World} {A : Around} {E : Value → Shared → Prop} {s : Shared} {K : Frag} {C e : Addr} {cd : ClassData} {vs : Array Value} {sl : Array (Option Value)} {name : Str} {v : Value} {Q : Unit → Shared → Prop}
    (X : K.In s.heap) (he : s.heap.get? e = some ⟨.ref C, none, .fields vs, sl⟩) (hs : findIn K (.ref C) "__setattr__" = some (some (.builtin "object.__setattr__"))) (hm : findIn K (.ref C) name = some none)
    (hc : clsIn K C = some cd) (hpass : ∀ self : Value, refuseLoop self "__setattr__" cd.mro = pure ()) (hobj : mroIn K C (.type "object") = some true) (hdict : cd.hasDict = true)
    (h : ∀ h' dd od tk', (∀ b o, s.heap.get? b = some o → b ≠ e → h'.get? b = some o) → h'.get? e = some ⟨.ref C, some dd, .fields vs, sl⟩ → s.heap.get? dd = none → h'.get? dd = some od → Q () { s with heap := h', toks := tk' }) :
    wpAny (model prog w) A (setAttr (.ref e) name v) Q E s := by
  have I : InstAt s.heap e ⟨.ref C, none, .fields vs, sl⟩ C none := ⟨he, rfl, rfl, trivial⟩
  refine set_plain X I hs ?_
  have SF := PySem.F.store_object
  have I1 : InstAt ({ s with toks := s.toks + 1 } : Shared).heap e ⟨.ref C, none, .fields vs, sl⟩ C none := I
  have sub : Looks (model prog w) s.heap (isInstance (.ref e) (.type "object")) true := I.type.andThen (looks_mroIn X hobj)
  refine codeAny_call_builtin SF.slot.plain SF.entry (@check_slot (model prog w) _ _ _ "object.__setattr__" "object" "__setattr__" (.ref e) [.str name s.toks, v] [] _ SF.kind SF.split sub (SF.args (.ref e) (.str name s.toks) v) ?_)
  have hmro : Looks (model prog w) s.heap (mroOf (.ref C)) cd.mro := (looks_clsIn X hc).andThen .now
  rw [osa_eq, refuse_eq]
  refine wpAny_bind (wpAny_bind (I.type _ _ _ _ (fun _ _ e => e) (wpAny_bind (hmro _ _ _ _ (fun _ _ e => e) ?_))))
  rw [hpass]
  refine wpAny_pure (wpAny_bind (I.type _ _ _ _ (fun _ _ e => e) (wpAny_bind (looks_findIn X hm _ _ _ _ (fun _ _ e => e) (wpAny_bind (wpAny_pure ?_))))))
  dsimp only
  refine wpAny_bind (wpAny_pure (wpAny_bind (wpAny_bind (wpAny_loadPart he (wpAny_bind (looks_clsIn X hc _ _ _ _ (fun _ _ e => e) ?_))))))
  rw [hdict]
  dsimp only
  simp only [Bool.not_true, Bool.false_eq_true, if_false]
  rw [if_neg (by simp [typeHasDict])]
  refine wpAny_bind (wpAny_alloc ?_)
  have hen : e ≠ s.heap.objs.size := Nat.ne_of_lt (Heap.lt_size he)
  have he' : (s.heap.push { cls := .type "dict", data := .dict #[] }).get? e = some ⟨.ref C, none, .fields vs, sl⟩ := Heap.get?_push_of_some _ he
  refine wpAny_bind (wpAny_update he' (wpAny_pure ?_))
  dsimp only
  have hd' : ((s.heap.push { cls := .type "dict", data := .dict #[] }).update e fun o => { o with dict := some s.heap.objs.size }).get? s.heap.objs.size = some { cls := .type "dict", data := .dict #[] } := by
    rw [Heap.get?_update_other _ _ hen]
    exact Heap.get?_push_size _ rfl
  refine wpAny_bind (wpAny_pure ?_)
  unfold nsSet
  refine wpAny_bind (wpAny_bind (wpAny_bind (wpAny_askSetting (wpAny_pure (wpAny_bind (wpAny_mkText (wpAny_bind (wpAny_loadPart hd' ?_))))))))
  dsimp only
  generalize (if name.cps.isEmpty = true then (0 : Int) else reduceHash ((model prog w).w.params.strHash name.cps)) = hsh
  have hno : aRefKeyMayBeTheName name #[] = false := by rw [aRefKeyMayBeTheName_at]; simp
  rw [if_neg (by rw [hno]; exact Bool.false_ne_true)]
  have hput : Obj.putName name hsh (.str name (s.toks + 1)) v { cls := .type "dict", data := .dict #[] } = dictOf [⟨hsh, .str name (s.toks + 1), v⟩] 1 := putName_dict name hsh (.str name (s.toks + 1)) v [] 0
  have hd2 : (((s.heap.push { cls := .type "dict", data := .dict #[] }).update e fun o => { o with dict := some s.heap.objs.size }).update s.heap.objs.size (Obj.putName name hsh (.str name (s.toks + 1)) v)).get? s.heap.objs.size = some (dictOf [⟨hsh, .str name (s.toks + 1), v⟩] 1) := by
    rw [Heap.get?_update_self _ hd' (by rw [hput]; rfl), hput]
  refine wpAny_updatePart hd' (wpAny_bind (wpAny_lookBehind hd2 (pastItsLine_dict (by rw [List.size_toArray, sizeLine_eq]; simp)) (wpAny_pure (h _ s.heap.objs.size _ _ (fun b o hb hne => ?_) ?_ (Heap.get?_none_of_le (Nat.le_refl _)) hd2))))
  · have hlt := Heap.lt_size hb
    rw [Heap.get?_update_other _ _ (Nat.ne_of_gt hlt), Heap.get?_update_other _ _ (Ne.symm hne)]
    exact Heap.get?_push_of_some _ hb
  · rw [Heap.get?_update_other _ _ (Ne.symm hen), Heap.get?_update_self _ he' rfl]

end Mine

end

section
theorem Mine.fresh_M3 : True := by
  w_top off
  exact trivial
namespace Mine

/-- a def's end where a caught exception may have readied the frames of the callers -/
def LeaveT (A₀ : Around) (base : Heap) (outer : List Env) (K : Frag) (p : Program) (loose : List Str) (mean : ExcName → Option Value) (mg mb : Str → Option Value) (h₀ : Heap) (L : Addr) (m : Str → Option Value) (g : Heap) (R : Result → Shared → Prop) (v : Value) (s' : Shared) : Prop :=
  ∃ g' L' m' news', KtsTurn (L :: outer.filterMap (·.frame)) g g' ∧ Fr g' L' s'.heap m' ∧ News g' L' s'.heap news' ∧
    ∀ h₀', KtsTurn (outer.filterMap (·.frame)) h₀ h₀' → Fr h₀' L s'.heap m → News h₀' L s'.heap news' → Below A₀ base outer h₀' → K.In h₀' → Top p loose mean mg mb h₀' → R (.ok (.ret v)) s'

section
variable {prog : Program} {w : World} {A₀ A : Around} {s s' : Shared} {base h₀ : Heap} {outer : List Env} {L : Addr} {m : Str → Option Value} {news : List (Addr × Obj)} {K : Frag} {p : Program} {loose : List Str} {mean : ExcName → Option Value} {mg mb : Str → Option Value} {R : Result → Shared → Prop} {v : Value}

theorem turn_back (B : Below A₀ base outer h₀) (F : Fr h₀ L s.heap m) (N : News h₀ L s.heap news) (XB : K.In base) (TB : Top p loose mean mg mb base)
    (l : LeaveT A₀ base outer K p loose mean mg mb h₀ L m (hideAll s.heap (news.map (·.1))) R v s') : R (.ok (.ret v)) s' := by
  obtain ⟨g', L', m', news', T', F', N', k⟩ := l
  have nL₀ : h₀.get? L = none := kts_self F
  have nm : ∀ b o, h₀.get? b = some o → b ∉ news.map (·.1) := fun b o e q => by
    obtain ⟨p, hp, rfl⟩ := List.mem_map.mp q
    rw [(N p hp).2.2] at e; cases e
  have st : h₀.StaysIn (hideAll s.heap (news.map (·.1))) := fun b o e => hideAll_get _ (F.keep b o e) (nm b o e)
  obtain ⟨oL, es, ep, hL, hLd, hLk, hLf⟩ := F.ns
  have nL : L ∉ news.map (·.1) := fun q => by
    obtain ⟨p, hp, e⟩ := List.mem_map.mp q
    exact (N p hp).2.1 e
  obtain ⟨sl, hs⟩ := T'.up (hideAll_get (news.map (·.1)) hL nL)
  have hNs : s'.heap.Ns L m := ⟨_, es, ep, F'.keep _ _ hs, hLd, hLk, hLf⟩
  obtain ⟨T₁, S₁⟩ := kts_turn_at (h := s'.heap) (fs := outer.filterMap (·.frame)) (g := h₀)
    (fun b hb => let ⟨_, o, ho, _⟩ := B.frames.mem hb; ⟨o, ho⟩)
    (fun b o e nmem => F'.keep b o (T'.other b o (st b o e) fun q => by
      rcases List.mem_cons.mp q with z | z
      · rw [z, nL₀] at e; cases e
      · exact nmem z))
    (fun b o e _ => let ⟨sl', hs'⟩ := T'.up (st b o e); ⟨sl', F'.keep _ _ hs'⟩)
  have B₃ : Below A₀ base outer (ktsHeap s'.heap (outer.filterMap (·.frame)) h₀) := ⟨B.stack, fun b o e => T₁.other b o (B.stays b o e) (fun hm => by
    rw [(B.frames.mem hm).1] at e; cases e), B.frames.of_keeps fun b o e _ => let ⟨_, hs'⟩ := T₁.up e; ⟨_, hs', rfl⟩⟩
  refine k _ T₁ ⟨hNs, S₁, by rw [T₁.size]; exact F.above⟩ (fun p hp => ⟨(N' p hp).1, fun q => ?_, ?_⟩) B₃ (XB.keeps B₃.stays) (TB.keeps B₃.stays)
  · have z := (N' p hp).2.2; rw [q, hs] at z; cases z
  · refine T₁.none_ _ ?_
    cases q : h₀.get? p.1 with
    | none => rfl
    | some o =>
      obtain ⟨sl', hs'⟩ := T'.up (st _ _ q)
      have z := (N' p hp).2.2
      rw [hs'] at z; cases z
end

section
variable {prog : Program} {w : World} {A A₀ : Around} {s : Shared} {K : Frag} {L : Addr} {h₀ base : Heap} {m mg mb : Str → Option Value} {news : List (Addr × Obj)} {p : Program} {loose : List Str} {mean : ExcName → Option Value}
    {env : Env} {outer : List Env} {R : Result → Shared → Prop} {name qual : Str} {params : Arguments} {body : List Stmt} {scope : Scope} {dV kV doc pm cdv ct oc : Value} {an od : Option Addr} {osl : Array (Option Value)} {f : Addr} {args : Args} {binds : List (Str × Value)}

/-- a def is entered that may catch an exception -/
theorem code_turn (B : Below A₀ base outer h₀) (F : Fr h₀ L s.heap m) (X₀ : K.In h₀) (N : News h₀ L s.heap news) (T : Top p loose mean mg mb h₀) (XB : K.In base) (TB : Top p loose mean mg mb base) (hA : A.frames = some (env :: outer)) (hf : env.frame = some L) (hke : env.scope.kind = .function)
    (ho : K.lookup f = some ⟨oc, od, .func (fnOf name qual params body scope dV kV doc pm an cdv ct), osl⟩) (hcd : codeIn K cdv qual = true) (hroom : A.depth < recursionLimit)
    (hbind : BindsTo s (fnOf name qual params body scope dV kV doc pm an cdv ct) args binds) (hloc : ∀ y ∈ binds, scope.names.lookup y.1 = some .local)
    (h : ∀ g L' h₁, Fr h₀ L g m → Fr g L' h₁ (fun y => binds.reverse.lookup y) → News g L' h₁ news → Below A base (env :: outer) g → K.In g → Top p loose mean mg mb g → GSub s.heap g (news.map (·.1)) →
      wpAny (model prog w) (A.deeper (envOf qual scope L' f cdv)) (execs body (envOf qual scope L' f cdv))
        (fun fl s' => LeaveT A₀ base outer K p loose mean mg mb h₀ L m g R (match fl with | .ret v => v | _ => .none) s')
        (fun e s' => wpAny (model prog w) (A.deeper (envOf qual scope L' f cdv)) (leaving (envOf qual scope L' f cdv) e) (fun _ s'' => R (.error e) s'') (fun e' s'' => R (.error e') s'') s')
        { s with heap := h₁, toks := s.toks + binds.length })
    (hco : scope.isCoroutine = false) (hgen : scope.isGenerator = false) (hk : scope.kind = .function)
    (hcell : ∀ x ∈ scope.names, x.2 ≠ .cell) : codeAny (model prog w) A (.call (.ref f) args) R s := by
  obtain ⟨FG, BG, st, _⟩ := groundX (R := R) B F N hA hf hke
  refine codeAny_call_def (fd := fnX name qual params body scope [] dV kV doc pm an cdv ct) (body := body) (binds := binds) hroom ((X₀.keeps F.keep) _ _ ho) rfl (T.nolimit.keeps F.keep) (codeRec_of (X₀.keeps F.keep) hcd) rfl hbind hcell hloc (fun h₁ hns hk₁ => ?_) hco hgen hk
  exact wpAny_mono (h _ s.heap.objs.size h₁ FG ⟨hns, fun b o e => hk₁ b o (of_hideAll _ e), Nat.le_of_eq (hideAll_size _ _)⟩
    (fun p hp => ⟨hk₁ _ _ (N p hp).1, Nat.ne_of_lt (Heap.lt_size (N p hp).1), hideAll_none _ (List.mem_map_of_mem hp)⟩) BG (X₀.keeps st) (T.keeps st) (fun b o e n => hideAll_get _ e n)) (fun fl s' hl => turn_back B F N XB TB hl) fun _ _ y => y

theorem cells_turn (B : Below A₀ base outer h₀) (F : Fr h₀ L s.heap m) (X₀ : K.In h₀) (N : News h₀ L s.heap news) (T : Top p loose mean mg mb h₀) (XB : K.In base) (TB : Top p loose mean mg mb base) (hA : A.frames = some (env :: outer)) (hf : env.frame = some L) (hke : env.scope.kind = .function)
    (ho : K.lookup f = some ⟨oc, od, .func (fnOf name qual params body scope dV kV doc pm an cdv ct), osl⟩) (hcd : codeIn K cdv qual = true) (hroom : A.depth < recursionLimit)
    (hbind : BindsTo s (fnOf name qual params body scope dV kV doc pm an cdv ct) args binds) (hkind : (binds.all fun y => scope.names.lookup y.1 == some .local || scope.names.lookup y.1 == some .cell) = true)
    (hnd : ((cellsFrom 0 scope.names []).map (·.1)).Nodup)
    (h : ∀ g L' h₁ tk cells, Fr h₀ L g m → Fr g L' h₁ (bindL (envOfC qual scope L' f cdv).kindOf binds fun _ => none) → News g L' h₁ (cells ++ news) →
      CellsAre (bindC (envOfC qual scope L' f cdv).kindOf binds fun _ => none) (cellsFrom (L' + 1) scope.names []) cells → Below A base (env :: outer) g → K.In g → Top p loose mean mg mb g → (∀ p ∈ news, p.1 < L') → GSub s.heap g (news.map (·.1)) →
      wpAny (model prog w) (A.deeper (envOfC qual scope L' f cdv)) (execs body (envOfC qual scope L' f cdv))
        (fun fl s' => LeaveT A₀ base outer K p loose mean mg mb h₀ L m g R (match fl with | .ret v => v | _ => .none) s')
        (fun e s' => wpAny (model prog w) (A.deeper (envOfC qual scope L' f cdv)) (leaving (envOfC qual scope L' f cdv) e) (fun _ s'' => R (.error e) s'') (fun e' s'' => R (.error e') s'') s')
        { s with heap := h₁, toks := tk })
    (hco : scope.isCoroutine = false) (hgen : scope.isGenerator = false) (hk : scope.kind = .function) : codeAny (model prog w) A (.call (.ref f) args) R s := by
  obtain ⟨FG, BG, st, _⟩ := groundX (R := R) B F N hA hf hke
  have XG := X₀.keeps F.keep
  refine codeAny_call_function hroom (XG _ _ ho) rfl hco hgen rfl (codeRec_of XG hcd) (hbind _ _ _ _ ?_)
  refine wpAny_newFunctionEnv_cells hk (kindsX hkind _) fun env' he s' x => ?_
  subst he
  refine ⟨(T.nolimit.keeps F.keep).keeps x.toInCall.keep, codeAny_func ?_⟩
  obtain ⟨h₁, tk, rfl, _⟩ := x.done
  have k₁ := x.toInCall.keep
  obtain ⟨cells, NC, Y⟩ := Cl.news (h₀ := s.heap) (Nat.le_refl _) fun n c hm => ⟨x.cell n c (lookup_of_mem_nodup (cellsFrom_names scope.names 0 (s.heap.objs.size + 1) [] [] rfl ▸ hnd) hm), x.above n c hm⟩
  have FB : Fr (hideAll s.heap (news.map (·.1))) s.heap.objs.size h₁ (bindL (envOfC qual scope s.heap.objs.size f cdv).kindOf binds fun _ => none) :=
    ⟨x.toInCall.ns, fun b o e => k₁ b o (of_hideAll _ e), Nat.le_of_eq (hideAll_size _ _)⟩
  have NB : News (hideAll s.heap (news.map (·.1))) s.heap.objs.size h₁ (cells ++ news) := by
    intro q hq
    rcases List.mem_append.mp hq with hq | hq
    · have z := NC q hq
      refine ⟨z.1, z.2.1, ?_⟩
      cases e : (hideAll s.heap (news.map (·.1))).get? q.1 with
      | none => rfl
      | some o => have e' := of_hideAll _ e; rw [z.2.2] at e'; cases e'
    · exact ⟨k₁ _ _ (N q hq).1, Nat.ne_of_lt (Heap.lt_size (N q hq).1), hideAll_none _ (List.mem_map_of_mem hq)⟩
  exact wpAny_mono (h _ s.heap.objs.size h₁ tk cells FG FB NB Y BG (X₀.keeps st) (T.keeps st) (fun q hq => Heap.lt_size (N q hq).1) fun b o e n => hideAll_get _ e n) (fun fl s' hl => turn_back B F N XB TB hl) fun _ _ y => y
end

structure BackT (h₀ : Heap) (L : Addr) (m : Str → Option Value) (s : Shared) (adr fr : List Addr) (out : List (Addr × Obj)) (h' : Heap) : Prop where
  F : Fr h₀ L h' m
  N : News h₀ L h' out
  keep : ∀ b o, s.heap.get? b = some o → b ∉ adr → b ∉ fr → h'.get? b = some o
  new : ∀ p ∈ out, ∀ o, s.heap.get? p.1 = some o → p.1 ∈ adr

theorem backT_of {h₀' g g₁ : Heap} {L L' : Addr} {m m' : Str → Option Value} {s : Shared} {adr fr : List Addr} {out news' : List (Addr × Obj)} {h' : Heap}
    (G : GSub s.heap g adr) (T : KtsTurn fr g g₁) (kF : Fr h₀' L h' m) (kN : News h₀' L h' news') (F' : Fr g₁ L' h' m') (N' : News g₁ L' h' news') (sub : ∀ p ∈ out, p ∈ news') : BackT h₀' L m s adr fr out h' where
  F := kF
  N := fun p hp => kN p (sub p hp)
  keep := fun b o e n nf => F'.keep b o (T.other b o (G b o e n) nf)
  new := fun p hp o e => by
    refine Classical.byContradiction fun n => ?_
    have h1 := (N' p (sub p hp)).2.2
    obtain ⟨sl, h2⟩ := T.up (G p.1 o e n)
    rw [h2] at h1
    cases h1

def FunT (w : World) (f : Addr) (lvl : Nat) (vs : List Value) (ro : List (Addr × List Value)) (inn : List (Addr × Obj)) (Post : Value → List (Addr × Obj) → Prop) : Prop :=
  ∀ (mean : ExcName → Option Value) (mg mb : Str → Option Value) (dp un : Nat) (gd : Option (List Code)) (cn : Str) (cs : Scope) (a : Addr) (ccd : Value) (cl : List (Str × Addr)) (outer : List Env) (A₀ : Around) (base h₀ : Heap) (L : Addr) (m : Str → Option Value) (s : Shared) (Q E : Value → Shared → Prop),
    Below A₀ base outer h₀ → Fr h₀ L s.heap m → (hd.heap_39 w.params).In h₀ → Top hd.view_39 (looseW hd.view_39 []) mean mg mb h₀ → (hd.heap_39 w.params).In base → Top hd.view_39 (looseW hd.view_39 []) mean mg mb base → cs.kind = .function →
    (∀ p ∈ ro, s.heap.IsList p.1 p.2.toArray ∧ ∀ q ∈ inn, p.1 ≠ q.1) → News h₀ L s.heap inn →
    dp + lvl < recursionLimit → un + 8 * lvl + 100 < cLine →
    (∀ r out h' tk' h₀', KtsTurn (outer.filterMap (·.frame)) h₀ h₀' → Below A₀ base outer h₀' → (hd.heap_39 w.params).In h₀' → Top hd.view_39 (looseW hd.view_39 []) mean mg mb h₀' → BackT h₀' L m s (inn.map (·.1)) (L :: outer.filterMap (·.frame)) out h' → Post r out → Q r { s with heap := h', toks := tk' }) →
    wpAny (model PySem.Challenge.rw_xm0745_01.row.prog w) (ktrTop dp un gd cn cs L a ccd cl outer) (call (.ref f) vs) Q E s

theorem FunT.use {w : World} {f : Addr} {lvl : Nat} {vs : List Value} {ro : List (Addr × List Value)} {inn : List (Addr × Obj)} {Post : Value → List (Addr × Obj) → Prop} (C : FunT w f lvl vs ro inn Post)
    {mean : ExcName → Option Value} {mg mb : Str → Option Value} {dp un : Nat} {gd : Option (List Code)} {cn : Str} {cs : Scope} {a : Addr} {ccd : Value} {cl : List (Str × Addr)} {outer : List Env} {A₀ : Around} {base h₀ : Heap} {L : Addr} {m : Str → Option Value} {s : Shared} {Q E : Value → Shared → Prop} {news : List (Addr × Obj)} (rest : List (Addr × Obj))
    (B : Below A₀ base outer h₀) (F : Fr h₀ L s.heap m) (X : (hd.heap_39 w.params).In h₀) (T : Top hd.view_39 (looseW hd.view_39 []) mean mg mb h₀) (XB : (hd.heap_39 w.params).In base) (TB : Top hd.view_39 (looseW hd.view_39 []) mean mg mb base) (hk : cs.kind = .function) (N : News h₀ L s.heap news)
    (hro : ∀ p ∈ ro, s.heap.IsList p.1 p.2.toArray ∧ ∀ q ∈ inn, p.1 ≠ q.1) (hin : ∀ p ∈ inn, p ∈ news) (hrest : ∀ p ∈ rest, p ∈ news ∧ ∀ q ∈ inn, p.1 ≠ q.1)
    (hdp : dp + lvl < recursionLimit) (hu : un + 8 * lvl + 100 < cLine)
    (ret : ∀ r out h' tk' h₀', KtsTurn (outer.filterMap (·.frame)) h₀ h₀' → Below A₀ base outer h₀' → (hd.heap_39 w.params).In h₀' → Top hd.view_39 (looseW hd.view_39 []) mean mg mb h₀' → Fr h₀' L h' m → News h₀' L h' (out ++ rest) → Apart out rest → Post r out → Q r { s with heap := h', toks := tk' }) :
    wpAny (model PySem.Challenge.rw_xm0745_01.row.prog w) (ktrTop dp un gd cn cs L a ccd cl outer) (call (.ref f) vs) Q E s := by
  refine C _ _ _ _ _ _ _ _ _ _ _ _ _ _ _ _ _ _ _ _ B F X T XB TB hk hro (fun p hp => N p (hin p hp)) hdp hu fun r out h' tk' h₀' KT B' X' T' b post => ret r out h' tk' h₀' KT B' X' T' b.F (fun p hp => ?_) (apart_of fun p hp q hq e => ?_) post
  · rcases List.mem_append.mp hp with hp | hp
    · exact b.N p hp
    · have z := N p (hrest p hp).1
      have nf : p.1 ∉ L :: outer.filterMap (·.frame) := fun hm => by
        rcases List.mem_cons.mp hm with q | q
        · exact z.2.1 q
        · obtain ⟨_, o, ho, _⟩ := B.frames.mem q
          rw [z.2.2] at ho; cases ho
      exact ⟨b.keep _ _ z.1 (not_mem_of_ne (hrest p hp).2) nf, z.2.1, KT.none_ _ z.2.2⟩
  · have z := N q (hrest q hq).1
    rw [e] at z
    exact not_mem_of_ne (hrest q hq).2 (e ▸ b.new p hp _ z.1)
end Mine

end

namespace Mine
local macro_rules | `(tactic| walk_at "exec For Name Name cons nil") => `(tactic| (k_here; (rename Fr _ _ _ _ => lF'); (with_unfolding_all refine' For_invVF lF' ?k1 ?k2 ?_; (case k1 => exact rfl); (case k2 => exact rfl); k_whole)))
local macro_rules | `(tactic| walk_at "exec For Name Call cons nil") => `(tactic| walk_at "exec For Name Name cons nil")
local macro_rules | `(tactic| walk_at "pyIter ref") => `(tactic| ((with_reducible show wpAny _ _ (pyIter (Value.ref _)) (fun it s₂ => LoopAtV _ _ _ _ _ _ _ _ _ it s₂) _ _); refine hold ?_))
local macro_rules | `(tactic| walk_at "exec While Constant cons nil") => `(tactic| refine hold ?_)
local macro_rules | `(tactic| walk_at "exec While Compare cons nil") => `(tactic| refine hold ?_)
local macro_rules | `(tactic| walk_at "exec While BoolOp cons nil") => `(tactic| refine hold ?_)
local macro_rules | `(tactic| walk_at "exec While Name cons nil") => `(tactic| refine hold ?_)
set_option hygiene false in
local macro_rules | `(tactic| walk_at "my item") => `(tactic| ((with_reducible show wpAny _ _ (subscriptTail _ _ (Value.ref _) (Value.int _ _)) _ _ _); k_dflt (first
  | (refine' item_eq ?k1 ?k2 ?k3 ?k4 ?k5 ?k6 ?_; (case k1 => is_list); (case k2 => assumption); (case k3 => walk_at "my bound"); (case k4 => walk_at "my bound"); (case k5 => walk_at "my bound"); (case k6 => first | with_reducible exact unholdIt hA | with_reducible exact unholdIt hB | with_reducible exact unholdIt hC | with_reducible exact unholdIt hD | exact rfl); k_whole)
  | (refine' item_list_ints_negR ?k1 ?k2 ?k3 ?k4 ?k5 ?_; (case k1 => is_list); (case k2 => assumption); (case k3 => walk_at "my bound"); (case k4 => walk_at "my bound"); (case k5 => walk_at "my bound"); k_whole)); intro _))
local macro_rules | `(tactic| walk_at "my bound") => `(tactic| first | omega | decide)
local macro_rules | `(tactic| walk_at "subscriptTail Name Name ref int") => `(tactic| walk_at "my item")
local macro_rules | `(tactic| walk_at "subscriptTail Name UnaryOp ref int") => `(tactic| walk_at "my item")
local macro_rules | `(tactic| walk_at "subscriptTail Name BinOp ref int") => `(tactic| walk_at "my item")
local macro_rules | `(tactic| walk_at "subscriptTail Name Subscript ref int") => `(tactic| walk_at "my item")
local macro_rules | `(tactic| walk_at "eval ListComp") => `(tactic| (k_here; first
  | (lct_look; k_dflt (refine LCt.ListComp_T (F₀ := by k_asm) (by with_unfolding_all rfl) (by decide) (by rfl) (by decide) (by rfl) ?_))
  | (k_dflt (refine LCg.ListComp_U (F₀ := by k_asm) (by with_unfolding_all rfl) (by decide) (by rfl) (by decide) (by rfl) ?_))))
local macro_rules | `(tactic| walk_at "exec Assign cons ListComp") => `(tactic| (k_here; first
  | (lct_look; k_dflt (refine LCt.Assign_ListComp_T (F₀ := by k_asm) (by rfl) (by with_unfolding_all rfl) (by with_unfolding_all rfl) (by decide) (by rfl) (by decide) (by rfl) (by rfl) (by rfl) ?_))
  | (k_dflt (refine LCg.Assign_ListComp_U (F₀ := by k_asm) (by rfl) (by with_unfolding_all rfl) (by with_unfolding_all rfl) (by decide) (by rfl) (by decide) (by rfl) (by rfl) (by rfl) ?_))))
local macro_rules | `(tactic| walk_at "CompSrc") => `(tactic| refine holdP ?_)
local macro_rules | `(tactic| walk_at "CompSrcT") => `(tactic| refine holdP ?_)
local macro_rules | `(tactic| walk_at "exec Raise some none") => `(tactic| refine hold ?_)
local macro_rules | `(tactic| walk_at "my ints") => `(tactic| first | assumption | exact IntsAre.nil | (refine IntsAre.cons _ _ ?_; walk_at "my ints"))
local macro_rules | `(tactic| walk_at "my units") => `(tactic| first | exact uu (by with_reducible assumption) | (show _ + 64 < cLine; have hcL9 := cLine_is; simp only [units_in1, units_deeper, Around.mark_units]; (try dsimp only [ktrTop]); omega))
local macro_rules | `(tactic| walk_at "compareOp Eq ref ref") => `(tactic| (k_here; with_unfolding_all refine eq_intsK (by is_list) (by walk_at "my ints") (by is_list) (by walk_at "my ints") (by walk_at "my units") ?_))
local macro_rules | `(tactic| walk_at "compareOp NotEq ref ref") => `(tactic| (k_here; with_unfolding_all refine ne_intsK (by is_list) (by walk_at "my ints") (by is_list) (by walk_at "my ints") (by walk_at "my units") ?_))
local macro_rules | `(tactic| walk_at "pr") => `(tactic| focus (iterate 13 (try with_reducible (first | assumption | exact unholdIt ‹_› | apply up))); done)
local macro_rules | `(tactic| walk_at "pq") => `(tactic| first | walk_at "pr" | (with_reducible apply pj0; walk_at "pr"))
local macro_rules | `(tactic| walk_at "pc") => `(tactic| with_reducible first | exact cn1 | exact cn2 | exact cn3 | exact cd1 ‹_› | exact cd2 ‹_› | exact cd3 ‹_› | exact cd4 ‹_›)
local macro_rules | `(tactic| k_ne) => `(tactic| (refine neN ?_; (try dsimp only); first | walk_at "pc" | (refine Ne.symm ?_; walk_at "pc") | (refine Nat.ne_of_lt ?_; walk_at "pq") | (refine Nat.ne_of_gt ?_; walk_at "pq") | walk_at "pq" | (refine Ne.symm ?_; walk_at "pq") | omega))
local macro_rules | `(tactic| walk_at "pick all") => `(tactic| first | exact trivial | exact ⟨by k_ne, by walk_at "pick all"⟩)
local macro_rules | `(tactic| walk_at "pick") => `(tactic| first | exact Pick.head (by walk_at "pick all") | refine Pick.tail (by k_ne) (by walk_at "pick"))
local macro_rules | `(tactic| ktr_units) => `(tactic| exact uo (by with_reducible assumption))
local macro_rules | `(tactic| ktr_room) => `(tactic| exact ro (by with_reducible assumption))
theorem fill_up (w : World) (h : Heap) : (hd.heap_39 w.params).In h → PySem.Challenge.rw_xm0745_01.row.prog = PySem.Challenge.rw_xm0745_01.row.prog := by
  k_fill
  intros
  rfl

section
theorem fresh_Take : True := by
  w_top off
  exact trivial
theorem mul_mod_ok (x : Int) : IntMulOk (x.fmod 2147483647) (x.fmod 2147483647) :=
  IntMulOk.of_right (PySem.intBits_le_64 (by have := Int.fmod_nonneg_of_pos x (b := 2147483647) (by decide); omega) (by have := Int.fmod_lt_of_pos x (b := 2147483647) (by decide); omega))
local macro_rules | `(tactic| walk_at "binaryOp Mult int int") => `(tactic| (with_reducible refine mul_int ?_ ?hm; (case hm => k_dflt (exact mul_mod_ok _))))
theorem take_fun (w : World) {d : Addr} {n : Nat} {S0 S1 top : Int} {t0 t1 tt : Tok} (htop : 0 < top) (htop' : top < 1000) :
    Fun w 79 1 [.ref d, .int top tt] [] [(d, listOf #[.int S0 t0, .int S1 t1] n)]
      (fun v out => ∃ (x S0' S1' : Int) (t t0' t1' : Tok) (n' : Nat), v = .int x t ∧ out = [(d, listOf #[.int S0' t0', .int S1' t1'] n')] ∧ 0 ≤ x ∧ x < top) := by
  intro mean mg mb dp un gd cn cs a ccd cl outer A₀ base h₀ L m s Q E B F X T hk hro N hd hu ret
  (refine wpAny_call ?_; k_dflt (refine' code_defG ?k1_1 ?k2_1 ?k3_1 ?k4_1 ?k5_1 ?kA_1 ?kF_1 ?kK_1 ?k6_1 ?k7_1 ?k8_1 ?k9_1 ?kB_1 ?_ ?c2_1 ?c3_1 ?c4_1 ?c5_1; (case kA_1 => exact rfl); (case kF_1 => exact rfl); (case kK_1 => assumption); (case k1_1 => k_asm); (case k2_1 => k_asm); (case k3_1 => k_asm); (case k4_1 => k_asm); (case k5_1 => k_asm); (case k6_1 => k_is); (case k7_1 => k_is); (case k8_1 => ktr_room); (case k9_1 => exact BindsTo.of_eq rfl); (case c5_1 => decide); (case kB_1 => exact locs rfl); (case c2_1 => exact rfl); (case c3_1 => exact rfl); (case c4_1 => exact rfl); k_whole))
  intro g' L' h' FG' F' N' B' X' T' kG'
  dsimp only
  k_unmd
  k_fold
  k_steps
  · exact ret _ [_] _ _ (back_of kG' (by k_asm) (by k_asm) (by k_asm) (by k_asm) (fun _ h => h)) ⟨_, _, _, _, _, _, _, rfl, rfl, by exact Int.fmod_nonneg_of_pos _ htop, by exact Int.fmod_lt_of_pos _ htop⟩
  · exact ret _ [_] _ _ (back_of kG' (by k_asm) (by k_asm) (by k_asm) (by k_asm) (fun _ h => h)) ⟨_, _, _, _, _, _, _, rfl, rfl, by exact Int.fmod_nonneg_of_pos _ htop, by exact Int.fmod_lt_of_pos _ htop⟩
end

section
theorem fresh_Pick : True := by
  w_top off
  exact trivial
/-- a contract over one object of the ledger -/
theorem Fun.useP {w : World} {f : Addr} {lvl : Nat} {vs : List Value} {ro : List (Addr × List Value)} {d : Addr} {o : Obj} {Post : Value → List (Addr × Obj) → Prop} (C : Fun w f lvl vs ro [(d, o)] Post)
    {mean : ExcName → Option Value} {mg mb : Str → Option Value} {dp un : Nat} {gd : Option (List Code)} {cn : Str} {cs : Scope} {a : Addr} {ccd : Value} {cl : List (Str × Addr)} {outer : List Env} {A₀ : Around} {base h₀ : Heap} {L : Addr} {m : Str → Option Value} {s : Shared} {Q E : Value → Shared → Prop} {news rest : List (Addr × Obj)}
    (B : Below A₀ base outer h₀) (F : Fr h₀ L s.heap m) (X : (hd.heap_39 w.params).In h₀) (T : Top hd.view_39 (looseW hd.view_39 []) mean mg mb h₀) (hk : cs.kind = .function) (N : News h₀ L s.heap news) (P : Pick d o news rest)
    (hro : ∀ p ∈ ro, s.heap.IsList p.1 p.2.toArray ∧ @Ne Nat p.1 d)
    (hdp : dp + lvl < recursionLimit) (hu : un + 8 * lvl + 100 < cLine)
    (ret : ∀ r out h' tk', Fr h₀ L h' m → News h₀ L h' (out ++ rest) → Apart out rest → Post r out → Q r { s with heap := h', toks := tk' }) :
    wpAny (model PySem.Challenge.rw_xm0745_01.row.prog w) (ktrTop dp un gd cn cs L a ccd cl outer) (call (.ref f) vs) Q E s :=
  Fun.use C rest B F X T hk N (fun p hp => ⟨(hro p hp).1, fun q hq => by rw [List.mem_singleton.mp hq]; exact (hro p hp).2⟩) (fun p hp => by rw [List.mem_singleton.mp hp]; exact P.mem)
    (fun p hp => ⟨(P.rest p hp).1, fun q hq => by rw [List.mem_singleton.mp hq]; exact (P.rest p hp).2⟩) hdp hu ret
end

section
local macro_rules | `(tactic| walk_at "no such key") => `(tactic| skip)
theorem fresh_One : True := by
  w_top off
  exact trivial
section

local macro_rules | `(tactic| walk_at "call ref") => `(tactic| refine hold ?_)
theorem one_fun (w : World) {d l : Addr} {n : Nat} {S0 S1 : Int} {t0 t1 : Tok} {vs : List Value} {ns : List Int} (hi : IntsAre vs ns) (h0 : 0 < ns.length) (hlen : ns.length ≤ 63) :
    Fun w 86 2 [.ref d, .ref l] [(l, vs)] [(d, listOf #[.int S0 t0, .int S1 t1] n)]
      (fun v out => ∃ (x S0' S1' : Int) (t t0' t1' : Tok) (n' : Nat), v = .int x t ∧ out = [(d, listOf #[.int S0' t0', .int S1' t1'] n')] ∧ x ∈ ns) := by
  intro mean mg mb dp un gd cn cs a ccd cl outer A₀ base h₀ L m s Q E B F X T hk hro N hd hu ret
  (refine wpAny_call ?_; k_dflt (refine' code_defG ?k1_3 ?k2_3 ?k3_3 ?k4_3 ?k5_3 ?kA_3 ?kF_3 ?kK_3 ?k6_3 ?k7_3 ?k8_3 ?k9_3 ?kB_3 ?_ ?c2_3 ?c3_3 ?c4_3 ?c5_3; (case kA_3 => exact rfl); (case kF_3 => exact rfl); (case kK_3 => assumption); (case k1_3 => k_asm); (case k2_3 => k_asm); (case k3_3 => k_asm); (case k4_3 => k_asm); (case k5_3 => k_asm); (case k6_3 => k_is); (case k7_3 => k_is); (case k8_3 => ktr_room); (case k9_3 => exact BindsTo.of_eq rfl); (case c5_3 => decide); (case kB_3 => exact locs rfl); (case c2_3 => exact rfl); (case c3_3 => exact rfl); (case c4_3 => exact rfl); k_whole))
  intro g' L' h' FG' F' N' B' X' T' kG'
  have hl : g'.IsList l vs.toArray := lift_ro kG' hro (l, vs) (.head _)
  clear hro
  dsimp only
  k_unmd
  k_fold
  k_steps
  (refine unhold ?_; k_dflt (refine' Fun.useP (take_fun _ ?p_2 ?q_2) ?B_2 ?F_2 ?X_2 ?T_2 ?hk_2 ?N_2 ?P_2 ?ro_2 ?d_2 ?u_2 ?_; (case B_2 => k_asm); (case F_2 => k_asm); (case X_2 => k_asm); (case T_2 => k_asm); (case hk_2 => exact rfl); (case N_2 => k_asm); (case P_2 => walk_at "pick"); (case ro_2 => exact (fun _ h => nomatch h)); (case p_2 => omega); (case q_2 => omega); (case d_2 => ktr_room); (case u_2 => ktr_units); k_whole); refine fun r_2 out_2 h_2 tk_2 F_2 N_2 ap_2 post_2 => ?_; obtain ⟨x_2, S0_2, S1_2, t_2, t0_2, t1_2, n_2, e1_2, e2_2, b1_2, b2_2⟩ := post_2; subst e1_2; subst e2_2; simp only [List.cons_append, List.nil_append] at N_2; (try simp only [Apart, AllNe, and_true] at ap_2))
  k_steps
  refine ret _ [(_, listOf _ _)] _ _ (back_of kG' (by k_asm) (by k_asm) (by k_asm) (by k_asm) (fun p h => by rw [List.mem_singleton.mp h]; k_mem)) ⟨_, _, _, _, _, _, _, rfl, rfl, ?_⟩
  rename _ < (ns.length : Int) => hlt
  rw [List.getD_eq_getElem?_getD, List.getElem?_eq_getElem (by omega)]
  exact List.getElem_mem _
end
end

section
theorem fresh_Pool : True := by
  w_top off
  exact trivial
theorem mul_pool_ok (x : Int) : IntMulOk x 48271 := IntMulOk.of_right (PySem.intBits_le_64 (by decide) (by decide))
theorem mul_bool_ok (x : Int) (b : Bool) : IntMulOk x (if b = true then 1 else 0) := IntMulOk.of_right (PySem.intBits_le_64 (by split <;> decide) (by split <;> decide))
theorem exec_through {prog : Program} {w : World} {A : Around} {E : Value → Shared → Prop} {s : Shared} {t : Sem Flow} {Q : Flow → Shared → Prop} (P : Shared → Prop)
    (h1 : wpAny (model prog w) A t (fun f s' => HoldP (f = .next ∧ P s')) E s) (h2 : ∀ s', P s' → Q .next s') : wpAny (model prog w) A t Q E s :=
  wpAny_mono h1 (fun f s' h => by obtain ⟨rfl, p⟩ := unholdIt h; exact h2 s' p) fun _ _ h => h
local macro_rules | `(tactic| walk_at "exec If") => `(tactic| refine hold ?_)
theorem pool_fun (w : World) {l : Addr} {vs : List Value} {ns : List Int} {k : Int} {kt : Tok} (hi : IntsAre vs ns) (hlen : ns.length ≤ 63) (hk0 : 0 ≤ k) (hk2 : k < 2) :
    Fun w 72 1 [.ref l, .int k kt] [(l, vs)] []
      (fun v out => ∃ (D : Addr) (x y : Int) (t u : Tok) (n : Nat), v = .ref D ∧ out = [(D, listOf #[.int x t, .int y u] n)]) := by
  intro mean mg mb dp un gd cn cs a ccd cl outer A₀ base h₀ L m s Q E B F X T hk hro N hd hu ret
  (refine wpAny_call ?_; k_dflt (refine' code_defG ?k1_4 ?k2_4 ?k3_4 ?k4_4 ?k5_4 ?kA_4 ?kF_4 ?kK_4 ?k6_4 ?k7_4 ?k8_4 ?k9_4 ?kB_4 ?_ ?c2_4 ?c3_4 ?c4_4 ?c5_4; (case kA_4 => exact rfl); (case kF_4 => exact rfl); (case kK_4 => assumption); (case k1_4 => k_asm); (case k2_4 => k_asm); (case k3_4 => k_asm); (case k4_4 => k_asm); (case k5_4 => k_asm); (case k6_4 => k_is); (case k7_4 => k_is); (case k8_4 => ktr_room); (case k9_4 => exact BindsTo.of_eq rfl); (case c5_4 => decide); (case kB_4 => exact locs rfl); (case c2_4 => exact rfl); (case c3_4 => exact rfl); (case c4_4 => exact rfl); k_whole))
  intro g' L' h' FG' F' N' B' X' T' kG'
  have hl : g'.IsList l vs.toArray := lift_ro kG' hro (l, vs) (.head _)
  clear hro
  dsimp only
  k_unmd
  k_fold
  k_steps
  rename News _ _ _ _ => Nl
  refine unhold (exec_through (fun s' => ∃ (x : Int) (t : Tok) (m' : Str → Option Value) (h₁ : Heap) (tk : Nat), s' = { s with heap := h₁, toks := tk } ∧ Names m' [(Str.ofString "cell", .int x t), (Str.ofString "script", .ref l), (Str.ofString "k", .int k kt)] ∧ Fr g' L' h₁ m' ∧ News g' L' h₁ []) ?tif ?rest)
  case tif =>
    refine wpAny_If ?_
    k_steps
    all_goals exact unholdP ⟨rfl, _, _, _, _, _, rfl, ⟨rfl, rfl, rfl, trivial⟩, by k_asm, News.nil⟩
  case rest =>
    clear Nl
    rintro _ ⟨x, t, m', h₁, tk, rfl, nm, F₁, N₁⟩
    have F₂ := nm.fr F₁
    clear F₁
    k_steps
    exact ret _ [(_, listOf _ _)] _ _ (back_of kG' (by k_asm) (by k_asm) (by k_asm) (by k_asm) (fun p h => by rw [List.mem_singleton.mp h]; k_mem)) ⟨_, _, _, _, _, _, rfl, rfl⟩
end

section
theorem fresh_Made : True := by
  w_top off
  exact trivial
section
variable {prog : Program} {w : World} {A : Around} {h₀ : Heap} {L : Addr} {m : Str → Option Value} {env : Env} {elt : Expr} {x : Str} {scope : Scope} {cl : List (Str × Addr)} {s : Shared} {news : List (Addr × Obj)} {Fin : Shared → List Value → List (Addr × Obj) → Prop}
theorem rest_made {n : Nat} {S : Shared} {P : Nat → Value → Prop} {FinL : List Value → List (Addr × Obj) → Prop} (J : List (Addr × Obj) → Prop) (G : Int → Prop) (hP : ∀ i v, P i v → ∃ k t, v = .int k t)
    (turn : ∀ news₁ k t I oI C oC D m₂ ys h tk (Qt : Value → Shared → Prop) (E' : Value → Shared → Prop), J news₁ → LCg.NsObj oC m₂ → m₂ x = some (.int k t) → Fr h₀ L h m → News h₀ L h ((I, oI) :: (C, oC) :: (D, LCg.lst ys) :: news₁) → LCg.Off3 I C D news₁ → ((@Ne Nat I C) ∧ (@Ne Nat I D) ∧ (@Ne Nat C D)) →
      (∀ y t' all h' tk' nx, Fr h₀ L h' m → News h₀ L h' all → (∀ p ∈ (I, oI) :: (C, oC) :: (D, LCg.lst ys) :: nx, p ∈ all) → LCg.Off3 I C D nx → J nx → G y → Qt (.int y t') { S with heap := h', toks := tk' }) →
      wpAny (model prog w) A (eval elt (compEnvC scope cl C env)) Qt E' { S with heap := h, toks := tk })
    (fin : ∀ ys ks nx, J nx → IntsAre ys ks → ks.length = n → (∀ c ∈ ks, G c) → FinL ys nx) :
    ∀ (j i : Nat) (ys : List Value) (ks : List Int) (nx : List (Addr × Obj)), i + j = n → IntsAre ys ks → ks.length = i → (∀ c ∈ ks, G c) → J nx → LCg.CompRest prog w A h₀ L m env elt x scope cl S (fun _ => True) P FinL j i ys nx
  | 0, i, ys, ks, nx, hi, hy, hl, hG, hJ => LCg.CompRest.zero (fin ys ks nx hJ hy (by omega) hG)
  | j + 1, i, ys, ks, nx, hi, hy, hl, hG, hJ => by
    refine LCg.CompRest.succ fun v I oI C oC D m₂ h tk E' hv hC hx F N off ne => ?_
    obtain ⟨k, t, rfl⟩ := hP i v hv
    refine turn nx k t I oI C oC D m₂ ys h tk _ E' hJ hC hx F N off ne fun y t' all h' tk' nx' F' N' sub off' hJ' hy' => ?_
    refine LCg.CompEnd.intro F' N' nx' sub off' trivial ?_
    exact rest_made J G hP turn fin j (i + 1) _ (ks ++ [y]) nx' (by omega) (hy.append (.cons _ _ .nil)) (by rw [List.length_append, hl]; rfl) (fun c hc => by
      rcases List.mem_append.mp hc with hc | hc
      · exact hG c hc
      · rw [List.mem_singleton.mp hc]; exact hy') hJ'

/-- a comprehension over a range whose element changes the ledger -/
theorem comp_made {r : Addr} {a b : Int} {t u v : Tok} {n : Nat} (J : List (Addr × Obj) → Prop) (G : Int → Prop) (hh : A.handled = none) (F : Fr h₀ L s.heap m) (N : News h₀ L s.heap news) (hr : IsRange s.heap r a b 1 t u v) (hsm : Builtin.Range.small a b 1 = true) (hn : Builtin.Range.rangeSize a b 1 = ((n : Nat) : Int)) (hsz : n ≤ 1000) (hJ : J news)
    (turn : ∀ news₁ k t I oI C oC D m₂ ys h tk (Qt : Value → Shared → Prop) (E' : Value → Shared → Prop), J news₁ → LCg.NsObj oC m₂ → m₂ x = some (.int k t) → Fr h₀ L h m → News h₀ L h ((I, oI) :: (C, oC) :: (D, LCg.lst ys) :: news₁) → LCg.Off3 I C D news₁ → ((@Ne Nat I C) ∧ (@Ne Nat I D) ∧ (@Ne Nat C D)) →
      (∀ y t' all h' tk' nx, Fr h₀ L h' m → News h₀ L h' all → (∀ p ∈ (I, oI) :: (C, oC) :: (D, LCg.lst ys) :: nx, p ∈ all) → LCg.Off3 I C D nx → J nx → G y → Qt (.int y t') { s with heap := h', toks := tk' }) →
      wpAny (model prog w) A (eval elt (compEnvC scope cl C env)) Qt E' { s with heap := h, toks := tk })
    (fin : ∀ ys ks nx s', (∃ h, s' = { s with heap := h }) → J nx → IntsAre ys ks → ks.length = n → (∀ c ∈ ks, G c) → Fin s' ys nx) :
    LCg.CompSrc prog w A h₀ L m env elt x scope cl Fin (.ref r) s :=
  LCg.CompSrc.range hh F N hr hsm hn (by rw [PySem.sizeLine_eq]; omega) fun h =>
    rest_made (S := { s with heap := h }) (P := fun i v => ∃ t, v = .int (a + (i : Int)) t) J G (fun i v hv => by obtain ⟨t, e⟩ := hv; exact ⟨_, t, e⟩) (fun news₁ k t I oI C oC D m₂ ys h' tk Qt E' a1 a2 a3 a4 a5 a6 a7 a8 => turn news₁ k t I oI C oC D m₂ ys h' tk Qt E' a1 a2 a3 a4 a5 a6 a7 a8) (fun ys ks nx a b c d => fin ys ks nx _ ⟨h, rfl⟩ a b c d) n 0 [] [] news (by omega) .nil rfl (fun _ h => nomatch h) hJ
end
section
variable {prog : Program} {w : World} {A : Around} {h₀ : Heap} {L : Addr} {m : Str → Option Value} {env : Env} {elt : Expr} {x : Str} {scope : Scope} {cl : List (Str × Addr)} {s : Shared} {Fin : Shared → List Value → List (Addr × Obj) → Prop}
/-- the same, where the one object that changes is a list of two ints -/
theorem comp_source {d : Addr} {S0 S1 : Int} {t0 t1 : Tok} {nn : Nat} {rest : List (Addr × Obj)} {r : Addr} {a b : Int} {t u v : Tok} {n : Nat} (G : Int → Prop) (hh : A.handled = none) (F : Fr h₀ L s.heap m) (N : News h₀ L s.heap ((d, listOf #[.int S0 t0, .int S1 t1] nn) :: rest)) (hr : IsRange s.heap r a b 1 t u v) (hsm : Builtin.Range.small a b 1 = true) (hn : Builtin.Range.rangeSize a b 1 = ((n : Nat) : Int)) (hsz : n ≤ 1000)
    (turn : ∀ S0 S1 t0 t1 nn k t I oI C oC D m₂ ys h tk (Qt : Value → Shared → Prop) (E' : Value → Shared → Prop), LCg.NsObj oC m₂ → m₂ x = some (.int k t) → Fr h₀ L h m → News h₀ L h ((I, oI) :: (C, oC) :: (D, LCg.lst ys) :: (d, listOf #[.int S0 t0, .int S1 t1] nn) :: rest) → LCg.Off3 I C D ((d, listOf #[.int S0 t0, .int S1 t1] nn) :: rest) → ((@Ne Nat I C) ∧ (@Ne Nat I D) ∧ (@Ne Nat C D)) →
      (∀ y t' all h' tk' S0' S1' t0' t1' nn', Fr h₀ L h' m → News h₀ L h' all → (∀ p ∈ (I, oI) :: (C, oC) :: (D, LCg.lst ys) :: (d, listOf #[.int S0' t0', .int S1' t1'] nn') :: rest, p ∈ all) → G y → Qt (.int y t') { s with heap := h', toks := tk' }) →
      wpAny (model prog w) A (eval elt (compEnvC scope cl C env)) Qt E' { s with heap := h, toks := tk })
    (fin : ∀ ys ks s' S0 S1 t0 t1 nn, (∃ h, s' = { s with heap := h }) → IntsAre ys ks → ks.length = n → (∀ c ∈ ks, G c) → Fin s' ys ((d, listOf #[.int S0 t0, .int S1 t1] nn) :: rest)) :
    LCg.CompSrc prog w A h₀ L m env elt x scope cl Fin (.ref r) s := by
  refine comp_made (fun nx => ∃ (S0 S1 : Int) (t0 t1 : Tok) (nn : Nat), nx = (d, listOf #[.int S0 t0, .int S1 t1] nn) :: rest) G hh F N hr hsm hn hsz ⟨_, _, _, _, _, rfl⟩ ?_ ?_
  · rintro news₁ k t I oI C oC D m₂ ys h tk Qt E' ⟨S0, S1, t0, t1, nn, rfl⟩ hC hx F₁ N₁ off ne r
    exact turn S0 S1 t0 t1 nn k t I oI C oC D m₂ ys h tk Qt E' hC hx F₁ N₁ off ne fun y t' all h' tk' S0' S1' t0' t1' nn' F' N' sub hy => r y t' all h' tk' _ F' N' sub off ⟨_, _, _, _, _, rfl⟩ hy
  · rintro ys ks nx s' hs ⟨S0, S1, t0, t1, nn, rfl⟩ hy hl hG
    exact fin ys ks s' S0 S1 t0 t1 nn hs hy hl hG
end
end

section
theorem fresh_Sums : True := by
  w_top off
  exact trivial
def psums (ns : List Int) : List Int := (List.range (ns.length + 1)).map fun i => (ns.take i).sum
theorem psums_length (ns : List Int) : (psums ns).length = ns.length + 1 := by simp [psums]
theorem psums_get (ns : List Int) {i : Nat} (h : i ≤ ns.length) : (psums ns)[i]? = some ((ns.take i).sum) := by
  unfold psums
  rw [List.getElem?_map, List.getElem?_range (by omega)]
  rfl
theorem psums_getD (ns : List Int) {i : Nat} (h : i ≤ ns.length) : (psums ns).getD i 0 = (ns.take i).sum := by
  rw [List.getD_eq_getElem?_getD, psums_get ns h]; rfl
theorem psums_snoc (ns : List Int) (n : Int) : psums (ns ++ [n]) = psums ns ++ [ns.sum + n] := by
  apply List.ext_getElem?
  intro i
  by_cases h : i ≤ ns.length
  · rw [psums_get _ (by simp; omega), List.getElem?_append_left (by rw [psums_length]; omega), psums_get _ h, List.take_append_of_le_length h]
  · by_cases h2 : i = ns.length + 1
    · subst h2
      rw [psums_get _ (by simp), List.getElem?_append_right (by rw [psums_length]; omega), psums_length, Nat.sub_self, List.take_of_length_le (by simp)]
      simp
    · rw [List.getElem?_eq_none (by rw [psums_length]; simp; omega), List.getElem?_eq_none (by simp [psums_length]; omega)]

theorem sums_fun (w : World) {l : Addr} {vs : List Value} {ns : List Int} (hi : IntsAre vs ns) (hlen : ns.length ≤ 1000) :
    Fun w 93 1 [.ref l] [(l, vs)] []
      (fun v out => ∃ (D : Addr) (us : List Value) (n : Nat), v = .ref D ∧ out = [(D, listOf us.toArray n)] ∧ IntsAre us (psums ns)) := by
  intro mean mg mb dp un gd cn cs a ccd cl outer A₀ base h₀ L m s Q E B F X T hk hro N hd hu ret
  (refine wpAny_call ?_; k_dflt (refine' code_defG ?k1_5 ?k2_5 ?k3_5 ?k4_5 ?k5_5 ?kA_5 ?kF_5 ?kK_5 ?k6_5 ?k7_5 ?k8_5 ?k9_5 ?kB_5 ?_ ?c2_5 ?c3_5 ?c4_5 ?c5_5; (case kA_5 => exact rfl); (case kF_5 => exact rfl); (case kK_5 => assumption); (case k1_5 => k_asm); (case k2_5 => k_asm); (case k3_5 => k_asm); (case k4_5 => k_asm); (case k5_5 => k_asm); (case k6_5 => k_is); (case k7_5 => k_is); (case k8_5 => ktr_room); (case k9_5 => exact BindsTo.of_eq rfl); (case c5_5 => decide); (case kB_5 => exact locs rfl); (case c2_5 => exact rfl); (case c3_5 => exact rfl); (case c4_5 => exact rfl); k_whole))
  intro g' L' h' FG' F' N' B' X' T' kG'
  have hl : g'.IsList l vs.toArray := lift_ro kG' hro (l, vs) (.head _)
  clear hro
  dsimp only
  k_unmd
  k_fold
  k_steps
  rename News _ _ _ _ => Nl
  rename Fr _ _ _ _ => Fl
  refine unhold (loop_list (fun i m nx => ∃ D us n, Names m [(Str.ofString "found", .ref D)] ∧ nx = [(D, listOf us.toArray n)] ∧ IntsAre us (psums (ns.take i))) rfl hl hi Fl Nl ⟨_, _, _, ⟨rfl, trivial⟩, rfl, ?_⟩ ?_ ?_)
  · exact .cons _ _ .nil
  · rintro i k t m₁ news₁ h tk I oI Qt s₁ hk ⟨D, us, n, nm, rfl, hus⟩ ane F₁ N₁ te
    have F₂ := nm.fr2 F₁
    clear F₁
    simp only [AllNe, and_true] at ane
    have hi' : i < ns.length := (List.getElem?_eq_some_iff.mp hk).1
    have hle : (psums (ns.take i)).length = i + 1 := by rw [psums_length, List.length_take]; omega
    have hul := hus.length
    have hlast : (psums (ns.take i)).getD (-1 + ((psums (ns.take i)).length : Int)).toNat 0 = (ns.take i).sum := by
      rw [hle, show (-1 + ((i + 1 : Nat) : Int)).toNat = i by omega, List.getD_eq_getElem?_getD, psums_get _ (by rw [List.length_take]; omega), List.take_take, Nat.min_self]
      rfl
    have hnext : psums (ns.take (i + 1)) = psums (ns.take i) ++ [(ns.take i).sum + k] := by
      rw [List.take_add_one, hk]
      exact psums_snoc _ _
    k_steps
    rename News _ _ _ _ => Nl
    simp only [List.push_toArray] at Nl
    refine te.next _ [_] _ _ _ (by k_asm) Nl (by k_mem) (fun p hp => .tail _ hp) ⟨ane, trivial⟩ ⟨D, _, _, ⟨rfl, trivial⟩, rfl, ?_⟩
    rw [hnext, hlast]
    exact IntsAre.append hus (.cons _ _ .nil)
  · rintro m₁ news₁ h tk ⟨D, us, n, nm, rfl, hus⟩ F₁ N₁
    have F₂ := nm.fr F₁
    clear F₁
    rw [List.take_length] at hus
    k_steps
    exact ret _ [_] _ _ (back_of kG' (by k_asm) (by k_asm) (by k_asm) (by k_asm) (fun _ h => h)) ⟨_, _, _, rfl, rfl, hus⟩
end

section
theorem fresh_Starts : True := by
  w_top off
  exact trivial
def stepOf (b : Bool) : Int := if b = true then 1 else 0
def startsOf (b : Bool) (ns : List Int) : List Int := 0 :: (ns.dropLast.map fun e => e + stepOf b)
theorem starts_fun (w : World) {l : Addr} {vs : List Value} {ns : List Int} {b : Bool} (hi : IntsAre vs ns) (hlen : ns.length ≤ 1000) :
    Fun w 58 1 [.ref l, .bool b] [(l, vs)] []
      (fun v out => ∃ (D : Addr) (us : List Value) (n : Nat), v = .ref D ∧ out = [(D, listOf us.toArray n)] ∧ IntsAre us (startsOf b ns)) := by
  intro mean mg mb dp un gd cn cs a ccd cl outer A₀ base h₀ L m s Q E B F X T hk hro N hd hu ret
  (refine wpAny_call ?_; k_dflt (refine' code_cells ?k1_6 ?k2_6 ?k3_6 ?k4_6 ?k5_6 ?kA_6 ?kF_6 ?kK_6 ?k6_6 ?k7_6 ?k8_6 ?k9_6 ?kB_6 ?kD_6 ?_ ?c2_6 ?c3_6 ?c4_6; (case kA_6 => exact rfl); (case kF_6 => exact rfl); (case kK_6 => assumption); (case k1_6 => k_asm); (case k2_6 => k_asm); (case k3_6 => k_asm); (case k4_6 => k_asm); (case k5_6 => k_asm); (case k6_6 => k_is); (case k7_6 => k_is); (case k8_6 => ktr_room); (case k9_6 => exact BindsTo.of_eq rfl); (case kB_6 => exact rfl); (case kD_6 => decide +kernel); (case c2_6 => exact rfl); (case c3_6 => exact rfl); (case c4_6 => exact rfl); k_whole))
  intro g' L' h' tk' cells' FG' F' N' Y' B' X' T' l1 kG'
  k_cells Y'
  have hl : g'.IsList l vs.toArray := lift_ro kG' hro (l, vs) (.head _)
  clear hro
  (try simp only [List.cons_append, List.nil_append] at N')
  dsimp only
  k_unmd
  k_fold
  k_steps
  all_goals
    rename News _ _ _ _ => Nl
    rename Fr _ _ _ _ => Fl
    rename IntsAre _ (List.take _ _) => hT
    rename b = _ => hb
    refine unholdP (comp_list (fun e => e + stepOf b) rfl Fl Nl (by k_mem) hT (by rw [List.length_take]; omega) ?_ ?_)
    · intro k t I oI C oC D m₂ ys h tk Qt E' hk hC hx F₁ N₁ off ne r
      simp only [LCg.Off3, and_true] at off
      subst hb
      k_steps
      exact r _ _ _ _ (by k_asm) (by k_asm) (fun _ h => h)
    · rintro ys s' ⟨hh, rfl⟩ hys D h tk F₁ N₁ off1
      simp only [LCg.Off1, and_true] at off1
      k_steps
      rename IntsAre _ ([0] ++ _) => hR
      refine ret _ [_] _ _ (back_of kG' (by k_asm) (by k_asm) (by k_asm) (by k_asm) (fun p h => by rw [List.mem_singleton.mp h]; k_mem)) ⟨_, _, _, rfl, rfl, ?_⟩
      rw [startsOf, List.dropLast_eq_take]
      exact hR
end

section
theorem fresh_Spec : True := by
  w_top off
  exact trivial
/-- how many cells from the left have room -/
def fit : List Int → Int → Nat
  | [], _ => 0
  | c :: r, room => if c ≤ room then fit r (room - c) + 1 else 0
/-- the ends of the pages from `start` on -/
def pagesF (costs : List Int) (room : Int) (step : Nat) : Nat → Nat → Option (List Nat)
  | 0, _ => none
  | fuel + 1, start =>
    if fit (costs.drop start) room = 0 ∧ start < costs.length then none
    else if costs.length ≤ start + fit (costs.drop start) room then some [costs.length]
    else if costs.length ≤ start + fit (costs.drop start) room + step then some [start + fit (costs.drop start) room, costs.length]
    else (pagesF costs room step fuel (start + fit (costs.drop start) room + step)).map fun l => (start + fit (costs.drop start) room) :: l
def pages (costs : List Int) (room : Int) (step : Nat) : Option (List Nat) := pagesF costs room step (costs.length + 1) 0
def natInts (l : List Nat) : List Int := l.map fun (n : Nat) => (n : Int)
def stepN (b : Bool) : Nat := if b = true then 1 else 0
theorem fit_le : ∀ (cs : List Int) (room : Int), fit cs room ≤ cs.length
  | [], _ => Nat.le_refl _
  | c :: r, room => by
    unfold fit
    split
    · have := fit_le r (room - c); simp; omega
    · simp
theorem fit_end {ns : List Int} {e : Nat} (h : ns.length ≤ e) (r : Int) : fit (ns.drop e) r = 0 := by
  rw [List.drop_eq_nil_of_le h]; rfl
theorem drop_at {ns : List Int} {e : Nat} (h : e < ns.length) : ns.drop e = ns.getD e 0 :: ns.drop (e + 1) := by
  rw [List.drop_eq_getElem_cons h, List.getD_eq_getElem?_getD, List.getElem?_eq_getElem h]; rfl
theorem fit_yes {ns : List Int} {e : Nat} {used room : Int} (h : e < ns.length) (hc : used + ns.getD e 0 ≤ room) : fit (ns.drop e) (room - used) = fit (ns.drop (e + 1)) (room - (used + ns.getD e 0)) + 1 := by
  rw [drop_at h, fit, if_pos (by omega), show room - used - ns.getD e 0 = room - (used + ns.getD e 0) by omega]
theorem fit_no {ns : List Int} {e : Nat} {used room : Int} (h : e < ns.length) (hc : ¬ used + ns.getD e 0 ≤ room) : fit (ns.drop e) (room - used) = 0 := by
  rw [drop_at h, fit, if_neg (by omega)]
theorem natInts_append (a b : List Nat) : natInts (a ++ b) = natInts a ++ natInts b := by simp [natInts]
theorem natInts_length (a : List Nat) : (natInts a).length = a.length := by simp [natInts]
theorem pagesF_succ (costs : List Int) (room : Int) (step n start e : Nat) (he : e = start + fit (costs.drop start) room) :
    pagesF costs room step (n + 1) start = if fit (costs.drop start) room = 0 ∧ start < costs.length then none
      else if costs.length ≤ e then some [costs.length] else if costs.length ≤ e + step then some [e, costs.length] else (pagesF costs room step n (e + step)).map fun l => e :: l := by
  subst he; rfl
theorem pages_raise {ns : List Int} {room : Int} {step n start e : Nat} {acc : List Nat} (hn : 0 < n) (hp : pages ns room step = (pagesF ns room step n start).map (acc ++ ·)) (he : e = start + fit (ns.drop start) room) (h1 : e = start) (h2 : e < ns.length) : pages ns room step = none := by
  obtain ⟨n, rfl⟩ : ∃ k, n = k + 1 := ⟨n - 1, by omega⟩
  rw [hp, pagesF_succ _ _ _ _ _ _ he, if_pos ⟨by omega, by omega⟩]; rfl
theorem pages_end {ns : List Int} {room : Int} {step n start e : Nat} {acc : List Nat} (hn : 0 < n) (hp : pages ns room step = (pagesF ns room step n start).map (acc ++ ·)) (he : e = start + fit (ns.drop start) room) (h2 : ns.length ≤ e) : pages ns room step = some (acc ++ [ns.length]) := by
  obtain ⟨n, rfl⟩ : ∃ k, n = k + 1 := ⟨n - 1, by omega⟩
  rw [hp, pagesF_succ _ _ _ _ _ _ he, if_neg (by omega), if_pos h2]; rfl
theorem pages_end2 {ns : List Int} {room : Int} {step n start e : Nat} {acc : List Nat} (hn : 0 < n) (hp : pages ns room step = (pagesF ns room step n start).map (acc ++ ·)) (he : e = start + fit (ns.drop start) room) (h1 : e ≠ start) (h2 : ¬ ns.length ≤ e) (h3 : ns.length ≤ e + step) : pages ns room step = some (acc ++ [e, ns.length]) := by
  obtain ⟨n, rfl⟩ : ∃ k, n = k + 1 := ⟨n - 1, by omega⟩
  rw [hp, pagesF_succ _ _ _ _ _ _ he, if_neg (by omega), if_neg h2, if_pos h3]; rfl
theorem pages_next {ns : List Int} {room : Int} {step n start e : Nat} {acc : List Nat} (hn : 0 < n) (hp : pages ns room step = (pagesF ns room step n start).map (acc ++ ·)) (he : e = start + fit (ns.drop start) room) (h1 : e ≠ start) (h2 : ¬ ns.length ≤ e) (h3 : ¬ ns.length ≤ e + step) :
    pages ns room step = (pagesF ns room step (n - 1) (e + step)).map ((acc ++ [e]) ++ ·) := by
  obtain ⟨n, rfl⟩ : ∃ k, n = k + 1 := ⟨n - 1, by omega⟩
  rw [hp, pagesF_succ _ _ _ _ _ _ he, if_neg (by omega), if_neg h2, if_neg h3, Nat.add_sub_cancel, Option.map_map]
  congr 1
  funext l
  simp
theorem sum_nonneg' (r : List Int) (j : Nat) (hr : ∀ x ∈ r, 1 ≤ x) : 0 ≤ (r.take j).sum := by
  induction r generalizing j with
  | nil => simp
  | cons a r ih =>
    cases j with
    | zero => simp
    | succ j =>
      rw [List.take_succ_cons, List.sum_cons]
      have := hr a (.head _)
      have := ih j fun x hx => hr x (.tail _ hx)
      omega
theorem fit_spec : ∀ (cs : List Int) (room : Int) (j : Nat), (∀ c ∈ cs, 1 ≤ c) → 1 ≤ j → j ≤ cs.length → ((cs.take j).sum ≤ room ↔ j ≤ fit cs room)
  | [], _, j, _, h1, h2 => by simp at h2; omega
  | c :: r, room, j, hp, h1, h2 => by
    obtain ⟨j, rfl⟩ : ∃ k, j = k + 1 := ⟨j - 1, by omega⟩
    have hc := hp c (.head _)
    have hr : ∀ x ∈ r, 1 ≤ x := fun x hx => hp x (.tail _ hx)
    simp only [List.length_cons] at h2
    rw [List.take_succ_cons, List.sum_cons, fit]
    by_cases hj : j = 0
    · subst hj
      split <;> simp <;> omega
    · have ih := fit_spec r (room - c) j hr (by omega) (by omega)
      split
      · omega
      · have hs : 0 ≤ (r.take j).sum := sum_nonneg' r j hr
        omega
theorem sum_take_drop (ns : List Int) (i j : Nat) : ((ns.drop i).take j).sum = (ns.take (i + j)).sum - (ns.take i).sum := by
  have h : ns.take (i + j) = ns.take i ++ (ns.drop i).take j := by rw [List.take_add]
  rw [h, List.sum_append]; omega
/-- the law's search for the cells that have room -/
theorem picked (ns : List Int) (room : Int) (first : Nat) (hpos : ∀ c ∈ ns, 1 ≤ c) (hf : first ≤ ns.length) :
    (rangeKs ((first : Int) + 1) (ns.length - first)).filter (fun e => decide ((ns.take e.toNat).sum - (ns.take first).sum ≤ room)) = rangeKs ((first : Int) + 1) (fit (ns.drop first) room) := by
  have hle : fit (ns.drop first) room ≤ ns.length - first := by have := fit_le (ns.drop first) room; simpa using this
  have hsp : ∀ j, 1 ≤ j → j ≤ ns.length - first → ((ns.take (first + j)).sum - (ns.take first).sum ≤ room ↔ j ≤ fit (ns.drop first) room) := fun j h1 h2 => by
    rw [← sum_take_drop]
    exact fit_spec _ _ _ (fun c hc => hpos c (List.mem_of_mem_drop hc)) h1 (by simpa using h2)
  generalize fit (ns.drop first) room = k at *
  obtain ⟨d, hd⟩ : ∃ d, ns.length - first = k + d := ⟨ns.length - first - k, by omega⟩
  rw [hd] at hsp ⊢
  have hsplit : rangeKs ((first : Int) + 1) (k + d) = rangeKs ((first : Int) + 1) k ++ rangeKs ((first : Int) + 1 + k) d := by
    simp only [rangeKs, List.range_add, List.map_append, List.map_map]
    congr 1
    apply List.map_congr_left
    intro i _
    simp only [Function.comp]
    omega
  rw [hsplit, List.filter_append]
  have h1 : (rangeKs ((first : Int) + 1) k).filter (fun e => decide ((ns.take e.toNat).sum - (ns.take first).sum ≤ room)) = rangeKs ((first : Int) + 1) k := by
    apply List.filter_eq_self.mpr
    intro e he
    obtain ⟨a1, a2⟩ := mem_rangeKs he
    obtain ⟨j, rfl⟩ : ∃ j : Nat, e = (first : Int) + (j : Int) := ⟨(e - first).toNat, by omega⟩
    rw [show ((first : Int) + (j : Int)).toNat = first + j by omega]
    exact decide_eq_true ((hsp j (by omega) (by omega)).mpr (by omega))
  have h2 : (rangeKs ((first : Int) + 1 + k) d).filter (fun e => decide ((ns.take e.toNat).sum - (ns.take first).sum ≤ room)) = [] := by
    apply List.filter_eq_nil_iff.mpr
    intro e he
    obtain ⟨a1, a2⟩ := mem_rangeKs he
    obtain ⟨j, rfl⟩ : ∃ j : Nat, e = (first : Int) + (j : Int) := ⟨(e - first).toNat, by omega⟩
    rw [show ((first : Int) + (j : Int)).toNat = first + j by omega]
    intro hc
    have := (hsp j (by omega) (by omega)).mp (of_decide_eq_true hc)
    omega
  rw [h1, h2, List.append_nil]
/-- the law's walk over the pages -/
def EndsAt (ns : List Int) (room : Int) (step n first : Nat) (acc : List Nat) : Prop :=
  (first < ns.length → ns.length - first < n ∧ pages ns room step = (pagesF ns room step n first).map (acc ++ ·)) ∧
  (ns.length ≤ first → pages ns room step = some (if acc.getLast? = some ns.length then acc else acc ++ [ns.length]))
theorem endsAt_zero (ns : List Int) (room : Int) (step : Nat) : EndsAt ns room step (ns.length + 1) 0 [] := by
  refine ⟨fun h => ⟨by omega, by simp [pages]⟩, fun h => ?_⟩
  have h0 : ns = [] := List.eq_nil_of_length_eq_zero (by omega)
  subst h0
  rfl
theorem endsAt_none {ns : List Int} {room : Int} {step n first : Nat} {acc : List Nat} (h : EndsAt ns room step n first acc) (hf : first < ns.length) (hk : fit (ns.drop first) room = 0) : pages ns room step = none := by
  obtain ⟨h1, h2⟩ := h.1 hf
  exact pages_raise (e := first) (by omega) h2 (by omega) rfl hf
theorem endsAt_next {ns : List Int} {room : Int} {step n first : Nat} {acc : List Nat} (h : EndsAt ns room step n first acc) (hf : first < ns.length) (hk : fit (ns.drop first) room ≠ 0) :
    EndsAt ns room step (n - 1) (first + fit (ns.drop first) room + step) (acc ++ [first + fit (ns.drop first) room]) := by
  obtain ⟨h1, h2⟩ := h.1 hf
  have hle : fit (ns.drop first) room ≤ ns.length - first := by have := fit_le (ns.drop first) room; simpa using this
  refine ⟨fun h3 => ⟨by omega, pages_next (by omega) h2 rfl (by omega) (by omega) (by omega)⟩, fun h3 => ?_⟩
  rw [List.getLast?_append, List.getLast?_singleton]
  by_cases he : first + fit (ns.drop first) room = ns.length
  · rw [pages_end (by omega) h2 rfl (by omega), he]; simp
  · rw [pages_end2 (by omega) h2 rfl (by omega) (by omega) h3]; simp [he]
theorem rangeKs_last (a : Int) (k : Nat) (hk : k ≠ 0) : (rangeKs a k).getD (-1 + ((rangeKs a k).length : Int)).toNat 0 = a + (k : Int) - 1 := by
  rw [rangeKs_length, show (-1 + (k : Int)).toNat = k - 1 by omega, List.getD_eq_getElem?_getD]
  have h : (rangeKs a k)[k - 1]? = some (a + ((k - 1 : Nat) : Int)) := by simp [rangeKs, show k - 1 < k by omega]
  rw [h]
  simp only [Option.getD_some]
  omega
theorem rangeKs_ne (a : Int) (k : Nat) (hk : k ≠ 0) : rangeKs a k ≠ [] := fun h => by
  have := rangeKs_length a k
  rw [h] at this
  simp at this
  omega
theorem natInts_last (a : List Nat) (x : Nat) : (natInts (a ++ [x])).getD (-1 + ((natInts (a ++ [x])).length : Int)).toNat 0 = (x : Int) := by
  rw [natInts_length, List.length_append, List.length_singleton, show (-1 + ((a.length + 1 : Nat) : Int)).toNat = a.length by omega, natInts_append, List.getD_eq_getElem?_getD]
  simp [natInts]
theorem natInts_ne (a : List Nat) (x : Nat) : natInts (a ++ [x]) ≠ [] := by simp [natInts]
end

section
theorem fresh_Exc : True := by
  w_top off
  exact trivial
open Builtin.ObjectAttr in
theorem corrupt_made {w : World} {A : Around} {E : Value → Shared → Prop} {s : Shared} {msg : Str} {tk : Tok} {Q : Value → Shared → Prop}
    (X : (hd.heap_39 w.params).In s.heap) (hlim : s.heap.NoLimit) (hroom : (A.under (.builtin "type.__call__" ⟨[.ref 44, .str msg tk], []⟩)).depth < recursionLimit)
    (h : ∀ e oe t h' tk', (∀ b o, s.heap.get? b = some o → h'.get? b = some o) → s.heap.get? e = none → h'.get? e = some oe → oe.cls = .ref 44 → oe.data = .fields #[.ref t, .none, .none, .none, .bool false, .none] → Q (.ref e) { s with heap := h', toks := tk' }) :
    wpAny (model PySem.Challenge.rw_xm0745_01.row.prog w) A (call (.ref 44) [.str msg tk]) Q E s := by
  obtain ⟨hp, g, d, t, os⟩ := s
  refine exc_call PySem.F.excBase_Exception ?_ ?_ ?_ (X 44 _ (by k_is)) (looks_findIn (r := some (.ref 28)) X (by k_is)) (X 28 _ (by k_is)) rfl (fun h' e hm => ?_) (by rw [sizeLine_eq]; simp)
  · decide +kernel
  · decide +kernel
  · decide +kernel
  refine wpAny_call ?_
  have X' := X.keeps hm.keeps
  obtain ⟨tt, he, htn, htt⟩ := hm.there
  refine codeAny_call_def (fd := fnOf _ _ _ _ _ _ _ _ _ _ _ _) hroom (X' 28 _ (by k_is)) rfl (hlim.keeps hm.keeps) (codeRec_of X' (by k_is)) rfl (BindsTo.of_eq rfl) (by decide) (locs rfl) (fun h₁ hns hk₁ => ?_)
  have F : Fr h' h'.objs.size h₁ _ := ⟨hns, hk₁, Nat.le_refl _⟩
  refine wpAny_execs_cons (plainObj_wpAny_Assign_Attribute (ld F rfl (ld F rfl ?_)))
  refine exc_set (X'.keeps hk₁) (hk₁ _ _ he) (by k_is) (by k_is) (cd := _) (by k_is) (fun self => by kernel_rfl) (by k_is) rfl fun h₂ dd od tk₂ k₂ he₂ hdd hod => ?_
  refine wpAny_execs_nil ⟨rfl, ?_⟩
  refine h e _ tt h₂ tk₂ (fun b o hb => k₂ b o (hk₁ b o (hm.keeps b o hb)) fun q => ?_) hm.new he₂ rfl rfl
  rw [q, hm.new] at hb
  cases hb

/-- what is raised here: an exception of the text's own class -/
def RaisedNow (w : World) (E : Value → Shared → Prop) (v : Value) (s₁ : Shared) : Prop :=
  ∃ e oe t, (hd.heap_39 w.params).In s₁.heap ∧ v = .ref e ∧ s₁.heap.get? e = some oe ∧ oe.cls = .ref 44 ∧ oe.data = .fields #[.ref t, .none, .none, .none, .bool false, .none] ∧ E (.ref e) s₁

theorem raise_corrupt {w : World} {A : Around} {E : Value → Shared → Prop} {s : Shared} {env : Env} {exc : Expr} {pos : Pos} {Q : Flow → Shared → Prop} (hh : A.handled = none)
    (h : wpAny (model PySem.Challenge.rw_xm0745_01.row.prog w) A (eval exc env) (RaisedNow w E) E s) :
    wpAny (model PySem.Challenge.rw_xm0745_01.row.prog w) A (exec (.Raise (some exc) none pos) env) Q E s := by
  rw [arm_exec_Raise]
  refine wpAny_bind (wpAny_standAt ?_)
  simp only [evalOpt, Option.map]
  unfold raiseStmt
  refine wpAny_bind (wpAny_bind (wpAny_mono h (fun v s₁ h₁ => ?_) fun _ _ x => x))
  obtain ⟨e, oe, t, X, rfl, he, hcls, hdat, hE⟩ := h₁
  obtain ⟨hp, g, d, tk, os⟩ := s₁
  obtain ⟨oc, od, odat, osl⟩ := oe
  dsimp only at hcls hdat
  subst hcls hdat
  have hC := X 44 _ (by k_is)
  refine wpAny_bind (wpAny_standAt (wpAny_pure ?_))
  repeat (first | with_reducible refine wpAny_loadPart_at he ?_ | with_reducible refine wpAny_loadPart_at hC ?_ | (with_reducible refine wpAny_isSubtype_exc hC ?_; rw [show ([Value.ref 44, Value.ref 31, Value.type "Exception", Value.type "BaseException", Value.type "object"].contains (.type "BaseException")) = true from by decide +kernel]) | wp_step)
  exact wpAny_raiseNew_none hh hE

theorem leave_own {M : Model} {A : Around} {E : Value → Shared → Prop} {s' : Shared} {base g : Heap} {outer : List Env} {L a e t : Addr} {oe : Obj} {m : Str → Option Value} {name : Str} {scope : Scope} {cd : Value} {Q : Unit → Shared → Prop}
    (K : Below A base outer g) (F : Fr g L s'.heap m) (he : s'.heap.get? e = some oe) (hcls : oe.cls = .ref 44) (hdat : oe.data = .fields #[.ref t, .none, .none, .none, .bool false, .none]) (hen : g.get? e = none)
    (hQ : ∀ h', RaisedSN base g outer e (.ref 44) [] h' → g.UpToSlots h' → Q () { s' with heap := h' }) (hk : scope.kind = .function) :
    wpAny M (A.deeper (envOf name scope L a cd)) (leaving (envOf name scope L a cd) (.ref e)) Q E s' := by
  have K' := K.push (name := name) (a := a) (cd := cd) F hk
  have hin : ∀ env ∈ (envOf name scope L a cd :: outer), ∀ b, env.frame = some b → b ∈ e :: (envOf name scope L a cd :: outer).filterMap (·.frame) := fun env he b hb => .tail _ (List.mem_filterMap.mpr ⟨env, he, hb⟩)
  have st : base.StaysIn (hideAll s'.heap (e :: (envOf name scope L a cd :: outer).filterMap (·.frame))) := fun b o q => hideAll_get _ (K'.stays b o q) fun hm => by
    rcases List.mem_cons.mp hm with z | hm
    · have z2 := K.stays b o q
      rw [z, hen] at z2; cases z2
    · rw [(K'.frames.mem hm).1] at q; cases q
  have sg : ∀ b o, g.get? b = some o → b ∉ outer.filterMap (·.frame) → (hideAll s'.heap (e :: (envOf name scope L a cd :: outer).filterMap (·.frame))).get? b = some o := fun b o q nm => hideAll_get _ (F.keep b o q) fun hm => by
    rcases List.mem_cons.mp hm with z | hm
    · rw [z, hen] at q; cases q
    · rcases kts_mem hm with z | z
      · rw [z, kts_self F] at q; cases q
      · exact nm z
  have heB : (hideAll s'.heap (e :: (envOf name scope L a cd :: outer).filterMap (·.frame))).get? e = none := hideAll_none _ (.head _)
  refine wpAny_leaving_firstW (a0 := .ref t) K'.stack (funFrames_hide K'.frames hin) rfl he (fun b o hb => of_hideAll _ hb) heB hdat rfl rfl fun h' hL => ?_
  obtain ⟨k1, ⟨_, _, k2⟩, k3, k4⟩ := hL
  exact hQ h' ⟨_, .ref t, st, sg, (fun _ hq => nomatch hq), k1, heB, k2, by rw [← hcls]; exact k3⟩ ((Heap.UpToSlots.of_keeps F.keep).trans k4)

theorem caught_own {w : World} {A₀ : Around} {E : Value → Shared → Prop} {s' : Shared} {base g G : Heap} {outer : List Env} {L a e : Addr} {m : Str → Option Value} {name : Str} {scope : Scope} {cd : Value} {mean : ExcName → Option Value} {mg mb : Str → Option Value}
    {b₀ : Stmt} {suite : List Stmt} {pos np : Pos} {rest : List ExceptHandler} {Q : Flow → Shared → Prop}
    (R : RaisedSN base G (envOf name scope L a cd :: outer) e (.ref 44) [] s'.heap) (F : Fr g L G m) (K : Below A₀ base outer g) (hsm : G.UpToSlots s'.heap) (XB : (hd.heap_39 w.params).In base) (TB : Top hd.view_39 (looseW hd.view_39 []) mean mg mb base)
    (k : ∀ h' g', KtsTurn (outer.filterMap (·.frame)) g g' → Fr g' L h' m → Below A₀ base outer g' → (hd.heap_39 w.params).In g' → Top hd.view_39 (looseW hd.view_39 []) mean mg mb g' →
      wpAny (model PySem.Challenge.rw_xm0745_01.row.prog w) ((A₀.deeper (envOf name scope L a cd)).mark (some (.ref e))) (execs (b₀ :: suite) (envOf name scope L a cd)) Q E { s' with heap := h' })
    (hk : scope.kind = .function) (hx : (envOf name scope L a cd).kindOf "CorruptError" = some .globalImplicit)
    (hE : PassesOwnAt (model PySem.Challenge.rw_xm0745_01.row.prog w) ((A₀.deeper (envOf name scope L a cd)).mark (some (.ref e))) (A₀.deeper (envOf name scope L a cd)) (envOf name scope L a cd) E) :
    wpAny (model PySem.Challenge.rw_xm0745_01.row.prog w) (A₀.deeper (envOf name scope L a cd)) (noteFrame (.ref e) (envOf name scope L a cd))
      (fun _ s₂ => wpAny (model PySem.Challenge.rw_xm0745_01.row.prog w) (A₀.deeper (envOf name scope L a cd)) (setFlight (.ref e) none) (fun _ s₃ =>
        wpAny (model PySem.Challenge.rw_xm0745_01.row.prog w) (A₀.deeper (envOf name scope L a cd)) (handleBy (.ref e) (envOf name scope L a cd) (.ExceptHandler (some (.Name "CorruptError" np)) none (b₀ :: suite) pos :: rest)) Q E s₃) E s₂) E s' := by
  obtain ⟨B, a0, hB, hBG, hl, hfl⟩ := R
  refine wpAny_looks_onW (Around.frames_deeper K.stack) rfl hfl fun h₄ hheld₄ hsm₄ => ?_
  refine wpAny_landsW hheld₄ fun h₅ hheld hsm₅' => ?_
  have hsm₅ := hsm₄.trans hsm₅'
  obtain ⟨g₅, T₅, F₅, K₅⟩ := kts_ground K F hBG hheld.1 (hsm.trans hsm₅)
  have X₅ : (hd.heap_39 w.params).In g₅ := XB.keeps K₅.stays
  have P₅ : TopRead hd.view_39 (looseW hd.view_39 []) mg mb g₅ := topRead_of (TB.keeps K₅.stays)
  obtain ⟨ob, hob, hobc⟩ := hheld.there
  have hC₅ := F₅.keep _ _ (X₅ 44 _ (by k_is))
  refine wpAny_handleBy_cons (codeAny_handlers_test (name_K F₅ X₅ P₅ (v := .ref 44) (by k_is) ?_ hk hx (by decide))) (by intro q; cases q)
  refine wpAny_excMatches_sub_self hC₅ hob hobc (by decide +kernel) (codeAny_handlers_suite ?_)
  refine lands_againW hheld fun h₆ hfl₆ hsm₆ => ?_
  obtain ⟨g₆, T₆, F₆, K₆⟩ := kts_ground K F hBG hfl₆.1 ((hsm.trans hsm₅).trans hsm₆)
  exact wpAny_passesOwnAt hE (k h₆ g₆ T₆ F₆ K₆ (XB.keeps K₆.stays) (TB.keeps K₆.stays))
end

section
theorem fresh_First : True := by
  w_top off
  exact trivial
def FunE (w : World) (f : Addr) (lvl : Nat) (vs : List Value) (ro : List (Addr × List Value)) (Post : Value → List (Addr × Obj) → Prop) (exc : Prop) : Prop :=
  ∀ (mean : ExcName → Option Value) (mg mb : Str → Option Value) (dp un : Nat) (gd : Option (List Code)) (cn : Str) (cs : Scope) (a : Addr) (ccd : Value) (cl : List (Str × Addr)) (outer : List Env) (A₀ : Around) (base h₀ : Heap) (L : Addr) (m : Str → Option Value) (s : Shared) (Q E : Value → Shared → Prop),
    Below A₀ base outer h₀ → Fr h₀ L s.heap m → (hd.heap_39 w.params).In h₀ → Top hd.view_39 (looseW hd.view_39 []) mean mg mb h₀ → cs.kind = .function →
    (∀ p ∈ ro, s.heap.IsList p.1 p.2.toArray) →
    dp + lvl < recursionLimit → un + 8 * lvl + 100 < cLine →
    (∀ r out h' tk', Back h₀ L m s [] out h' → Post r out → Q r { s with heap := h', toks := tk' }) →
    (exc → ∀ e h' tk' g, GSub s.heap g [] → Fr h₀ L g m → RaisedSN base g (envX cn cs L a ccd cl :: outer) e (.ref 44) [] h' → g.UpToSlots h' → E (.ref e) { s with heap := h', toks := tk' }) →
    wpAny (model PySem.Challenge.rw_xm0745_01.row.prog w) (ktrTop dp un gd cn cs L a ccd cl outer) (call (.ref f) vs) Q E s

theorem FunE.use {w : World} {f : Addr} {lvl : Nat} {vs : List Value} {ro : List (Addr × List Value)} {Post : Value → List (Addr × Obj) → Prop} {exc : Prop} (C : FunE w f lvl vs ro Post exc)
    {mean : ExcName → Option Value} {mg mb : Str → Option Value} {dp un : Nat} {gd : Option (List Code)} {cn : Str} {cs : Scope} {a : Addr} {ccd : Value} {cl : List (Str × Addr)} {outer : List Env} {A₀ : Around} {base h₀ : Heap} {L : Addr} {m : Str → Option Value} {s : Shared} {Q E : Value → Shared → Prop} {news : List (Addr × Obj)}
    (B : Below A₀ base outer h₀) (F : Fr h₀ L s.heap m) (X : (hd.heap_39 w.params).In h₀) (T : Top hd.view_39 (looseW hd.view_39 []) mean mg mb h₀) (hk : cs.kind = .function) (N : News h₀ L s.heap news)
    (hro : ∀ p ∈ ro, s.heap.IsList p.1 p.2.toArray) (hdp : dp + lvl < recursionLimit) (hu : un + 8 * lvl + 100 < cLine)
    (ret : ∀ r out h' tk', Fr h₀ L h' m → News h₀ L h' (out ++ news) → Apart out news → Post r out → Q r { s with heap := h', toks := tk' })
    (he : exc → ∀ e h' tk' g, GSub s.heap g [] → Fr h₀ L g m → RaisedSN base g (envX cn cs L a ccd cl :: outer) e (.ref 44) [] h' → g.UpToSlots h' → E (.ref e) { s with heap := h', toks := tk' }) :
    wpAny (model PySem.Challenge.rw_xm0745_01.row.prog w) (ktrTop dp un gd cn cs L a ccd cl outer) (call (.ref f) vs) Q E s := by
  refine C _ _ _ _ _ _ _ _ _ _ _ _ _ _ _ _ _ _ _ _ B F X T hk hro hdp hu (fun r out h' tk' b post => ret r out h' tk' b.F (fun p hp => ?_) (apart_of fun p hp q hq e => ?_) post) he
  · rcases List.mem_append.mp hp with hp | hp
    · exact b.N p hp
    · exact ⟨b.keep _ _ (N p hp).1 (fun h => nomatch h), (N p hp).2⟩
  · have z := N q hq
    rw [e] at z
    exact nomatch b.new p hp _ z.1

local macro_rules | `(tactic| walk_at "call ref") => `(tactic| ((with_reducible show wpAny _ _ (call (Value.ref 44) _) _ _ _); k_dflt (refine' corrupt_made ?k1 ?k2 ?k3 ?_; (case k1 => exact Frag.In.keeps (by k_asm) (Fr.keep (by k_asm))); (case k2 => exact Heap.NoLimit.keeps (Top.nolimit (by k_asm)) (Fr.keep (by k_asm))); (case k3 => ktr_room); k_whole); refine fun _ _ _ _ _ _ _ _ _ _ => ?_))
theorem first_fun (w : World) {l : Addr} {vs : List Value} {ns : List Int} {room : Int} {rt : Tok} {b : Bool} (hi : IntsAre vs ns) (hlen : ns.length ≤ 900) :
    FunE w 53 2 [.ref l, .int room rt, .bool b] [(l, vs)]
      (fun v out => ∃ (D : Addr) (us : List Value) (n : Nat) (E : List Nat), v = .ref D ∧ out = [(D, listOf us.toArray n)] ∧ pages ns room (stepN b) = some E ∧ IntsAre us (natInts E))
      (pages ns room (stepN b) = none) := by
  intro mean mg mb dp un gd cn cs a ccd cl outer A₀ base h₀ L m s Q E B F X T hk hro hd hu ret exc
  have N : News h₀ L s.heap [] := News.nil
  (refine wpAny_call ?_; k_dflt (refine' code_defG ?k1_7 ?k2_7 ?k3_7 ?k4_7 ?k5_7 ?kA_7 ?kF_7 ?kK_7 ?k6_7 ?k7_7 ?k8_7 ?k9_7 ?kB_7 ?_ ?c2_7 ?c3_7 ?c4_7 ?c5_7; (case kA_7 => exact rfl); (case kF_7 => exact rfl); (case kK_7 => assumption); (case k1_7 => k_asm); (case k2_7 => k_asm); (case k3_7 => k_asm); (case k4_7 => k_asm); (case k5_7 => k_asm); (case k6_7 => k_is); (case k7_7 => k_is); (case k8_7 => ktr_room); (case k9_7 => exact BindsTo.of_eq rfl); (case c5_7 => decide); (case kB_7 => exact locs rfl); (case c2_7 => exact rfl); (case c3_7 => exact rfl); (case c4_7 => exact rfl); k_whole))
  intro g' L' h' FG' F' N' B' X' T' kG'
  have hl : g'.IsList l vs.toArray := lift_list kG' (hro (l, vs) (.head _)) (by simp)
  clear hro
  dsimp only
  k_unmd
  k_fold
  k_steps
  rename News _ _ _ _ => Nl
  rename Fr _ _ _ _ => Fl
  refine unhold (loop_while
    (fun n m₁ nx => ∃ (start : Nat) (acc : List Nat) (D : Addr) (us : List Value) (c : Nat) (t1 t2 : Tok),
      Names m₁ [(Str.ofString "ends", .ref D), (Str.ofString "start", .int (start : Int) t1), (Str.ofString "many", .int (ns.length : Int) t2), (Str.ofString "costs", .ref l), (Str.ofString "room", .int room rt), (Str.ofString "between", .bool b)] ∧
      nx = [(D, listOf us.toArray c)] ∧ IntsAre us (natInts acc) ∧ start ≤ ns.length ∧ acc.length ≤ start ∧ ns.length - start < n ∧ pages ns room (stepN b) = (pagesF ns room (stepN b) n start).map (acc ++ ·))
    (fun _ _ => False) (n₀ := ns.length + 1) Fl (news_sub Nl (fun p hp => .tail _ hp)) ?_ ?_ (fun _ _ _ _ _ _ h => h.elim) (by with_unfolding_all passes_own))
  · exact ⟨0, [], _, [], 0, _, _, ⟨rfl, rfl, rfl, rfl, rfl, rfl, trivial⟩, rfl, .nil, Nat.zero_le _, Nat.zero_le _, by omega, by simp [pages]⟩
  · rintro n m₁ news₁ h tk Qt Qo F₁ N₁ ⟨start, acc, D, us, c, t1, t2, nm, rfl, hus, hst, hacc, hn, hp⟩ te
    have F₂ := nm.fr F₁
    clear F₁
    have hul : us.length ≤ 900 := by rw [hus.length, natInts_length]; omega
    k_steps
    rename News _ _ _ _ => Nl
    rename Fr _ _ _ _ => Fl
    refine unhold (loop_while
      (fun n m₁ nx => ∃ (used : Int) (e : Nat) (t3 t4 : Tok),
        Names m₁ [(Str.ofString "used", .int used t3), (Str.ofString "end", .int (e : Int) t4), (Str.ofString "ends", .ref D), (Str.ofString "start", .int (start : Int) t1), (Str.ofString "many", .int (ns.length : Int) t2), (Str.ofString "costs", .ref l), (Str.ofString "room", .int room rt), (Str.ofString "between", .bool b)] ∧
        nx = [(D, listOf us.toArray c)] ∧ start ≤ e ∧ e ≤ ns.length ∧ ns.length - e = n ∧ start + fit (ns.drop start) room = e + fit (ns.drop e) (room - used))
      (fun m₁ nx => ∃ (used : Int) (e : Nat) (t3 t4 : Tok),
        Names m₁ [(Str.ofString "used", .int used t3), (Str.ofString "end", .int (e : Int) t4), (Str.ofString "ends", .ref D), (Str.ofString "start", .int (start : Int) t1), (Str.ofString "many", .int (ns.length : Int) t2), (Str.ofString "costs", .ref l), (Str.ofString "room", .int room rt), (Str.ofString "between", .bool b)] ∧
        nx = [(D, listOf us.toArray c)] ∧ start ≤ e ∧ e ≤ ns.length ∧ e = start + fit (ns.drop start) room) (n₀ := ns.length - start) (news := [(D, listOf us.toArray c)]) Fl (news_sub Nl (fun p hp => by rw [List.mem_singleton.mp hp]; k_mem)) ?_ ?_ ?_ (by with_unfolding_all passes_own))
    · exact ⟨0, start, _, _, ⟨rfl, rfl, rfl, rfl, rfl, rfl, rfl, rfl, trivial⟩, rfl, Nat.le_refl _, hst, rfl, by simp⟩
    · clear Fl Nl
      rintro n' m₂ news₂ h₂ tk₂ Qt₂ Qo₂ F₁ N₁ ⟨used, e, t3, t4, nm, rfl, hse, he, hm, hfit⟩ te₂
      have F₂ := nm.fr F₁
      clear F₁
      k_steps
      · refine te₂.next _ _ [_] _ _ _ (by k_asm) (by k_asm) (fun p h => h) ?_ ⟨_, e + 1, _, _, ⟨rfl, by rfl, rfl, rfl, rfl, rfl, rfl, rfl, trivial⟩, rfl, by omega, by omega, rfl, ?_⟩
        · omega
        · rename used + _ ≤ room => hle
          rw [hfit, fit_yes (by omega) (by simpa using hle), Int.toNat_natCast]
          omega
      · refine te₂.out _ [_] _ _ _ (by k_asm) (by k_asm) (fun p h => h) ⟨used, e, _, _, ⟨rfl, rfl, rfl, rfl, rfl, rfl, rfl, rfl, trivial⟩, rfl, hse, he, ?_⟩
        rename ¬ (used + _ ≤ room) => hle
        rw [hfit, fit_no (by omega) (by simpa using hle)]
        omega
      · refine te₂.out _ [_] _ _ _ (by k_asm) (by k_asm) (fun p h => h) ⟨used, e, _, _, ⟨rfl, rfl, rfl, rfl, rfl, rfl, rfl, rfl, trivial⟩, rfl, hse, he, ?_⟩
        rw [hfit, fit_end (by omega)]
        omega
    · clear Fl Nl
      rintro m₂ news₂ h₂ tk₂ F₁ N₁ ⟨used, e, t3, t4, nm, rfl, hse, he, hfit⟩
      have F₂ := nm.fr F₁
      clear F₁
      k_steps
      · refine unhold (raise_corrupt rfl ?_)
        have hpn := pages_raise (e := e) (by omega) hp hfit (by omega) (by omega)
        k_steps
        rename_i e' oe' t' hx' tkx' hkeep hnew he' hcls' hdat'
        refine ⟨e', oe', t', Frag.In.keeps (X'.keeps F₂.keep) hkeep, rfl, he', hcls', hdat', ?_⟩
        refine leave_own B' (F₂.keeps hkeep) he' hcls' hdat' ?_ (fun h'' R U => exc hpn _ _ _ g' kG' FG' R U) rfl
        cases q : g'.get? e' with
        | none => rfl
        | some o => exact absurd (F₂.keep _ _ q) (by rw [hnew]; exact fun h => nomatch h)
      · dsimp only
        refine te.ret _ _ ?_
        k_steps
        rename News h₀ _ _ _ => Nl
        simp only [List.push_toArray] at *
        exact ret _ [_] _ _ (back_of kG' (by k_asm) (by k_asm) (by k_asm) (by k_asm) (fun _ h => h)) ⟨_, _, _, _, rfl, rfl, pages_end (by omega) hp hfit (by omega), by rw [natInts_append]; exact IntsAre.append hus (.cons _ _ .nil)⟩
      · dsimp only
        refine te.ret _ _ ?_
        k_steps
        simp only [List.push_toArray] at *
        exact ret _ [_] _ _ (back_of kG' (by k_asm) (by k_asm) (by k_asm) (by k_asm) (fun _ h => h)) ⟨_, _, _, _, rfl, rfl, pages_end (by omega) hp hfit (by omega), by rw [natInts_append]; exact IntsAre.append hus (.cons _ _ .nil)⟩
      · rename b = true => hb
        subst hb
        dsimp only
        refine te.ret _ _ ?_
        k_steps
        simp only [List.push_toArray] at *
        exact ret _ [_] _ _ (back_of kG' (by k_asm) (by k_asm) (by k_asm) (by k_asm) (fun _ h => h)) ⟨_, _, _, _, rfl, rfl, pages_end2 (by omega) hp hfit (by omega) (by omega) (by simp only [stepN, if_true]; omega), by rw [show acc ++ [e, ns.length] = (acc ++ [e]) ++ [ns.length] by simp, natInts_append, natInts_append]; exact IntsAre.append (IntsAre.append hus (.cons _ _ .nil)) (.cons _ _ .nil)⟩
      · rename b = true => hb
        subst hb
        simp only [List.push_toArray] at *
        refine te.next (n - 1) _ [_] _ _ _ (by k_asm) (by k_asm) (fun _ h => h) (by omega) ⟨e + 1, acc ++ [e], _, _, _, _, _, ⟨rfl, by rfl, rfl, rfl, rfl, rfl, trivial⟩, rfl, by rw [natInts_append]; exact IntsAre.append hus (.cons _ _ .nil), by omega, by simp; omega, by omega, pages_next (step := 1) (by omega) hp hfit (by omega) (by omega) (by omega)⟩
      · rename b = false => hb
        subst hb
        simp only [List.push_toArray] at *
        refine te.next (n - 1) _ [_] _ _ _ (by k_asm) (by k_asm) (fun _ h => h) (by omega) ⟨e, acc ++ [e], _, _, _, _, _, ⟨rfl, by rfl, rfl, rfl, rfl, rfl, trivial⟩, rfl, by rw [natInts_append]; exact IntsAre.append hus (.cons _ _ .nil), by omega, by simp; omega, by omega, pages_next (step := 0) (by omega) hp hfit (by omega) (by omega) (by omega)⟩
end

section
theorem fresh_Told : True := by
  w_top off
  exact trivial
theorem told_fun (w : World) {l : Addr} {vs : List Value} {ns : List Int} {room : Int} {rt : Tok} {b : Bool} (hi : IntsAre vs ns) (hlen : ns.length ≤ 900) :
    FunT w 105 3 [.ref l, .int room rt, .bool b] [(l, vs)] []
      (fun v out => (pages ns room (stepN b) = none ∧ v = .none ∧ out = []) ∨ ∃ (D : Addr) (us : List Value) (n : Nat) (E : List Nat), v = .ref D ∧ out = [(D, listOf us.toArray n)] ∧ pages ns room (stepN b) = some E ∧ IntsAre us (natInts E)) := by
  intro mean mg mb dp un gd cn cs a ccd cl outer A₀ base h₀ L m s Q E B F X T XB TB hk hro N hd hu ret
  (refine wpAny_call ?_; k_dflt (refine' code_turn ?k1_8 ?k2_8 ?k3_8 ?k4_8 ?k5_8 ?b1_8 ?b2_8 ?kA_8 ?kF_8 ?kK_8 ?k6_8 ?k7_8 ?k8_8 ?k9_8 ?kB_8 ?_ ?c2_8 ?c3_8 ?c4_8 ?c5_8; (case kA_8 => exact rfl); (case kF_8 => exact rfl); (case kK_8 => assumption); (case k1_8 => k_asm); (case k2_8 => k_asm); (case k3_8 => k_asm); (case k4_8 => k_asm); (case k5_8 => k_asm); (case b1_8 => k_asm); (case b2_8 => k_asm); (case k6_8 => k_is); (case k7_8 => k_is); (case k8_8 => ktr_room); (case k9_8 => exact BindsTo.of_eq rfl); (case c5_8 => decide); (case kB_8 => exact locs rfl); (case c2_8 => exact rfl); (case c3_8 => exact rfl); (case c4_8 => exact rfl); k_whole))
  intro g' L' h' FG' F' N' B' X' T' kG'
  have hl : g'.IsList l vs.toArray := lift_ro kG' hro (l, vs) (.head _)
  clear hro
  dsimp only
  k_unmd
  k_fold
  k_steps
  k_dflt (refine' FunE.use (first_fun w hi hlen) B' F' X' T' rfl N' ?a1 ?a2 ?a3 ?a4 ?a5)
  case a1 => exact List.forall_mem_cons.mpr ⟨hl.at fun o e => F'.keep _ _ e, fun _ h => nomatch h⟩
  case a2 => ktr_room
  case a3 => ktr_units
  case a4 =>
    rintro r out h₂ tk₂ F₂ N₂ _ ⟨D, us, n, Es, rfl, rfl, hp, hus⟩
    k_steps
    refine ⟨g', L', _, _, KtsTurn.refl, F₂, N₂, fun h₀' KT kF kN kB kX kT => ?_⟩
    exact ret _ [_] _ _ h₀' KT kB kX kT (backT_of kG' KtsTurn.refl kF kN F₂ N₂ (fun p h => by rw [List.append_nil]; exact h)) (.inr ⟨_, _, _, _, rfl, rfl, hp, hus⟩)
  case a5 =>
    intro hp e h₂ tk₂ g₂ _ FG R U
    refine caught_own R FG B' U XB TB (fun h₃ g₃ KT F₃ B₃ X₃ T₃ => ?_) rfl rfl (by with_unfolding_all passes_own)
    have N₃ : News g₃ L' h₃ [] := News.nil
    k_steps
    dsimp only
    k_steps
    refine ⟨g₃, L', _, _, KT, F₃, N₃, fun h₀' KT' kF kN kB kX kT => ?_⟩
    exact ret _ [] _ _ h₀' KT' kB kX kT (backT_of kG' KT kF kN F₃ N₃ (fun p h => h)) (.inl ⟨hp, rfl, rfl⟩)
end

section
theorem fresh_Ends : True := by
  w_top off
  exact trivial
section
local macro_rules | `(tactic| walk_at "call ref") => `(tactic| refine hold ?_)
theorem law_ends_fun (w : World) {l : Addr} {vs : List Value} {ns : List Int} {room : Int} {rt st : Tok} {b : Bool} (hi : IntsAre vs ns) (hlen : ns.length ≤ 900) (hpos : ∀ c ∈ ns, 1 ≤ c) :
    Fun w 98 2 [.ref l, .int room rt, .int ((if b = true then 1 else 0)) st] [(l, vs)] []
      (fun v out => (pages ns room (stepN b) = none ∧ v = .none ∧ out = []) ∨ ∃ (D : Addr) (us : List Value) (n : Nat) (E : List Nat), v = .ref D ∧ out = [(D, listOf us.toArray n)] ∧ pages ns room (stepN b) = some E ∧ IntsAre us (natInts E)) := by
  intro mean mg mb dp un gd cn cs a ccd cl outer A₀ base h₀ L m s Q E B F X T hk hro N hd hu ret
  (refine wpAny_call ?_; k_dflt (refine' code_cells ?k1_10 ?k2_10 ?k3_10 ?k4_10 ?k5_10 ?kA_10 ?kF_10 ?kK_10 ?k6_10 ?k7_10 ?k8_10 ?k9_10 ?kB_10 ?kD_10 ?_ ?c2_10 ?c3_10 ?c4_10; (case kA_10 => exact rfl); (case kF_10 => exact rfl); (case kK_10 => assumption); (case k1_10 => k_asm); (case k2_10 => k_asm); (case k3_10 => k_asm); (case k4_10 => k_asm); (case k5_10 => k_asm); (case k6_10 => k_is); (case k7_10 => k_is); (case k8_10 => ktr_room); (case k9_10 => exact BindsTo.of_eq rfl); (case kB_10 => exact rfl); (case kD_10 => decide +kernel); (case c2_10 => exact rfl); (case c3_10 => exact rfl); (case c4_10 => exact rfl); k_whole))
  intro g' L' h' tk' cells' FG' F' N' Y' B' X' T' l1 kG'
  k_cells Y'
  have hl : g'.IsList l vs.toArray := lift_ro kG' hro (l, vs) (.head _)
  clear hro
  (try simp only [List.cons_append, List.nil_append] at N')
  dsimp only
  k_unmd
  k_fold
  k_steps
  (refine unhold ?_; k_dflt (refine' Fun.use0 (sums_fun _ ?i_9 ?n_9) ?B_9 ?F_9 ?X_9 ?T_9 ?hk_9 ?N_9 ?ro_9 ?d_9 ?u_9 ?_; (case B_9 => k_asm); (case F_9 => k_asm); (case X_9 => k_asm); (case T_9 => k_asm); (case hk_9 => exact rfl); (case N_9 => k_asm); (case ro_9 => exact List.forall_mem_cons.mpr ⟨by is_list, fun _ h => nomatch h⟩); (case i_9 => assumption); (case n_9 => omega); (case d_9 => ktr_room); (case u_9 => ktr_units); k_whole); refine fun r_9 out_9 h_9 tk_9 F_9 N_9 ap_9 post_9 => ?_; obtain ⟨D_9, us_9, n_9, e1_9, e2_9, hI_9⟩ := post_9; subst e1_9; subst e2_9; simp only [List.cons_append, List.nil_append] at N_9; (try simp only [Apart, AllNe, and_true] at ap_9))
  k_steps
  rename News _ _ _ _ => Nl
  rename Fr _ _ _ _ => Fl
  refine unhold (loop_while
    (fun n m₁ nx => ∃ (first : Nat) (acc : List Nat) (D DS : Addr) (us ss : List Value) (c cS : Nat) (oF oS oR : Obj) (tF t2 : Tok),
      Names m₁ [(Str.ofString "ends", .ref D), (Str.ofString "many", .int (ns.length : Int) t2), (Str.ofString "costs", .ref l), (Str.ofString "step", .int (if b = true then 1 else 0) st)] ∧
      nx = [(D, listOf us.toArray c), (DS, listOf ss.toArray cS), (L' + 1 + 1 + 1, oF), (L' + 1 + 1, oS), (L' + 1, oR)] ∧ oF.data = .cell (some (.int (first : Int) tF)) ∧ oS.data = .cell (some (.ref DS)) ∧ oR.data = .cell (some (.int room rt)) ∧
      IntsAre us (natInts acc) ∧ IntsAre ss (psums ns) ∧ (@Ne Nat (L' + 1 + 1 + 1) DS ∧ @Ne Nat (L' + 1 + 1) DS ∧ @Ne Nat (L' + 1) DS ∧ @LT.lt Nat _ DS D ∧ @LT.lt Nat _ (L' + 1 + 1 + 1) D) ∧ acc.length ≤ first ∧ acc.length ≤ ns.length ∧ EndsAt ns room (stepN b) n first acc)
    (fun m₁ nx => ∃ (first : Nat) (acc : List Nat) (D DS : Addr) (us ss : List Value) (c cS : Nat) (oF oS oR : Obj) (tF t2 : Tok) (n : Nat),
      Names m₁ [(Str.ofString "ends", .ref D), (Str.ofString "many", .int (ns.length : Int) t2), (Str.ofString "costs", .ref l), (Str.ofString "step", .int (if b = true then 1 else 0) st)] ∧
      nx = [(D, listOf us.toArray c), (DS, listOf ss.toArray cS), (L' + 1 + 1 + 1, oF), (L' + 1 + 1, oS), (L' + 1, oR)] ∧ oF.data = .cell (some (.int (first : Int) tF)) ∧ oS.data = .cell (some (.ref DS)) ∧ oR.data = .cell (some (.int room rt)) ∧
      IntsAre us (natInts acc) ∧ IntsAre ss (psums ns) ∧ (@Ne Nat (L' + 1 + 1 + 1) DS ∧ @Ne Nat (L' + 1 + 1) DS ∧ @Ne Nat (L' + 1) DS ∧ @LT.lt Nat _ DS D ∧ @LT.lt Nat _ (L' + 1 + 1 + 1) D) ∧ acc.length ≤ ns.length ∧ EndsAt ns room (stepN b) n first acc ∧ ns.length ≤ first)
    (n₀ := ns.length + 1) Fl (news_sub Nl (fun p hp => .tail _ hp)) ?_ ?_ ?_ (by with_unfolding_all passes_own))
  · exact ⟨0, [], _, _, [], _, 0, _, _, _, _, _, _, ⟨rfl, rfl, rfl, rfl, trivial⟩, rfl, by assumption, by assumption, by assumption, .nil, by assumption, by omega, Nat.zero_le _, Nat.zero_le _, endsAt_zero _ _ _⟩
  · clear Fl Nl
    rintro n m₁ news₁ h tk Qt Qo F₁ N₁ ⟨first, acc, D, DS, us, ss, c, cS, oF, oS, oR, tF, t2, nm, rfl, dF, dS, dR, hus, hss, hap, hacc, hacl, hK⟩ te
    have F₂ := nm.fr F₁
    clear F₁
    have hap2 := hap.2.2.2
    replace hap := holdIt hap
    have hul : us.length ≤ 900 := by rw [hus.length, natInts_length]; omega
    k_steps
    · have hlt : first < ns.length := by omega
      refine unholdP (comp_pick (n := ns.length - first) (fun e => decide ((ns.take e.toNat).sum - (ns.take first).sum ≤ room)) rfl (by k_asm) (by k_asm) (by assumption) (small_one (by omega) (by omega) (by omega) (by omega)) (by rw [rangeSize_nat]; congr 1; omega) (by omega) ?_ ?_)
      · intro k t I oI C oC D' m₂ ys h₂ tk₂ Qt₂ Qf E' hk1 hk2 hC hx F₁ N₁ off ne yes no
        simp only [LCg.Off3, and_true] at off
        have od1 := holdIt off.1
        have od2 := holdIt off.2.1
        have od3 := holdIt off.2.2.1
        have od4 := holdIt off.2.2.2.1
        have od5 := holdIt off.2.2.2.2
        clear off
        replace ne := holdIt ne
        have hsl := psums_length ns
        k_steps
        · rename _ ≤ room => hle
          rw [psums_getD ns (by omega), psums_getD ns (by omega), Int.toNat_natCast] at hle
          exact yes (decide_eq_true hle) _ _ _ _ (by k_asm) (by k_asm) (fun _ h => h)
        · rename ¬ _ ≤ room => hle
          rw [psums_getD ns (by omega), psums_getD ns (by omega), Int.toNat_natCast] at hle
          exact no (decide_eq_false hle) _ _ _ (by k_asm) (by k_asm) (fun _ h => h)
      · rintro ys s' ⟨hh, rfl⟩ hys D' h₂ tk₂ F₁ N₁ off1
        rw [picked ns room first hpos (by omega)] at hys
        simp only [LCg.Off1, and_true] at off1
        replace off1 := holdIt off1
        by_cases hk0 : fit (ns.drop first) room = 0
        · rw [hk0] at hys
          have hys0 : IntsAre ys [] := hys
          clear hys
          k_steps
          · dsimp only
            refine te.ret _ _ ?_
            k_steps
            exact ret _ [] _ _ (back_of kG' (by k_asm) (by k_asm) (by k_asm) (by k_asm) (fun _ h => nomatch h)) (.inl ⟨endsAt_none hK hlt hk0, rfl, rfl⟩)
          all_goals (exfalso; simp at *)
        · have hne := rangeKs_ne ((first : Int) + 1) _ hk0
          have hlast := rangeKs_last ((first : Int) + 1) _ hk0
          have hkl := rangeKs_length ((first : Int) + 1) (fit (ns.drop first) room)
          have hfle : fit (ns.drop first) room ≤ ns.length - first := by have := fit_le (ns.drop first) room; simpa using this
          have hnext := endsAt_next hK hlt hk0
          generalize fit (ns.drop first) room = kk at *
          k_steps
          have hn := (hK.1 hlt).1
          rename Obj.data _ = Data.cell (some (Value.int (_ + _) _)) => dF'
          have e : (first : Int) + 1 + (kk : Int) - 1 + (if b = true then 1 else 0) = ((first + kk + stepN b : Nat) : Int) := by unfold stepN; split <;> omega
          rw [hlast, e] at dF'
          simp only [List.push_toArray] at *
          refine te.next (n - 1) _ [(D, listOf _ _), (DS, listOf _ _), (_, _), (_, _), (_, _)] _ _ _ (by k_asm) (by k_asm) (fun p hp => .tail _ (.tail _ hp)) (by omega) ⟨first + kk + stepN b, acc ++ [first + kk], D, DS, _, ss, _, cS, _, oS, oR, _, t2, ⟨rfl, rfl, rfl, rfl, trivial⟩, rfl, dF', dS, dR, ?_, hss, hap, ?_, ?_, hnext⟩
          · rw [natInts_append, hlast, show (first : Int) + 1 + (kk : Int) - 1 = ((first + kk : Nat) : Int) by omega]
            exact IntsAre.append hus (.cons _ _ .nil)
          · simp; omega
          · simp; omega
    · exact te.out _ _ _ _ _ (by k_asm) (by k_asm) (fun p h => h) ⟨first, acc, D, DS, us, ss, c, cS, oF, oS, oR, tF, t2, n, ⟨rfl, rfl, rfl, rfl, trivial⟩, rfl, dF, dS, dR, hus, hss, hap, hacl, hK, by omega⟩
  · clear Fl Nl
    rintro m₁ news₁ h tk F₁ N₁ ⟨first, acc, D, DS, us, ss, c, cS, oF, oS, oR, tF, t2, n, nm, rfl, dF, dS, dR, hus, hss, hap, hacl, hK, hge⟩
    have F₂ := nm.fr F₁
    clear F₁
    have hap2 := hap.2.2.2
    replace hap := holdIt hap
    have hul : us.length ≤ 900 := by rw [hus.length, natInts_length]; omega
    have hfin := hK.2 hge
    rcases List.eq_nil_or_concat acc with rfl | ⟨acc0, x, rfl⟩
    · have hus0 : IntsAre us [] := hus
      clear hus
      k_steps
      · rename IntsAre _ ([] ++ _) => hR
        exact ret _ [(_, listOf _ _)] _ _ (back_of kG' (by k_asm) (by k_asm) (by k_asm) (by k_asm) (fun p hp => by rw [List.mem_singleton.mp hp]; k_mem)) (.inr ⟨_, _, _, _, rfl, rfl, hfin, hR⟩)
    · rw [List.concat_eq_append] at *
      have hne := natInts_ne acc0 x
      have hlast := natInts_last acc0 x
      have hll := natInts_length (acc0 ++ [x])
      rw [List.length_append, List.length_singleton] at hll
      rw [List.getLast?_append, List.getLast?_singleton] at hfin
      simp only [Option.some_or, Option.some.injEq] at hfin
      by_cases hx : x = ns.length
      · rw [if_pos hx] at hfin
        have hx2 : (x : Int) = (ns.length : Int) := by omega
        k_steps
        · exact ret _ [(_, listOf _ _)] _ _ (back_of kG' (by k_asm) (by k_asm) (by k_asm) (by k_asm) (fun p hp => by rw [List.mem_singleton.mp hp]; k_mem)) (.inr ⟨_, _, _, _, rfl, rfl, hfin, hus⟩)
        · exact absurd (hlast.trans hx2) (by assumption)
      · rw [if_neg hx] at hfin
        have hx2 : ¬ (x : Int) = (ns.length : Int) := by omega
        k_steps
        · exact absurd (hlast.symm.trans (by assumption)) hx2
        rename IntsAre _ (natInts _ ++ _) => hR
        exact ret _ [(_, listOf _ _)] _ _ (back_of kG' (by k_asm) (by k_asm) (by k_asm) (by k_asm) (fun p hp => by rw [List.mem_singleton.mp hp]; k_mem)) (.inr ⟨_, _, _, _, rfl, rfl, hfin, by rw [natInts_append (acc0 ++ [x])]; exact hR⟩)
end
end

section
theorem fresh_Wrap : True := by
  w_top off
  exact trivial
theorem Fun.mono {w : World} {f : Addr} {lvl : Nat} {vs : List Value} {ro : List (Addr × List Value)} {inn : List (Addr × Obj)} {Post Post' : Value → List (Addr × Obj) → Prop} (C : Fun w f lvl vs ro inn Post) (h : ∀ v out, Post v out → Post' v out) : Fun w f lvl vs ro inn Post' := by
  intro mean mg mb dp un gd cn cs a ccd cl outer A₀ base h₀ L m s Q E B F X T hk hro N hd hu ret
  exact C mean mg mb dp un gd cn cs a ccd cl outer A₀ base h₀ L m s Q E B F X T hk hro N hd hu fun r out h' tk' b p => ret r out h' tk' b (h _ _ p)
theorem law_ends_none (w : World) {l : Addr} {vs : List Value} {ns : List Int} {room : Int} {rt st : Tok} {b : Bool} (hi : IntsAre vs ns) (hlen : ns.length ≤ 900) (hpos : ∀ c ∈ ns, 1 ≤ c) (hp : pages ns room (stepN b) = none) :
    Fun w 98 2 [.ref l, .int room rt, .int ((if b = true then 1 else 0)) st] [(l, vs)] [] (fun v out => v = .none ∧ out = []) :=
  (law_ends_fun w hi hlen hpos).mono fun v out h => by
    rcases h with ⟨_, h1, h2⟩ | ⟨D, us, n, E, h1, h2, h3, h4⟩
    · exact ⟨h1, h2⟩
    · rw [hp] at h3; cases h3
theorem law_ends_some (w : World) {l : Addr} {vs : List Value} {ns : List Int} {room : Int} {rt st : Tok} {b : Bool} {E : List Nat} (hi : IntsAre vs ns) (hlen : ns.length ≤ 900) (hpos : ∀ c ∈ ns, 1 ≤ c) (hp : pages ns room (stepN b) = some E) :
    Fun w 98 2 [.ref l, .int room rt, .int ((if b = true then 1 else 0)) st] [(l, vs)] [] (fun v out => ∃ (D : Addr) (us : List Value) (n : Nat), v = .ref D ∧ out = [(D, listOf us.toArray n)] ∧ IntsAre us (natInts E)) :=
  (law_ends_fun w hi hlen hpos).mono fun v out h => by
    rcases h with ⟨h3, h1, h2⟩ | ⟨D, us, n, E', h1, h2, h3, h4⟩
    · rw [hp] at h3; cases h3
    · rw [hp] at h3; cases h3; exact ⟨D, us, n, h1, h2, h4⟩
end

section
theorem fresh_Settle : True := by
  w_top off
  exact trivial
def ssum (ns : List Int) (i : Nat) : Int := (ns.take i).sum
/-- the law's test: the page may end here -/
def staysB (ns : List Int) (step first e behind : Nat) : Bool :=
  decide (e = first + 1) || (!decide (behind ≤ e + step) && decide (ssum ns behind - ssum ns (e + step) + ns.getD (e - 1 + step) 0 > ssum ns (e - 1) - ssum ns first))
/-- the greatest place at which the page stays -/
def settle (ns : List Int) (step first behind : Nat) : Nat → Nat
  | 0 => 0
  | e + 1 => if staysB ns step first (e + 1) behind = true then e + 1 else settle ns step first behind e
def firstOf (step : Nat) (E : List Nat) (p : Nat) : Nat := if p = 0 then 0 else E.getD (p - 1) 0 + step
/-- the ends, after some pages from the right are settled -/
def evs (ns : List Int) (step : Nat) (E : List Nat) : Nat → List Nat
  | 0 => E
  | k + 1 => (evs ns step E k).set (E.length - 2 - k) (settle ns step (firstOf step E (E.length - 2 - k)) ((evs ns step E k).getD (E.length - 1 - k) 0) (E.getD (E.length - 2 - k) 0))
def evenedOf (ns : List Int) (step : Nat) (E : List Nat) : List Nat := evs ns step E (E.length - 1)
theorem stays_first (ns : List Int) (step first behind : Nat) : staysB ns step first (first + 1) behind = true := by
  unfold staysB
  rw [decide_eq_true rfl, Bool.true_or]
theorem settle_here {ns : List Int} {step first behind e : Nat} (h : staysB ns step first e behind = true) (h1 : first < e) : settle ns step first behind e = e := by
  obtain ⟨e, rfl⟩ : ∃ k, e = k + 1 := ⟨e - 1, by omega⟩
  rw [settle, if_pos h]
theorem settle_on {ns : List Int} {step first behind e : Nat} (h : staysB ns step first e behind = false) (h1 : first < e) : settle ns step first behind e = settle ns step first behind (e - 1) := by
  obtain ⟨e, rfl⟩ : ∃ k, e = k + 1 := ⟨e - 1, by omega⟩
  rw [settle, if_neg (by rw [h]; exact Bool.false_ne_true)]
  rfl
theorem settle_bounds (ns : List Int) (step first behind : Nat) : ∀ e, first < e → first < settle ns step first behind e ∧ settle ns step first behind e ≤ e ∧ staysB ns step first (settle ns step first behind e) behind = true
  | 0, h => by omega
  | e + 1, h => by
    unfold settle
    split
    · rename_i hs; exact ⟨h, Nat.le_refl _, hs⟩
    · rename_i hs
      by_cases he : e = first
      · subst he
        exact absurd (stays_first _ _ _ _) hs
      · have ih := settle_bounds ns step first behind e (by omega)
        exact ⟨ih.1, by omega, ih.2.2⟩
theorem settle_max (ns : List Int) (step first behind : Nat) : ∀ e e', first < e' → e' ≤ e → staysB ns step first e' behind = true → e' ≤ settle ns step first behind e
  | 0, e', h, h2, h3 => by omega
  | e + 1, e', h, h2, h3 => by
    unfold settle
    split
    · exact h2
    · rename_i hs
      by_cases he : e' = e + 1
      · subst he; exact absurd h3 hs
      · exact settle_max ns step first behind e e' h (by omega) h3
theorem evs_length (ns : List Int) (step : Nat) (E : List Nat) : ∀ k, (evs ns step E k).length = E.length
  | 0 => rfl
  | k + 1 => by unfold evs; rw [List.length_set, evs_length]
theorem getD_set_ne {l : List Nat} {i j v : Nat} (h : i ≠ j) : (l.set i v).getD j 0 = l.getD j 0 := by
  simp [List.getD_eq_getElem?_getD, List.getElem?_set, h]
theorem getD_set_eq {l : List Nat} {i v : Nat} (h : i < l.length) : (l.set i v).getD i 0 = v := by
  simp [List.getD_eq_getElem?_getD, List.getElem?_set, h]
theorem evs_low (ns : List Int) (step : Nat) (E : List Nat) : ∀ k j, j + 1 + k < E.length → (evs ns step E k).getD j 0 = E.getD j 0
  | 0, _, _ => rfl
  | k + 1, j, h => by unfold evs; rw [getD_set_ne (by omega), evs_low ns step E k j (by omega)]
/-- what is settled stays so -/
theorem evs_high (ns : List Int) (step : Nat) (E : List Nat) (j : Nat) : ∀ d k, k + d < E.length → E.length ≤ j + 1 + k → (evs ns step E (k + d)).getD j 0 = (evs ns step E k).getD j 0
  | 0, _, _, _ => rfl
  | d + 1, k, h, h2 => by rw [← Nat.add_assoc, evs, getD_set_ne (by omega), evs_high ns step E j d k (by omega) h2]
theorem evened_last (ns : List Int) (step : Nat) (E : List Nat) (h : 0 < E.length) : (evenedOf ns step E).getD (E.length - 1) 0 = E.getD (E.length - 1) 0 := by
  have := evs_high ns step E (E.length - 1) (E.length - 1) 0 (by omega) (by omega)
  rw [Nat.zero_add] at this
  exact this
theorem evened_get (ns : List Int) (step : Nat) (E : List Nat) {j : Nat} (h : j + 1 < E.length) :
    (evenedOf ns step E).getD j 0 = settle ns step (firstOf step E j) ((evenedOf ns step E).getD (j + 1) 0) (E.getD j 0) := by
  unfold evenedOf
  obtain ⟨k, hk⟩ : ∃ k, E.length = k + 2 + j := ⟨E.length - 2 - j, by omega⟩
  have e1 := evs_high ns step E j j (k + 1) (by omega) (by omega)
  have e2 := evs_high ns step E (j + 1) (j + 1) k (by omega) (by omega)
  rw [show k + 1 + j = E.length - 1 by omega] at e1
  rw [show k + (j + 1) = E.length - 1 by omega] at e2
  rw [e1, e2, evs, show E.length - 2 - k = j by omega, getD_set_eq (by rw [evs_length]; omega), show E.length - 1 - k = j + 1 by omega]
theorem natInts_getD (l : List Nat) (i : Nat) : (natInts l).getD i 0 = ((l.getD i 0 : Nat) : Int) := by
  simp only [natInts, List.getD_eq_getElem?_getD, List.getElem?_map]
  cases l[i]? <;> rfl
theorem natInts_set (l : List Nat) (i v : Nat) : natInts (l.set i v) = (natInts l).set i (v : Int) := by simp [natInts, List.map_set]
theorem startsOf_getD (b : Bool) (l : List Nat) {p : Nat} (h : p < l.length) : (startsOf b (natInts l)).getD p 0 = ((firstOf (stepN b) l p : Nat) : Int) := by
  unfold firstOf
  cases p with
  | zero => rfl
  | succ p =>
    rw [if_neg (by omega)]
    simp only [startsOf, natInts, List.getD_eq_getElem?_getD, List.getElem?_cons_succ, List.getElem?_map, List.getElem?_dropLast, List.length_map, Nat.add_sub_cancel]
    rw [if_pos (by omega), List.getElem?_eq_getElem (by omega)]
    simp only [Option.map_some, Option.getD_some, stepOf, stepN]
    split <;> omega
theorem startsOf_length (b : Bool) (l : List Int) (h : 0 < l.length) : (startsOf b l).length = l.length := by
  simp [startsOf]; omega
theorem firstOf_evs (ns : List Int) (step : Nat) (E : List Nat) {k p : Nat} (h : p + k < E.length) : firstOf step (evs ns step E k) p = firstOf step E p := by
  unfold firstOf
  split
  · rfl
  · rw [evs_low ns step E k (p - 1) (by omega)]
theorem firstOf_set (step : Nat) (E : List Nat) {p q v : Nat} (h : p ≤ q) : firstOf step (E.set q v) p = firstOf step E p := by
  unfold firstOf
  split
  · rfl
  · rw [getD_set_ne (by omega)]
theorem firstOf_set_at (step : Nat) (E : List Nat) {q v : Nat} (h : q < E.length) : firstOf step (E.set q v) (q + 1) = v + step := by
  unfold firstOf
  rw [if_neg (by omega), Nat.add_sub_cancel, getD_set_eq h]
end

section
theorem fresh_Good : True := by
  w_top off
  exact trivial
/-- what is known of ends that a paging gives -/
structure Good (ns : List Int) (step : Nat) (E : List Nat) : Prop where
  pos : 0 < E.length
  last : E.getD (E.length - 1) 0 = ns.length
  lt : ∀ j, j + 1 < E.length → firstOf step E j < E.getD j 0 ∧ E.getD j 0 < ns.length
  lastLe : firstOf step E (E.length - 1) ≤ ns.length
  len : E.length ≤ ns.length + 1
theorem firstOf_succ (step : Nat) (E : List Nat) (p : Nat) (h : 0 < p) : firstOf step E p = E.getD (p - 1) 0 + step := by
  unfold firstOf
  rw [if_neg (by omega)]
theorem Good.le {ns : List Int} {step : Nat} {E : List Nat} (G : Good ns step E) {j : Nat} (h : j < E.length) : E.getD j 0 ≤ ns.length := by
  by_cases e : j + 1 < E.length
  · exact Nat.le_of_lt (G.lt j e).2
  · rw [show j = E.length - 1 by omega, G.last]; exact Nat.le_refl _
/-- the page behind the one that is at work -/
theorem Good.behind {ns : List Int} {step : Nat} {E : List Nat} (G : Good ns step E) {i : Nat} (h : i + 1 < E.length) (hs : step ≤ 1) :
    (evs ns step E i).getD (E.length - 1 - i) 0 ≤ ns.length ∧ E.getD (E.length - 2 - i) 0 + step ≤ (evs ns step E i).getD (E.length - 1 - i) 0 := by
  cases i with
  | zero =>
    have a := (G.lt (E.length - 2) (by omega)).2
    rw [evs, Nat.sub_zero, Nat.sub_zero, G.last]
    omega
  | succ i =>
    have hp : E.length - 1 - (i + 1) = E.length - 2 - i := by omega
    have a := (G.lt (E.length - 2 - i) (by omega))
    have s := settle_bounds ns step (firstOf step E (E.length - 2 - i)) ((evs ns step E i).getD (E.length - 1 - i) 0) _ a.1
    rw [hp, evs, getD_set_eq (by rw [evs_length]; omega)]
    have f := firstOf_succ step E (E.length - 2 - i) (by omega)
    rw [show E.length - 2 - i - 1 = E.length - 2 - (i + 1) by omega] at f
    omega
theorem ssum_succ (ns : List Int) {e : Nat} (h : e < ns.length) : ssum ns (e + 1) = ssum ns e + ns.getD e 0 := by
  unfold ssum
  rw [List.take_succ, List.getElem?_eq_getElem h, List.getD_eq_getElem?_getD, List.getElem?_eq_getElem h]
  simp only [Option.toList_some, List.sum_append, List.sum_cons, List.sum_nil, Option.getD_some]
  omega
theorem slice_sum (ns : List Int) {a b : Nat} (h : a ≤ b) (h2 : b ≤ ns.length) : ((ns.drop ((a : Nat) : Int).toNat).take (min ((b : Nat) : Int).toNat ns.length - ((a : Nat) : Int).toNat)).sum = ssum ns b - ssum ns a := by
  rw [Int.toNat_natCast, Int.toNat_natCast, sum_take_drop, Nat.min_eq_left h2, show a + (b - a) = b by omega]
  rfl
theorem turn_cells {ns : List Int} {sp cur : Nat} {g : Int} (h0 : 0 < cur) (hcn : cur ≤ ns.length) (hgn : cur - 1 + sp < ns.length) (hg : g = ns.getD (cur - 1 + sp) 0) :
    ssum ns cur = ssum ns (cur - 1) + ns.getD ((cur : Int) - 1).toNat 0 ∧ ssum ns (cur + sp) = ssum ns (cur - 1 + sp) + g := by
  have a := ssum_succ ns (e := cur - 1) (by omega)
  have b := ssum_succ ns (e := cur - 1 + sp) hgn
  rw [show cur - 1 + 1 = cur by omega] at a
  rw [show cur - 1 + sp + 1 = cur + sp by omega, ← hg] at b
  rw [show ((cur : Int) - 1).toNat = cur - 1 by omega]
  exact ⟨a, b⟩
theorem turn_moves {ns : List Int} {sp first cur bh : Nat} {R Lf g : Int} (hR : R = ssum ns bh - ssum ns (cur + sp)) (hL : Lf = ssum ns cur - ssum ns first) (hg : g = ns.getD (cur - 1 + sp) 0) (hcn : cur ≤ ns.length) (hgn : cur - 1 + sp < ns.length)
    (h1 : (first : Int) < (cur : Int) - 1) (h2 : (bh : Int) ≤ ((cur + sp : Nat) : Int) ∨ R + g ≤ Lf - ns.getD ((cur : Int) - 1).toNat 0) :
    staysB ns sp first cur bh = false ∧ R + g = ssum ns bh - ssum ns (cur - 1 + sp) ∧ Lf - ns.getD ((cur : Int) - 1).toNat 0 = ssum ns (cur - 1) - ssum ns first := by
  obtain ⟨a, b⟩ := turn_cells (by omega) hcn hgn hg
  refine ⟨?_, by omega, by omega⟩
  unfold staysB
  rw [decide_eq_false (by omega), Bool.false_or, ← hg]
  rcases h2 with h2 | h2
  · rw [decide_eq_true (show bh ≤ cur + sp by omega)]; rfl
  · rw [decide_eq_false (p := _ > _) (by omega), Bool.and_false]
theorem turn_stays {ns : List Int} {sp first cur bh : Nat} {R Lf g : Int} (hR : R = ssum ns bh - ssum ns (cur + sp)) (hL : Lf = ssum ns cur - ssum ns first) (hg : g = ns.getD (cur - 1 + sp) 0) (hcn : cur ≤ ns.length) (hgn : cur - 1 + sp < ns.length) (hf : first < cur)
    (h : ¬ (first : Int) < (cur : Int) - 1 ∨ (¬ (bh : Int) ≤ ((cur + sp : Nat) : Int) ∧ ¬ R + g ≤ Lf - ns.getD ((cur : Int) - 1).toNat 0)) :
    staysB ns sp first cur bh = true := by
  obtain ⟨a, b⟩ := turn_cells (by omega) hcn hgn hg
  unfold staysB
  rcases h with h | ⟨h2, h3⟩
  · rw [decide_eq_true (show cur = first + 1 by omega), Bool.true_or]
  · rw [decide_eq_false (show ¬ bh ≤ cur + sp by omega), ← hg, decide_eq_true (p := _ > _) (by omega)]
    simp
theorem store_eq {lc : List Nat} {q cur : Nat} (h : 0 < cur) : (natInts lc).set (((q + 1 : Nat) : Int) - 1).toNat ((cur : Int) - 1) = natInts (lc.set q (cur - 1)) := by
  rw [natInts_set, show (((q + 1 : Nat) : Int) - 1).toNat = q by omega, show ((cur - 1 : Nat) : Int) = (cur : Int) - 1 by omega]
theorem gain_true {ns : List Int} {cur : Nat} {b : Bool} (hb : b = true) (h : 0 < cur) : ns.getD ((cur : Nat) : Int).toNat 0 = ns.getD (cur - 1 + stepN b) 0 := by
  rw [hb, show ((cur : Nat) : Int).toNat = cur - 1 + stepN true by unfold stepN; rw [if_pos rfl]; omega]
theorem gain_false {ns : List Int} {cur : Nat} {b : Bool} (hb : b = false) (h : 0 < cur) : ns.getD ((cur : Int) - 1).toNat 0 = ns.getD (cur - 1 + stepN b) 0 := by
  rw [hb, show ((cur : Int) - 1).toNat = cur - 1 + stepN false by unfold stepN; rw [if_neg Bool.false_ne_true]; omega]
theorem stepN_of {b : Bool} : (b = true → stepN b = 1) ∧ (b = false → stepN b = 0) := by
  cases b <;> simp [stepN]
/-- each address of the ledger lies below d -/
def LtAll (d : Nat) : List (Addr × Obj) → Prop
  | [] => True
  | p :: r => @LT.lt Nat _ p.1 d ∧ LtAll d r
theorem ltAll_of {d : Addr} : ∀ {l : List (Addr × Obj)}, (∀ p ∈ l, p.1 < d) → LtAll d l
  | [], _ => trivial
  | p :: _, h => ⟨h p (.head _), ltAll_of fun q hq => h q (.tail _ hq)⟩
section
variable {prog : Program} {w : World} {A : Around} {E : Value → Shared → Prop} {s : Shared} {h₀ : Heap} {L : Addr} {m : Str → Option Value}
/-- a range that is kept in the ledger -/
theorem range_led {Q : Value → Shared → Prop} {a b : Int} {t u : Tok} {news : List (Addr × Obj)} (F : Fr h₀ L s.heap m) (N : News h₀ L s.heap news)
    (h : ∀ r h' tk t₁ u₁ v₁, Fr h₀ L h' m → News h₀ L h' ((r, { cls := .type "range", dict := none, data := .fields #[.int a t₁, .int b u₁, .int 1 v₁], slots := #[] }) :: news) → LtAll r news → Q (.ref r) { s with heap := h', toks := tk }) :
    wpAny (model prog w) A (call (.type "range") [.int a t, .int b u]) Q E s :=
  range2_rows F N fun h' tk t₁ u₁ v₁ hr F' N' _ => h _ h' tk t₁ u₁ v₁ F' (fun p hp => by
    rcases List.mem_cons.mp hp with rfl | hp
    · exact ⟨hr, fun e => absurd F.ns.lt (e ▸ Nat.lt_irrefl _), next_is_new F⟩
    · exact N' p hp) (ltAll_of fun p hp => Heap.lt_size (N p hp).1)
end
theorem settle_is_max {ns : List Int} {sp first bh cur : Nat} (h : first < cur) {M : Int} {a : Int} {n : Nat} (ha : a = (first : Int) + 1) (hn : n = cur - first) (hM : M ∈ (rangeKs a n).filter (fun e => staysB ns sp first e.toNat bh))
    (hmax : ∀ x, x ∈ (rangeKs a n).filter (fun e => staysB ns sp first e.toNat bh) → x ≤ M) : M = ((settle ns sp first bh cur : Nat) : Int) := by
  subst ha hn
  obtain ⟨m1, m2⟩ := List.mem_filter.mp hM
  obtain ⟨m3, m4⟩ := mem_rangeKs m1
  obtain ⟨b1, b2, b3⟩ := settle_bounds ns sp first bh cur h
  have u1 := settle_max ns sp first bh cur M.toNat (by omega) (by omega) m2
  have u2 := hmax ((settle ns sp first bh cur : Nat) : Int) (List.mem_filter.mpr ⟨List.mem_map.mpr ⟨settle ns sp first bh cur - first - 1, List.mem_range.mpr (by omega), by omega⟩, by rw [Int.toNat_natCast]; exact b3⟩)
  omega
theorem settle_some {ns : List Int} {sp first bh cur : Nat} (h : first < cur) {a : Int} {n : Nat} (ha : a = (first : Int) + 1) (hn : n = cur - first) : 0 < ((rangeKs a n).filter (fun e => staysB ns sp first e.toNat bh)).length := by
  subst ha hn
  refine List.length_pos_of_mem (a := ((first + 1 : Nat) : Int)) (List.mem_filter.mpr ⟨List.mem_map.mpr ⟨0, List.mem_range.mpr (by omega), by omega⟩, ?_⟩)
  rw [Int.toNat_natCast]
  exact stays_first _ _ _ _
theorem store_at {l : List Nat} {q v : Nat} {k x : Int} (hk : k = (q : Int)) (hx : x = (v : Int)) : (natInts l).set k.toNat x = natInts (l.set q v) := by
  subst hk hx
  rw [natInts_set, Int.toNat_natCast]

theorem eval_int_through {prog : Program} {w : World} {A : Around} {E : Value → Shared → Prop} {s : Shared} {t : Sem Value} {Q : Value → Shared → Prop} (P : Int → Prop)
    (h1 : wpAny (model prog w) A t (fun v s' => HoldP (∃ (x : Int) (u : Tok) (tk : Nat), v = .int x u ∧ s' = { s with toks := tk } ∧ P x)) E s) (h2 : ∀ x u tk, P x → Q (.int x u) { s with toks := tk }) : wpAny (model prog w) A t Q E s :=
  wpAny_mono h1 (fun v s' h => by obtain ⟨x, u, tk, rfl, rfl, p⟩ := unholdIt h; exact h2 x u tk p) fun _ _ h => h
theorem eval_bool_through {prog : Program} {w : World} {A : Around} {E : Value → Shared → Prop} {s : Shared} {t : Sem Value} {Q : Value → Shared → Prop} (P : Bool → Prop)
    (h1 : wpAny (model prog w) A t (fun v s' => HoldP (∃ (x : Bool) (tk : Nat), v = .bool x ∧ s' = { s with toks := tk } ∧ P x)) E s) (h2 : ∀ x tk, P x → Q (.bool x) { s with toks := tk }) : wpAny (model prog w) A t Q E s :=
  wpAny_mono h1 (fun v s' h => by obtain ⟨x, tk, rfl, rfl, p⟩ := unholdIt h; exact h2 x tk p) fun _ _ h => h
end

section
theorem fresh_Stays : True := by
  w_top off
  exact trivial
theorem stays_fun (w : World) {l ls : Addr} {vs ss : List Value} {ns : List Int} {f e bh sp : Nat} {si : Int} {t1 t2 t3 t4 : Tok} (hi : IntsAre vs ns) (hs : IntsAre ss (psums ns)) (hlen : ns.length ≤ 900) (hsp : sp ≤ 1) (hsi : si = (sp : Int)) (h1 : f < e) (h2 : e ≤ ns.length) (h3 : bh ≤ ns.length) :
    Fun w 112 1 [.ref l, .ref ls, .int (f : Int) t1, .int (e : Int) t2, .int (bh : Int) t3, .int si t4] [(l, vs), (ls, ss)] []
      (fun v out => v = .bool (staysB ns sp f e bh) ∧ out = []) := by
  intro mean mg mb dp un gd cn cs a ccd cl outer A₀ base h₀ L m s Q E B F X T hk hro N hd hu ret
  subst hsi
  (refine wpAny_call ?_; k_dflt (refine' code_defG ?k1_11 ?k2_11 ?k3_11 ?k4_11 ?k5_11 ?kA_11 ?kF_11 ?kK_11 ?k6_11 ?k7_11 ?k8_11 ?k9_11 ?kB_11 ?_ ?c2_11 ?c3_11 ?c4_11 ?c5_11; (case kA_11 => exact rfl); (case kF_11 => exact rfl); (case kK_11 => assumption); (case k1_11 => k_asm); (case k2_11 => k_asm); (case k3_11 => k_asm); (case k4_11 => k_asm); (case k5_11 => k_asm); (case k6_11 => k_is); (case k7_11 => k_is); (case k8_11 => ktr_room); (case k9_11 => exact BindsTo.of_eq rfl); (case c5_11 => decide); (case kB_11 => exact locs rfl); (case c2_11 => exact rfl); (case c3_11 => exact rfl); (case c4_11 => exact rfl); k_whole))
  intro g' L' h' FG' F' N' B' X' T' kG'
  have hl : g'.IsList l vs.toArray := lift_ro kG' hro (l, vs) (.head _)
  have hls : g'.IsList ls ss.toArray := lift_ro kG' hro (ls, ss) (.tail _ (.head _))
  clear hro
  have hsl := psums_length ns
  dsimp only
  k_unmd
  k_fold
  k_steps
  all_goals
    first
    | (exact ret _ [] _ _ (back_of kG' (by k_asm) (by k_asm) (by k_asm) (by k_asm) (fun _ h => nomatch h)) ⟨by
        rw [psums_getD ns (by omega), psums_getD ns (by omega), psums_getD ns (by omega), psums_getD ns (by omega)]
        rw [show ((e : Int) - 1 + (sp : Int)).toNat = e - 1 + sp by omega, show ((e : Int) + (sp : Int)).toNat = e + sp by omega, show ((e : Int) - 1).toNat = e - 1 by omega, Int.toNat_natCast, Int.toNat_natCast]
        unfold staysB
        rw [decide_eq_false (show ¬ e = f + 1 by omega), decide_eq_false (show ¬ bh ≤ e + sp by omega)]
        rfl, rfl⟩)
    | (exact ret _ [] _ _ (back_of kG' (by k_asm) (by k_asm) (by k_asm) (by k_asm) (fun _ h => nomatch h)) ⟨by
        unfold staysB
        first
        | (rw [decide_eq_true (show e = f + 1 by omega)]; rfl)
        | (rw [decide_eq_false (show ¬ e = f + 1 by omega), decide_eq_true (show bh ≤ e + sp by omega)]; rfl), rfl⟩)
    | trace_state
theorem stays_funI (w : World) {l ls : Addr} {vs ss : List Value} {ns : List Int} {f e bh sp : Nat} {fI eI bI si : Int} {t1 t2 t3 t4 : Tok} (hi : IntsAre vs ns) (hs : IntsAre ss (psums ns)) (hlen : ns.length ≤ 900) (hsp : sp ≤ 1) (hsi : si = (sp : Int)) (hf : fI = (f : Int)) (he : eI = (e : Int)) (hb : bI = (bh : Int)) (h1 : f < e) (h2 : e ≤ ns.length) (h3 : bh ≤ ns.length) :
    Fun w 112 1 [.ref l, .ref ls, .int fI t1, .int eI t2, .int bI t3, .int si t4] [(l, vs), (ls, ss)] []
      (fun v out => v = .bool (staysB ns sp f e bh) ∧ out = []) := by
  subst hf he hb
  exact stays_fun w hi hs hlen hsp hsi h1 h2 h3
end

section
theorem fresh_Evened : True := by
  w_top off
  exact trivial
section
local macro_rules | `(tactic| walk_at "call ref") => `(tactic| refine hold ?_)
local macro_rules | `(tactic| walk_at "eval IfExp") => `(tactic| refine hold ?_)
local macro_rules | `(tactic| walk_at "eval BoolOp") => `(tactic| refine hold ?_)
theorem evened_fun (w : World) {l le : Addr} {vs ws : List Value} {ns : List Int} {E : List Nat} {b : Bool} (hi : IntsAre vs ns) (hw : IntsAre ws (natInts E)) (hlen : ns.length ≤ 900) (G : Good ns (stepN b) E) (hpos : ∀ c ∈ ns, 1 ≤ c) :
    Fun w 65 2 [.ref l, .ref le, .bool b] [(l, vs), (le, ws)] []
      (fun v out => ∃ (D : Addr) (us : List Value) (n : Nat), v = .ref D ∧ out = [(D, listOf us.toArray n)] ∧ IntsAre us (natInts (evenedOf ns (stepN b) E))) := by
  intro mean mg mb dp un gd cn cs a ccd cl outer A₀ base h₀ L m s Q E₁ B F X T hk hro N hd hu ret
  have hElen := natInts_length E
  have hG := G.len
  have hGp := G.pos
  have hsp : stepN b ≤ 1 := by unfold stepN; split <;> omega
  (refine wpAny_call ?_; k_dflt (refine' code_defG ?k1_14 ?k2_14 ?k3_14 ?k4_14 ?k5_14 ?kA_14 ?kF_14 ?kK_14 ?k6_14 ?k7_14 ?k8_14 ?k9_14 ?kB_14 ?_ ?c2_14 ?c3_14 ?c4_14 ?c5_14; (case kA_14 => exact rfl); (case kF_14 => exact rfl); (case kK_14 => assumption); (case k1_14 => k_asm); (case k2_14 => k_asm); (case k3_14 => k_asm); (case k4_14 => k_asm); (case k5_14 => k_asm); (case k6_14 => k_is); (case k7_14 => k_is); (case k8_14 => ktr_room); (case k9_14 => exact BindsTo.of_eq rfl); (case c5_14 => decide); (case kB_14 => exact locs rfl); (case c2_14 => exact rfl); (case c3_14 => exact rfl); (case c4_14 => exact rfl); k_whole))
  intro g' L' h' FG' F' N' B' X' T' kG'
  have hl : g'.IsList l vs.toArray := lift_ro kG' hro (l, vs) (.head _)
  have hle : g'.IsList le ws.toArray := lift_ro kG' hro (le, ws) (.tail _ (.head _))
  clear hro
  dsimp only
  k_unmd
  k_fold
  k_steps
  rename News _ _ _ _ => Nl
  rename Fr _ _ _ _ => Fl
  rename IsRange _ _ _ _ _ _ _ _ => hR
  refine unhold (loop_range (n := E.length - 1)
    (fun i m₁ nx => ∃ (D : Addr) (us : List Value) (c : Nat),
      Names m₁ [(Str.ofString "ends", .ref D), (Str.ofString "costs", .ref l), (Str.ofString "between", .bool b)] ∧ nx = [(D, listOf us.toArray c)] ∧ IntsAre us (natInts (evs ns (stepN b) E i)))
    rfl hR (small_down (by omega) (by omega) (by omega) (by omega)) (by rw [rangeSize_downNat]; congr 1; omega) Fl (news_sub Nl (fun p hp => by rw [List.mem_singleton.mp hp]; k_mem)) ?_ ?_ ?_)
  · exact ⟨_, _, _, ⟨rfl, rfl, rfl, trivial⟩, rfl, by assumption⟩
  · clear Fl Nl
    rintro i t m₁ news₁ h tk I oI Qt s₁ hin ⟨D, us, c, nm, rfl, hus⟩ ane F₁ N₁ te
    obtain ⟨q, hq⟩ : ∃ q, E.length = q + 2 + i := ⟨E.length - 2 - i, by omega⟩
    rw [show ((natInts E).length : Int) - 1 + (i : Int) * -1 = ((q + 1 : Nat) : Int) by omega] at F₁
    have F₂ := nm.fr2 F₁
    clear F₁
    simp only [AllNe, and_true] at ane
    replace ane := holdIt ane
    have el := evs_length ns (stepN b) E i
    have gb := G.behind (show i + 1 < E.length by omega) hsp
    have gl := G.lt q (by omega)
    have ee := evs_low ns (stepN b) E i q (by omega)
    have ff := firstOf_evs ns (stepN b) E (k := i) (p := q) (by omega)
    have fp := firstOf_succ (stepN b) (evs ns (stepN b) E i) (q + 1) (by omega)
    rw [Nat.add_sub_cancel, ee] at fp
    rw [show E.length - 1 - i = q + 1 by omega, show E.length - 2 - i = q by omega] at gb
    have hul : us.length ≤ 1000 := by rw [hus.length, natInts_length]; omega
    have hnext : evs ns (stepN b) E (i + 1) = (evs ns (stepN b) E i).set q (settle ns (stepN b) (firstOf (stepN b) E q) ((evs ns (stepN b) E i).getD (q + 1) 0) (E.getD q 0)) := by
      rw [evs, show E.length - 1 - i = q + 1 by omega, show E.length - 2 - i = q by omega]
    generalize hbh : (evs ns (stepN b) E i).getD (q + 1) 0 = bh at *
    generalize hcur : E.getD q 0 = cur0 at *
    generalize hfi : firstOf (stepN b) E q = first at *
    have nl : (natInts (evs ns (stepN b) E i)).length = q + 2 + i := by rw [natInts_length, el, hq]
    have sl : (startsOf b (natInts (evs ns (stepN b) E i))).length = q + 2 + i := by rw [startsOf_length b _ (by omega), nl]
    have hA : (natInts (evs ns (stepN b) E i)).getD (((q + 1 : Nat) : Int) - 1).toNat 0 = (cur0 : Int) := by rw [show (((q + 1 : Nat) : Int) - 1).toNat = q by omega, natInts_getD, ee]
    have hB : (natInts (evs ns (stepN b) E i)).getD ((q + 1 : Nat) : Int).toNat 0 = (bh : Int) := by rw [Int.toNat_natCast, natInts_getD, hbh]
    have hC : (startsOf b (natInts (evs ns (stepN b) E i))).getD ((q + 1 : Nat) : Int).toNat 0 = ((cur0 + stepN b : Nat) : Int) := by rw [Int.toNat_natCast, startsOf_getD b _ (by omega), fp]
    have hD : (startsOf b (natInts (evs ns (stepN b) E i))).getD (((q + 1 : Nat) : Int) - 1).toNat 0 = (first : Int) := by rw [show (((q + 1 : Nat) : Int) - 1).toNat = q by omega, startsOf_getD b _ (by omega), ff]
    have hq2 : q + 2 + i ≤ 901 := by omega
    replace el := holdIt el
    replace ee := holdIt ee
    replace ff := holdIt ff
    replace fp := holdIt fp
    replace hbh := holdIt hbh
    replace hcur := holdIt hcur
    replace hfi := holdIt hfi
    replace hnext := holdIt hnext
    replace hin := holdIt hin
    replace hG := holdIt hG
    replace hGp := holdIt hGp
    replace hElen := holdIt hElen
    replace hq := holdIt hq
    replace hA := holdIt hA
    replace hB := holdIt hB
    replace hC := holdIt hC
    replace hD := holdIt hD
    k_steps
    (refine unhold ?_; k_dflt (refine' Fun.use0 (starts_fun _ ?i_12 ?n_12) ?B_12 ?F_12 ?X_12 ?T_12 ?hk_12 ?N_12 ?ro_12 ?d_12 ?u_12 ?_; (case B_12 => k_asm); (case F_12 => k_asm); (case X_12 => k_asm); (case T_12 => k_asm); (case hk_12 => exact rfl); (case N_12 => k_asm); (case ro_12 => exact List.forall_mem_cons.mpr ⟨by is_list, fun _ h => nomatch h⟩); (case i_12 => assumption); (case n_12 => omega); (case d_12 => ktr_room); (case u_12 => ktr_units); k_whole); refine fun r_12 out_12 h_12 tk_12 F_12 N_12 ap_12 post_12 => ?_; obtain ⟨D_12, us_12, n_12, e1_12, e2_12, hI_12⟩ := post_12; subst e1_12; subst e2_12; simp only [List.cons_append, List.nil_append] at N_12; (try simp only [Apart, AllNe, and_true] at ap_12))
    k_steps
    rename News _ _ _ _ => Nl
    rename Fr _ _ _ _ => Fl
    refine unhold (loop_while
      (fun n m₁ nx => ∃ (cur : Nat) (DS : Addr) (ss usc : List Value) (cS cc : Nat) (mv : Bool) (R Lf : Int) (tR tL : Tok) (lc : List Nat),
        Names m₁ [(Str.ofString "moving", .bool mv), (Str.ofString "right", .int R tR), (Str.ofString "left", .int Lf tL), (Str.ofString "ends", .ref D), (Str.ofString "starts", .ref DS), (Str.ofString "page", .int ((q + 1 : Nat) : Int) t), (Str.ofString "costs", .ref l), (Str.ofString "between", .bool b)] ∧
        nx = [(DS, listOf ss.toArray cS), (I, oI), (D, listOf usc.toArray cc)] ∧ lc = (evs ns (stepN b) E i).set q cur ∧ IntsAre usc (natInts lc) ∧ IntsAre ss (startsOf b (natInts lc)) ∧ (@Ne Nat I DS ∧ @Ne Nat D DS) ∧
        first < cur ∧ cur ≤ cur0 ∧ R = ssum ns bh - ssum ns (cur + stepN b) ∧ Lf = ssum ns cur - ssum ns first ∧
        settle ns (stepN b) first bh cur0 = settle ns (stepN b) first bh cur ∧ (mv = false → settle ns (stepN b) first bh cur = cur) ∧ 2 * cur + (if mv = true then 1 else 0) ≤ n)
      (fun m₁ nx => ∃ (DS : Addr) (ss usc : List Value) (cS cc : Nat),
        Names m₁ [(Str.ofString "ends", .ref D), (Str.ofString "costs", .ref l), (Str.ofString "between", .bool b)] ∧
        nx = [(DS, listOf ss.toArray cS), (I, oI), (D, listOf usc.toArray cc)] ∧ IntsAre usc (natInts (evs ns (stepN b) E (i + 1))))
      (n₀ := 2 * cur0 + 1) Fl (news_sub Nl (fun p hp => .tail _ (.tail _ hp))) ?_ ?_ ?_ (by with_unfolding_all passes_own))
    · refine ⟨cur0, _, _, us, _, c, true, _, _, _, _, evs ns (stepN b) E i, ⟨rfl, rfl, rfl, rfl, rfl, rfl, rfl, rfl, trivial⟩, rfl, ?_, hus, by assumption, by assumption, gl.1, Nat.le_refl _, slice_sum ns gb.2 gb.1, slice_sum ns (by omega) (by omega), rfl, (fun h => nomatch h), Nat.le_refl _⟩
      apply List.ext_getElem
      · rw [List.length_set]
      · intro j h1 h2
        rw [List.getElem_set]
        split
        · rename_i hj
          subst hj
          rw [← unholdIt ee, List.getD_eq_getElem?_getD, List.getElem?_eq_getElem h1]; rfl
        · rfl
    · clear Fl Nl
      rintro n m₂ news₂ h₂ tk₂ Qt₂ Qo₂ F₁ N₁ ⟨cur, DS, ss, usc, cS, cc, mv, R, Lf, tR, tL, lc, nm₂, rfl, hlc, husc, hss, hap, hc1, hc2, hR, hL, hst, hmv, hn⟩ te₂
      have F₂ := nm₂.fr F₁
      clear F₁
      have ll : lc.length = q + 2 + i := by rw [hlc, List.length_set, unholdIt el, unholdIt hq]
      have hull : usc.length ≤ 1000 := by rw [husc.length, natInts_length]; omega
      have nl2 : (natInts lc).length = q + 2 + i := by rw [natInts_length, ll]
      have sl2 : (startsOf b (natInts lc)).length = q + 2 + i := by rw [startsOf_length b _ (by omega), nl2]
      have lq : lc.getD q 0 = cur := by rw [hlc, getD_set_eq (by rw [unholdIt el, unholdIt hq]; omega)]
      have lp : lc.getD (q + 1) 0 = bh := by rw [hlc, getD_set_ne (by omega), unholdIt hbh]
      have lf : firstOf (stepN b) lc q = first := by rw [hlc, firstOf_set _ _ (Nat.le_refl _), unholdIt ff]
      have lg : firstOf (stepN b) lc (q + 1) = cur + stepN b := by rw [firstOf_succ _ _ _ (by omega), Nat.add_sub_cancel, lq]
      clear hA hB hC hD nl sl
      have hA := holdIt (show (natInts lc).getD (((q + 1 : Nat) : Int) - 1).toNat 0 = (cur : Int) by rw [show (((q + 1 : Nat) : Int) - 1).toNat = q by omega, natInts_getD, lq])
      have hB := holdIt (show (natInts lc).getD ((q + 1 : Nat) : Int).toNat 0 = (bh : Int) by rw [Int.toNat_natCast, natInts_getD, lp])
      have hC := holdIt (show (startsOf b (natInts lc)).getD ((q + 1 : Nat) : Int).toNat 0 = ((cur + stepN b : Nat) : Int) by rw [Int.toNat_natCast, startsOf_getD b _ (by omega), lg])
      have hD := holdIt (show (startsOf b (natInts lc)).getD (((q + 1 : Nat) : Int) - 1).toNat 0 = (first : Int) by rw [show (((q + 1 : Nat) : Int) - 1).toNat = q by omega, startsOf_getD b _ (by omega), lf])
      clear lq lp lf lg
      replace hap := holdIt hap
      replace hlc := holdIt hlc
      replace hR := holdIt hR
      replace hL := holdIt hL
      replace hst := holdIt hst
      replace hmv := holdIt hmv
      replace hn := holdIt hn
      replace ll := holdIt ll
      cases mv with
      | false =>
        k_steps
        exact te₂.out _ _ _ _ _ (by k_asm) (by k_asm) (fun p h => h) ⟨DS, ss, usc, cS, cc, ⟨rfl, rfl, rfl, trivial⟩, rfl, by rw [unholdIt hnext, unholdIt hst, unholdIt hmv rfl, ← unholdIt hlc]; exact husc⟩
      | true =>
        k_steps
        refine unhold (eval_int_through (fun x => x = ns.getD (cur - 1 + stepN b) 0) ?tgain ?rest)
        case tgain =>
          refine wpAny_IfExp ?_
          k_steps
          all_goals first
            | exact unholdP ⟨_, _, _, rfl, rfl, gain_true (ns := ns) (by assumption) (show 0 < cur by omega)⟩
            | exact unholdP ⟨_, _, _, rfl, rfl, gain_false (ns := ns) (by assumption) (show 0 < cur by omega)⟩
        case rest =>
          rintro _ tg tk rfl
          k_steps
          refine unhold (eval_bool_through (fun x => (x = true → (first : Int) < (cur : Int) - 1 ∧ ((bh : Int) ≤ ((cur + stepN b : Nat) : Int) ∨ R + ns.getD (cur - 1 + stepN b) 0 ≤ Lf - ns.getD ((cur : Int) - 1).toNat 0)) ∧
            (x = false → ¬ (first : Int) < (cur : Int) - 1 ∨ (¬ (bh : Int) ≤ ((cur + stepN b : Nat) : Int) ∧ ¬ R + ns.getD (cur - 1 + stepN b) 0 ≤ Lf - ns.getD ((cur : Int) - 1).toNat 0))) ?tmov ?rest)
          case tmov =>
            refine BoolOp_and ?_
            k_steps
            all_goals (try (refine unhold (BoolOp_one ?_); k_steps))
            all_goals (try (refine unhold (BoolOp_or ?_); k_steps))
            all_goals (try (refine unhold (BoolOp_one ?_); k_steps))
            all_goals
              refine unholdP ⟨_, _, rfl, rfl, fun h => ?_, fun h => ?_⟩
              · first
                  | (have h' := of_decide_eq_true h; omega)
                  | cases h
              · first
                  | (have h' := of_decide_eq_false h; omega)
                  | cases h
          case rest =>
            rintro mv tk ⟨pm1, pm2⟩
            cases mv with
            | true =>
              obtain ⟨pf, po⟩ := pm1 rfl
              clear pm1 pm2
              have tm := turn_moves (unholdIt hR) (unholdIt hL) rfl (by omega) (by omega) pf po
              have tm0 := holdIt tm
              clear tm
              replace po := holdIt po
              k_steps
              (refine unhold ?_; k_dflt (refine' Fun.use0 (starts_fun _ ?i_13 ?n_13) ?B_13 ?F_13 ?X_13 ?T_13 ?hk_13 ?N_13 ?ro_13 ?d_13 ?u_13 ?_; (case B_13 => k_asm); (case F_13 => k_asm); (case X_13 => k_asm); (case T_13 => k_asm); (case hk_13 => exact rfl); (case N_13 => k_asm); (case ro_13 => exact List.forall_mem_cons.mpr ⟨by is_list, fun _ h => nomatch h⟩); (case i_13 => assumption); (case n_13 => omega); (case d_13 => ktr_room); (case u_13 => ktr_units); k_whole); refine fun r_13 out_13 h_13 tk_13 F_13 N_13 ap_13 post_13 => ?_; obtain ⟨D_13, us_13, n_13, e1_13, e2_13, hI_13⟩ := post_13; subst e1_13; subst e2_13; simp only [List.cons_append, List.nil_append] at N_13; (try simp only [Apart, AllNe, and_true] at ap_13))
              k_steps
              rename IntsAre _ (List.set _ _ _) => hU
              rename IntsAre _ (startsOf b (List.set _ _ _)) => hS
              rw [store_eq (by omega)] at hU hS
              have tm := unholdIt tm0
              have hn' := unholdIt hn
              rw [if_pos rfl] at hn'
              exact te₂.next (2 * (cur - 1) + 1) _ [(_, listOf _ _), (I, oI), (D, listOf _ _)] _ _ _ (by k_asm) (by k_asm) (fun p hp => by rcases List.mem_cons.mp hp with rfl | hp; exact .head _; exact .tail _ (.tail _ hp)) (by omega)
                ⟨cur - 1, _, _, _, _, _, true, _, _, _, _, lc.set q (cur - 1), ⟨rfl, rfl, rfl, rfl, rfl, rfl, rfl, rfl, trivial⟩, rfl, by rw [unholdIt hlc, List.set_set], hU, hS, ⟨by k_ne, by k_ne⟩, by omega, by omega, tm.2.1, tm.2.2, by rw [unholdIt hst, settle_on tm.1 hc1], (fun h => nomatch h), by rw [if_pos rfl]; omega⟩
            | false =>
              have ts := turn_stays (unholdIt hR) (unholdIt hL) rfl (by omega) (by omega) hc1 (pm2 rfl)
              clear pm1 pm2
              k_steps
              have hn' := unholdIt hn
              rw [if_pos rfl] at hn'
              exact te₂.next (2 * cur) _ [(_, listOf _ _), (I, oI), (D, listOf _ _)] _ _ _ (by k_asm) (by k_asm) (fun p hp => hp) (by omega)
                ⟨cur, _, _, _, _, _, false, _, _, _, _, lc, ⟨rfl, rfl, rfl, rfl, rfl, rfl, rfl, rfl, trivial⟩, rfl, unholdIt hlc, husc, hss, hap, hc1, hc2, unholdIt hR, unholdIt hL, unholdIt hst, (fun _ => settle_here ts hc1), by rw [if_neg Bool.false_ne_true]; omega⟩
    · clear Fl Nl
      rintro m₂ news₂ h₂ tk₂ F₁ N₁ ⟨DS, ss, usc, cS, cc, nm₂, rfl, husc⟩
      have F₂ := nm₂.fr F₁
      clear F₁
      k_steps
      exact te.next _ [(D, listOf _ _)] _ _ _ (by k_asm) (by k_asm) (by k_mem) (fun p hp => by rw [List.mem_singleton.mp hp]; k_mem) (by simp only [AllNe, and_true]; exact ane) ⟨D, usc, cc, ⟨rfl, rfl, rfl, trivial⟩, rfl, husc⟩
  · clear Fl Nl
    rintro m₁ news₁ h tk ⟨D, us, c, nm, rfl, hus⟩ F₁ N₁
    have F₂ := nm.fr F₁
    clear F₁
    k_steps
    exact ret _ [(_, listOf _ _)] _ _ (back_of kG' (by k_asm) (by k_asm) (by k_asm) (by k_asm) (fun p hp => by rw [List.mem_singleton.mp hp]; k_mem)) ⟨_, _, _, rfl, rfl, hus⟩
end
end

section
local macro_rules | `(tactic| walk_at "no such key") => `(tactic| skip)
theorem fresh_LEvened : True := by
  w_top off
  exact trivial
section
local macro_rules | `(tactic| walk_at "call type:range") => `(tactic| ((with_reducible show wpAny _ _ (call _ [Value.int (_ + 1) _, Value.int (_ + 1) _]) _ _ _); k_dflt (refine' range_led ?F ?N ?_; (case F => k_asm); (case N => k_asm); k_whole); refine fun r' h' tk' t1' u1' v1' F' N' lt' => ?_; simp only [LtAll, and_true] at lt'))
local macro_rules | `(tactic| walk_at "call ref") => `(tactic| refine hold ?_)
local macro_rules | `(tactic| walk_at "eval IfExp") => `(tactic| refine hold ?_)
theorem law_evened_fun (w : World) {l le : Addr} {vs ws : List Value} {ns : List Int} {E : List Nat} {sp : Nat} {si : Int} {st : Tok} (hi : IntsAre vs ns) (hw : IntsAre ws (natInts E)) (hlen : ns.length ≤ 900) (G : Good ns sp E) (hsp : sp ≤ 1) (hsi : si = (sp : Int)) :
    Fun w 117 2 [.ref l, .ref le, .int si st] [(l, vs), (le, ws)] []
      (fun v out => ∃ (D : Addr) (us : List Value) (n : Nat), v = .ref D ∧ out = [(D, listOf us.toArray n)] ∧ IntsAre us (natInts (evenedOf ns sp E))) := by
  intro mean mg mb dp un gd cn cs a ccd cl outer A₀ base h₀ L m s Q E₁ B F X T hk hro N hd hu ret
  subst hsi
  have hElen := natInts_length E
  have hG := G.len
  have hGp := G.pos
  (refine wpAny_call ?_; k_dflt (refine' code_cells ?k1_17 ?k2_17 ?k3_17 ?k4_17 ?k5_17 ?kA_17 ?kF_17 ?kK_17 ?k6_17 ?k7_17 ?k8_17 ?k9_17 ?kB_17 ?kD_17 ?_ ?c2_17 ?c3_17 ?c4_17; (case kA_17 => exact rfl); (case kF_17 => exact rfl); (case kK_17 => assumption); (case k1_17 => k_asm); (case k2_17 => k_asm); (case k3_17 => k_asm); (case k4_17 => k_asm); (case k5_17 => k_asm); (case k6_17 => k_is); (case k7_17 => k_is); (case k8_17 => ktr_room); (case k9_17 => exact BindsTo.of_eq rfl); (case kB_17 => exact rfl); (case kD_17 => decide +kernel); (case c2_17 => exact rfl); (case c3_17 => exact rfl); (case c4_17 => exact rfl); k_whole))
  intro g' L' h' tk' cells' FG' F' N' Y' B' X' T' l1 kG'
  k_cells Y'
  have hl : g'.IsList l vs.toArray := lift_ro kG' hro (l, vs) (.head _)
  have hle : g'.IsList le ws.toArray := lift_ro kG' hro (le, ws) (.tail _ (.head _))
  clear hro
  (try simp only [List.cons_append, List.nil_append] at N')
  dsimp only
  k_unmd
  k_fold
  k_steps
  (refine unhold ?_; k_dflt (refine' Fun.use0 (sums_fun _ ?i_15 ?n_15) ?B_15 ?F_15 ?X_15 ?T_15 ?hk_15 ?N_15 ?ro_15 ?d_15 ?u_15 ?_; (case B_15 => k_asm); (case F_15 => k_asm); (case X_15 => k_asm); (case T_15 => k_asm); (case hk_15 => exact rfl); (case N_15 => k_asm); (case ro_15 => exact List.forall_mem_cons.mpr ⟨by is_list, fun _ h => nomatch h⟩); (case i_15 => assumption); (case n_15 => omega); (case d_15 => ktr_room); (case u_15 => ktr_units); k_whole); refine fun r_15 out_15 h_15 tk_15 F_15 N_15 ap_15 post_15 => ?_; obtain ⟨D_15, us_15, n_15, e1_15, e2_15, hI_15⟩ := post_15; subst e1_15; subst e2_15; simp only [List.cons_append, List.nil_append] at N_15; (try simp only [Apart, AllNe, and_true] at ap_15))
  k_steps
  rename News _ _ _ _ => Nl
  rename Fr _ _ _ _ => Fl
  rename IsRange _ _ _ _ _ _ _ _ => hR
  refine unhold (loop_range (n := E.length - 1)
    (fun i m₁ nx => ∃ (D DS : Addr) (us ss : List Value) (c cS : Nat) (o6 o5 o4 o3 o2 o1 : Obj) (x5 x6 : Option Value),
      Names m₁ [(Str.ofString "ends", .ref le)] ∧ nx = [(D, listOf us.toArray c), (DS, listOf ss.toArray cS), (L' + 1 + 1 + 1 + 1 + 1 + 1, o6), (L' + 1 + 1 + 1 + 1 + 1, o5), (L' + 1 + 1 + 1 + 1, o4), (L' + 1 + 1 + 1, o3), (L' + 1 + 1, o2), (L' + 1, o1)] ∧
      o6.data = .cell x6 ∧ o5.data = .cell x5 ∧ o4.data = .cell (some (.ref D)) ∧ o3.data = .cell (some (.ref DS)) ∧ o2.data = .cell (some (.int (sp : Int) st)) ∧ o1.data = .cell (some (.ref l)) ∧
      IntsAre us (natInts (evs ns sp E i)) ∧ IntsAre ss (psums ns) ∧ HoldP (@Ne Nat (L' + 1 + 1 + 1 + 1 + 1 + 1) DS) ∧ HoldP (@Ne Nat (L' + 1 + 1 + 1 + 1 + 1) DS) ∧ (@LT.lt Nat _ DS D ∧ @LT.lt Nat _ (L' + 1 + 1 + 1 + 1 + 1 + 1) D))
    rfl hR (small_one (by omega) (by omega) (by omega) (by omega)) (by rw [rangeSize_nat]; congr 1; omega) Fl (news_sub Nl (fun p hp => .tail _ hp)) ?_ ?_ ?_)
  · exact ⟨_, _, _, _, _, _, _, _, _, _, _, _, _, _, ⟨rfl, trivial⟩, rfl, by assumption, by assumption, by assumption, by assumption, by assumption, by assumption, by assumption, by assumption, (holdIt (by k_ne)), (holdIt (by k_ne)), by omega, by omega⟩
  · clear Fl Nl
    rintro i t m₁ news₁ h tk I oI Qt s₁ hin ⟨D, DS, us, ss, c, cS, o6, o5, o4, o3, o2, o1, x5, x6, nm, rfl, d6, d5, d4, d3, d2, d1, hus, hss, ne6, ne5, hap⟩ ane F₁ N₁ te
    obtain ⟨q, hq⟩ : ∃ q, E.length = q + 2 + i := ⟨E.length - 2 - i, by omega⟩
    rw [show 1 + (i : Int) * 1 = ((i + 1 : Nat) : Int) by omega] at F₁
    have F₂ := nm.fr2 F₁
    clear F₁
    simp only [AllNe, and_true] at ane
    have el := evs_length ns sp E i
    have gb := G.behind (show i + 1 < E.length by omega) hsp
    have gl := G.lt q (by omega)
    rw [show E.length - 1 - i = q + 1 by omega, show E.length - 2 - i = q by omega] at gb
    have hnext : evs ns sp E (i + 1) = (evs ns sp E i).set q (settle ns sp (firstOf sp E q) ((evs ns sp E i).getD (q + 1) 0) (E.getD q 0)) := by
      rw [evs, show E.length - 1 - i = q + 1 by omega, show E.length - 2 - i = q by omega]
    have hul : us.length ≤ 1000 := by rw [hus.length, natInts_length]; omega
    have nl : (natInts E).length = q + 2 + i := by rw [natInts_length, hq]
    have nl2 : (natInts (evs ns sp E i)).length = q + 2 + i := by rw [natInts_length, el, hq]
    have ff : firstOf sp E q = if q = 0 then 0 else E.getD (q - 1) 0 + sp := rfl
    generalize hbh : (evs ns sp E i).getD (q + 1) 0 = bh at *
    generalize hcur : E.getD q 0 = cur0 at *
    generalize hfi : firstOf sp E q = first at *
    generalize hpr : E.getD (q - 1) 0 = pr at *
    have hA : (natInts E).getD (((natInts E).length : Int) - 1 - ((i + 1 : Nat) : Int) - 1).toNat 0 = (pr : Int) := by rw [nl, show (((q + 2 + i : Nat) : Int) - 1 - ((i + 1 : Nat) : Int) - 1).toNat = q - 1 by omega, natInts_getD, hpr]
    have hB : (natInts E).getD (((natInts E).length : Int) - 1 - ((i + 1 : Nat) : Int)).toNat 0 = (cur0 : Int) := by rw [nl, show (((q + 2 + i : Nat) : Int) - 1 - ((i + 1 : Nat) : Int)).toNat = q by omega, natInts_getD, hcur]
    have hC : (natInts (evs ns sp E i)).getD (((natInts E).length : Int) - 1 - ((i + 1 : Nat) : Int) + 1).toNat 0 = (bh : Int) := by rw [nl, show (((q + 2 + i : Nat) : Int) - 1 - ((i + 1 : Nat) : Int) + 1).toNat = q + 1 by omega, natInts_getD, hbh]
    have hq2 : q + 2 + i ≤ 901 := by omega
    have i6 : HoldP (@Ne Nat (L' + 1 + 1 + 1 + 1 + 1 + 1) I) := holdIt (by k_ne)
    have i5 : HoldP (@Ne Nat (L' + 1 + 1 + 1 + 1 + 1) I) := holdIt (by k_ne)
    have iD : HoldP (@Ne Nat D I) := holdIt (by k_ne)
    replace ane := holdIt ane
    replace el := holdIt el
    replace hbh := holdIt hbh
    replace hcur := holdIt hcur
    replace hfi := holdIt hfi
    replace hpr := holdIt hpr
    replace hnext := holdIt hnext
    replace hin := holdIt hin
    replace hG := holdIt hG
    replace hGp := holdIt hGp
    replace hElen := holdIt hElen
    replace hq := holdIt hq
    replace hA := holdIt hA
    replace hB := holdIt hB
    replace hC := holdIt hC
    replace ff := holdIt ff
    k_steps
    refine unhold (eval_int_through (fun x => x = (first : Int)) ?tfirst ?rest)
    case tfirst =>
      refine wpAny_IfExp ?_
      k_steps
      all_goals first
        | (have hq0 : q = 0 := (by omega); have ff := unholdIt ff; rw [if_pos hq0] at ff; exact unholdP ⟨_, _, _, rfl, rfl, by omega⟩)
        | (have hq0 : ¬ q = 0 := (by omega); have ff := unholdIt ff; rw [if_neg hq0] at ff; exact unholdP ⟨_, _, _, rfl, rfl, by omega⟩)
    case rest =>
      rintro _ tf tk rfl
      clear ff
      k_steps
      rename Fr _ _ _ _ => Fl
      rename News _ _ _ _ => Nl
      refine unholdP (comp_pick (n := cur0 - first) (fun e => staysB ns sp first e.toNat bh) rfl Fl Nl (Nl _ (.head _)).1 (small_one (by omega) (by omega) (by omega) (by omega)) (by rw [rangeSize_nat]; congr 1; omega) (by omega) ?_ ?_)
      · clear Fl Nl
        intro k t I oI C oC D' m₂ ys h₂ tk₂ Qt₂ Qf E' hk1 hk2 hC₁ hx F₁ N₁ off ne yes no
        clear off ne
        k_steps
        (refine unhold ?_; k_dflt (refine' Fun.use0 (stays_funI _ (f := first) (e := k.toNat) (bh := bh) hi hss hlen hsp rfl ?g1_16 ?g2_16 ?g3_16 ?g4_16 ?g5_16 ?g6_16) ?B_16 ?F_16 ?X_16 ?T_16 ?hk_16 ?N_16 ?ro_16 ?d_16 ?u_16 ?_; (case B_16 => k_asm); (case F_16 => k_asm); (case X_16 => k_asm); (case T_16 => k_asm); (case hk_16 => exact rfl); (case N_16 => k_asm); (case ro_16 => exact List.forall_mem_cons.mpr ⟨by (try dsimp only); is_list, List.forall_mem_cons.mpr ⟨by (try dsimp only); is_list, fun _ h => nomatch h⟩⟩); (case g1_16 => omega); (case g2_16 => omega); (case g3_16 => omega); (case g4_16 => omega); (case g5_16 => omega); (case g6_16 => omega); (case d_16 => ktr_room); (case u_16 => ktr_units); k_whole); refine fun r_16 out_16 h_16 tk_16 F_16 N_16 ap_16 post_16 => ?_; obtain ⟨e1_16, e2_16⟩ := post_16; subst e1_16; subst e2_16; simp only [List.nil_append] at N_16; clear ap_16)
        cases hsb : staysB ns sp first k.toNat bh with
        | true =>
          k_steps
          exact yes hsb _ _ _ _ (by k_asm) (by k_asm) (fun _ h => h)
        | false =>
          k_steps
          exact no hsb _ _ _ (by k_asm) (by k_asm) (fun _ h => h)
      · clear Fl Nl
        rintro ys s' ⟨hh, rfl⟩ hys D' h₂ tk₂ F₁ N₁ off1
        simp only [LCg.Off1, and_true] at off1
        have hpo := settle_some (ns := ns) (sp := sp) (bh := bh) gl.1 (a := (first : Int) + 1) (n := cur0 - first) (by omega) rfl
        have hmx := fun M => settle_is_max (ns := ns) (sp := sp) (bh := bh) gl.1 (M := M) (a := (first : Int) + 1) (n := cur0 - first) (by omega) rfl
        generalize (rangeKs ((first : Int) + 1) (cur0 - first)).filter (fun e => staysB ns sp first e.toNat bh) = ks at *
        have iD' : HoldP (@Ne Nat D D') := holdIt (by k_ne)
        replace off1 := holdIt off1
        k_steps
        rename _ ∈ ks => hM
        rename ∀ _, _ ∈ ks → _ => hle
        have hMe := hmx _ hM hle
        rename IntsAre _ (List.set _ _ _) => hU
        rw [store_at (q := q) (by omega) hMe, ← unholdIt hnext] at hU
        exact te.next _ [(D, listOf _ _), (DS, listOf _ _), (_, _), (_, _), (_, o4), (_, o3), (_, o2), (_, o1)] _ _ _ (by k_asm) (by k_asm) (by k_mem) (fun p hp => .tail _ (.tail _ (.tail _ hp))) (by simp only [AllNe, and_true]; exact unholdIt ane)
          ⟨D, DS, _, ss, _, cS, _, _, o4, o3, o2, o1, _, _, ⟨rfl, trivial⟩, rfl, by assumption, by assumption, d4, d3, d2, d1, hU, hss, ne6, ne5, hap⟩
  · clear Fl Nl
    rintro m₁ news₁ h tk ⟨D, DS, us, ss, c, cS, o6, o5, o4, o3, o2, o1, x5, x6, nm, rfl, d6, d5, d4, d3, d2, d1, hus, hss, ne6, ne5, hap⟩ F₁ N₁
    have F₂ := nm.fr F₁
    clear F₁
    k_steps
    exact ret _ [(_, listOf _ _)] _ _ (back_of kG' (by k_asm) (by k_asm) (by k_asm) (by k_asm) (fun p hp => by rw [List.mem_singleton.mp hp]; k_mem)) ⟨_, _, _, rfl, rfl, hus⟩
end
end

section
theorem fresh_Law : True := by
  w_top off
  exact trivial
def GoodF (ns : List Int) (room : Int) (step : Nat) : Nat → List Nat → Prop
  | _, [] => False
  | start, [e] => e = ns.length ∧ start ≤ ns.length ∧ ssum ns e - ssum ns start ≤ room
  | start, e :: e' :: l => start < e ∧ e < ns.length ∧ e = start + fit (ns.drop start) room ∧ ssum ns e - ssum ns start ≤ room ∧ GoodF ns room step (e + step) (e' :: l)
theorem fit_sum {ns : List Int} {room : Int} {start k : Nat} (hpos : ∀ c ∈ ns, 1 ≤ c) (hr : 0 ≤ room) (hk : k = fit (ns.drop start) room) : ssum ns (start + k) - ssum ns start ≤ room := by
  have e := sum_take_drop ns start k
  by_cases h0 : k = 0
  · subst h0; unfold ssum at *; simp at *; omega
  · have hl := fit_le (ns.drop start) room
    have := (fit_spec (ns.drop start) room k (fun c hc => hpos c (List.mem_of_mem_drop hc)) (by omega) (by omega)).mpr (by omega)
    unfold ssum
    omega
theorem goodF_of {ns : List Int} {room : Int} {step : Nat} (hpos : ∀ c ∈ ns, 1 ≤ c) (hr : 0 ≤ room) (hs : step ≤ 1) : ∀ (fuel start : Nat) (l : List Nat), start ≤ ns.length → pagesF ns room step fuel start = some l → GoodF ns room step start l
  | 0, _, _, _, h => nomatch h
  | fuel + 1, start, l, hst, h => by
    rw [pagesF_succ ns room step fuel start _ rfl] at h
    have hfl := fit_le (ns.drop start) room
    rw [List.length_drop] at hfl
    have hsum := fit_sum (ns := ns) (room := room) (start := start) hpos hr rfl
    generalize hk : fit (ns.drop start) room = k at *
    split at h
    · cases h
    · rename_i h1
      split at h
      · rename_i h2
        cases h
        refine ⟨rfl, hst, ?_⟩
        rw [show ns.length = start + k by omega]
        exact hsum
      · rename_i h2
        split at h
        · rename_i h3
          cases h
          refine ⟨by omega, by omega, by rw [hk], hsum, rfl, by omega, ?_⟩
          rw [show start + k + step = ns.length by omega]
          omega
        · rename_i h3
          cases hp : pagesF ns room step fuel (start + k + step) with
          | none => rw [hp] at h; cases h
          | some l' =>
            rw [hp] at h
            cases h
            have ih := goodF_of hpos hr hs fuel (start + k + step) l' (by omega) hp
            cases l' with
            | nil => exact ih.elim
            | cons e' l' => exact ⟨by omega, by omega, by rw [hk], hsum, ih⟩
/-- where the page starts, counted from a first one -/
def fromOf (step start : Nat) (l : List Nat) (j : Nat) : Nat := if j = 0 then start else l.getD (j - 1) 0 + step
theorem goodF_at {ns : List Int} {room : Int} {step : Nat} : ∀ (l : List Nat) (start : Nat), GoodF ns room step start l →
    0 < l.length ∧ l.getD (l.length - 1) 0 = ns.length ∧ l.length + start ≤ ns.length + 1 ∧ ∀ j, j < l.length → fromOf step start l j ≤ ns.length ∧ ssum ns (l.getD j 0) - ssum ns (fromOf step start l j) ≤ room ∧
      (j + 1 < l.length → fromOf step start l j < l.getD j 0 ∧ l.getD j 0 < ns.length ∧ l.getD j 0 = fromOf step start l j + fit (ns.drop (fromOf step start l j)) room)
  | [], _, h => h.elim
  | [e], start, h => by
    obtain ⟨rfl, h2, h3⟩ := h
    refine ⟨Nat.one_pos, rfl, by simp; omega, fun j hj => ?_⟩
    have : j = 0 := by simpa using hj
    subst this
    exact ⟨h2, h3, fun h => by simp at h⟩
  | e :: e' :: l, start, h => by
    obtain ⟨h1, h2, h3, h4, h5⟩ := h
    obtain ⟨i1, i2, i3, i4⟩ := goodF_at (e' :: l) (e + step) h5
    refine ⟨Nat.succ_pos _, ?_, by simp only [List.length_cons] at *; omega, fun j hj => ?_⟩
    · rw [show (e :: e' :: l).length - 1 = (e' :: l).length - 1 + 1 by simp, List.getD_cons_succ]
      exact i2
    · cases j with
      | zero => exact ⟨by unfold fromOf; rw [if_pos rfl]; omega, h4, fun _ => ⟨h1, h2, h3⟩⟩
      | succ j =>
        have z := i4 j (by simpa using hj)
        have e1 : fromOf step start (e :: e' :: l) (j + 1) = fromOf step (e + step) (e' :: l) j := by
          unfold fromOf
          rw [if_neg (by omega), Nat.add_sub_cancel]
          cases j with
          | zero => rw [if_pos rfl]; rfl
          | succ j => rw [if_neg (by omega), Nat.add_sub_cancel]; rfl
        rw [e1, List.getD_cons_succ]
        exact ⟨z.1, z.2.1, fun h => z.2.2 (by simpa using h)⟩
structure Paged (ns : List Int) (room : Int) (step : Nat) (E : List Nat) : Prop extends Good ns step E where
  sum : ∀ j, j < E.length → ssum ns (E.getD j 0) - ssum ns (firstOf step E j) ≤ room
  full : ∀ j, j + 1 < E.length → E.getD j 0 = firstOf step E j + fit (ns.drop (firstOf step E j)) room
theorem paged_of {ns : List Int} {room : Int} {step : Nat} {E : List Nat} (hpos : ∀ c ∈ ns, 1 ≤ c) (hr : 0 ≤ room) (hs : step ≤ 1) (h : pages ns room step = some E) : Paged ns room step E := by
  obtain ⟨a, b, c, d⟩ := goodF_at E 0 (goodF_of hpos hr hs _ 0 E (Nat.zero_le _) h)
  exact { pos := a, last := b, lt := fun j hj => ⟨((d j (by omega)).2.2 hj).1, ((d j (by omega)).2.2 hj).2.1⟩, lastLe := (d (E.length - 1) (by omega)).1, len := c, sum := fun j hj => (d j hj).2.1, full := fun j hj => ((d j (by omega)).2.2 hj).2.2 }
theorem ssum_mono {ns : List Int} (hpos : ∀ c ∈ ns, 1 ≤ c) {i j : Nat} (h : i ≤ j) : ssum ns i ≤ ssum ns j := by
  have e := sum_take_drop ns i (j - i)
  have := sum_nonneg' (ns.drop i) (j - i) fun c hc => hpos c (List.mem_of_mem_drop hc)
  rw [show i + (j - i) = j by omega] at e
  unfold ssum
  omega
theorem cell_le {ns : List Int} {x : Int} (h : ∀ c ∈ ns, c ≤ x) {i : Nat} (hi : i < ns.length) : ns.getD i 0 ≤ x := by
  rw [List.getD_eq_getElem?_getD, List.getElem?_eq_getElem hi]
  exact h _ (List.getElem_mem _)
theorem evened_length (ns : List Int) (step : Nat) (E : List Nat) : (evenedOf ns step E).length = E.length := evs_length ns step E _
/-- what the law asks of each page at last -/
theorem evened_right {ns : List Int} {room : Int} {step : Nat} {E : List Nat} (hpos : ∀ c ∈ ns, 1 ≤ c) (hle : ∀ c ∈ ns, c ≤ room) (hr : 0 ≤ room) (hs : step ≤ 1) (P : Paged ns room step E) {j : Nat} (hj : j < E.length) :
    firstOf step (evenedOf ns step E) j ≤ (evenedOf ns step E).getD j 0 ∧ (evenedOf ns step E).getD j 0 ≤ ns.length ∧ ssum ns ((evenedOf ns step E).getD j 0) - ssum ns (firstOf step (evenedOf ns step E) j) ≤ room ∧
      ((∀ c ∈ ns, 2 * c ≤ room) → ns ≠ [] → firstOf step (evenedOf ns step E) j < (evenedOf ns step E).getD j 0) := by
  have hset : ∀ i, i + 1 < E.length → firstOf step E i < (evenedOf ns step E).getD i 0 ∧ (evenedOf ns step E).getD i 0 ≤ E.getD i 0 := fun i hi => by
    rw [evened_get ns step E hi]
    have z := settle_bounds ns step (firstOf step E i) ((evenedOf ns step E).getD (i + 1) 0) (E.getD i 0) (P.lt i hi).1
    exact ⟨z.1, z.2.1⟩
  have hlast := evened_last ns step E P.pos
  have hR : ∀ i, i < E.length → (evenedOf ns step E).getD i 0 ≤ E.getD i 0 := fun i hi => by
    by_cases h : i + 1 < E.length
    · exact (hset i h).2
    · rw [show i = E.length - 1 by omega, hlast]; exact Nat.le_refl _
  have hF : firstOf step (evenedOf ns step E) j ≤ firstOf step E j := by
    unfold firstOf
    split
    · exact Nat.le_refl _
    · have := hR (j - 1) (by omega); omega
  have hn := P.le hj
  have hj2 := hR j hj
  have hlo : firstOf step E j ≤ (evenedOf ns step E).getD j 0 := by
    by_cases h : j + 1 < E.length
    · exact Nat.le_of_lt (hset j h).1
    · have a := P.lastLe
      have b := P.last
      rw [show j = E.length - 1 by omega, hlast, b]
      exact a
  refine ⟨by omega, by omega, ?_, ?_⟩
  · by_cases h0 : j = 0
    · have a := P.sum j hj
      have b := ssum_mono hpos hj2
      have c : firstOf step (evenedOf ns step E) j = firstOf step E j := by unfold firstOf; rw [if_pos h0, if_pos h0]
      rw [c]
      omega
    · obtain ⟨i, rfl⟩ : ∃ i, j = i + 1 := ⟨j - 1, by omega⟩
      have f1 := firstOf_succ step (evenedOf ns step E) (i + 1) (by omega)
      have f2 := firstOf_succ step E (i + 1) (by omega)
      rw [Nat.add_sub_cancel] at f1 f2
      have hi := hset i hj
      have hlt := P.lt i hj
      have hsum := P.sum i (by omega)
      have hg := evened_get ns step E hj
      have hmax := settle_max ns step (firstOf step E i) ((evenedOf ns step E).getD (i + 1) 0) (E.getD i 0) ((evenedOf ns step E).getD i 0 + 1) (by omega)
      rw [← hg] at hmax
      clear hg
      have hsumj := P.sum (i + 1) hj
      have hmono := ssum_mono hpos hj2
      rw [f1]
      by_cases he : (evenedOf ns step E).getD i 0 = E.getD i 0
      · rw [he, ← f2]; omega
      · have hfalse : staysB ns step (firstOf step E i) ((evenedOf ns step E).getD i 0 + 1) ((evenedOf ns step E).getD (i + 1) 0) = false := by
          cases hc : staysB ns step (firstOf step E i) ((evenedOf ns step E).getD i 0 + 1) ((evenedOf ns step E).getD (i + 1) 0) with
          | false => rfl
          | true => have := hmax (by omega) hc; omega
        generalize (evenedOf ns step E).getD i 0 = e at *
        generalize (evenedOf ns step E).getD (i + 1) 0 = bh at *
        generalize firstOf step E i = f at *
        generalize E.getD i 0 = E0 at *
        have hcell := ssum_succ ns (e := e + step) (by omega)
        have hcl := cell_le hle (i := e + step) (by omega)
        unfold staysB at hfalse
        rw [Bool.or_eq_false_iff] at hfalse
        by_cases hb : bh ≤ e + 1 + step
        · by_cases hb2 : bh = e + step
          · rw [hb2]; omega
          · rw [show bh = e + step + 1 by omega]; omega
        · have hq := hfalse.2
          rw [decide_eq_false hb] at hq
          simp only [Bool.not_false, Bool.true_and, decide_eq_false_iff_not, Nat.add_sub_cancel] at hq
          rw [show e + 1 + step = e + step + 1 by omega] at hq
          have hm2 := ssum_mono hpos hi.2
          omega
  · intro h2 hne
    by_cases h : j + 1 < E.length
    · have := (hset j h).1; omega
    · have hjl : j = E.length - 1 := by omega
      have hRn : (evenedOf ns step E).getD j 0 = ns.length := by rw [hjl, hlast, P.last]
      have hnl : 0 < ns.length := List.length_pos_iff.mpr hne
      by_cases h0 : j = 0
      · have c : firstOf step (evenedOf ns step E) j = 0 := by unfold firstOf; rw [if_pos h0]
        omega
      · obtain ⟨i, rfl⟩ : ∃ i, j = i + 1 := ⟨j - 1, by omega⟩
        have f1 := firstOf_succ step (evenedOf ns step E) (i + 1) (by omega)
        rw [Nat.add_sub_cancel] at f1
        have hi := hset i hj
        have hlt := P.lt i hj
        have hg := evened_get ns step E hj
        have hb := settle_bounds ns step (firstOf step E i) ((evenedOf ns step E).getD (i + 1) 0) (E.getD i 0) hlt.1
        have hfull := P.full i hj
        rw [← hg] at hb
        clear hg
        rw [f1, hRn]
        rw [hRn] at hb
        refine Classical.byContradiction fun hcon => ?_
        have hs1 : step = 1 := by omega
        have hst := hb.2.2
        unfold staysB at hst
        rw [decide_eq_true (show ns.length ≤ (evenedOf ns step E).getD i 0 + step by omega)] at hst
        simp only [Bool.not_true, Bool.false_and, Bool.or_false, decide_eq_true_eq] at hst
        have hfit := (fit_spec (ns.drop (firstOf step E i)) room 2 (fun c hc => hpos c (List.mem_of_mem_drop hc)) (by omega) (by rw [List.length_drop]; omega)).mp (by
          rw [sum_take_drop]
          have a1 := ssum_succ ns (e := firstOf step E i) (by omega)
          have a2 := ssum_succ ns (e := firstOf step E i + 1) (by omega)
          have b1 := cell_le (x := room / 2) (fun c hc => by have := h2 c hc; omega) (i := firstOf step E i) (by omega)
          have b2 := cell_le (x := room / 2) (fun c hc => by have := h2 c hc; omega) (i := firstOf step E i + 1) (by omega)
          rw [show firstOf step E i + 1 + 1 = firstOf step E i + 2 from rfl] at a2
          unfold ssum at a1 a2
          omega)
        omega
theorem starts_eq (b : Bool) (E : List Nat) (h : 0 < E.length) (st : Int) (hst : st = if b = true then 1 else 0) {n : Nat} (hn : n = E.length - 1) :
    startsOf b (natInts E) = [0] ++ (rangeKs 0 n).map fun k => (natInts E).getD k.toNat 0 + st := by
  subst hst hn
  apply List.ext_getElem
  · rw [startsOf_length b _ (by rw [natInts_length]; exact h), natInts_length, List.length_append, List.length_map, rangeKs_length]; simp; omega
  · intro i h1 h2
    rw [startsOf_length b _ (by rw [natInts_length]; exact h), natInts_length] at h1
    have e := startsOf_getD b E h1
    rw [List.getD_eq_getElem?_getD, List.getElem?_eq_getElem (by rw [startsOf_length b _ (by rw [natInts_length]; exact h), natInts_length]; exact h1)] at e
    simp only [Option.getD_some] at e
    rw [e]
    cases i with
    | zero => rfl
    | succ i =>
      rw [firstOf_succ _ _ _ (by omega), Nat.add_sub_cancel]
      simp only [List.singleton_append, List.getElem_cons_succ, List.getElem_map, rangeKs, List.getElem_range]
      rw [show ((0 : Int) + (i : Int)).toNat = i by omega, natInts_getD]
      unfold stepN
      split <;> omega
end

section
theorem fresh_Right : True := by
  w_top off
  exact trivial
section
theorem one_rooms (w : World) {d l : Addr} {n : Nat} {S0 S1 : Int} {t0 t1 ta tb tc td te : Tok} :
    Fun w 86 2 [.ref d, .ref l] [(l, [.int 2 ta, .int 6 tb, .int 7 tc, .int 12 td, .int 30 te])] [(d, listOf #[.int S0 t0, .int S1 t1] n)]
      (fun v out => ∃ (x S0' S1' : Int) (t t0' t1' : Tok) (n' : Nat), v = .int x t ∧ out = [(d, listOf #[.int S0' t0', .int S1' t1'] n')] ∧ x ∈ [2, 6, 7, 12, 30]) :=
  one_fun w (ns := [2, 6, 7, 12, 30]) (.cons _ _ (.cons _ _ (.cons _ _ (.cons _ _ (.cons _ _ .nil))))) (by decide) (by decide)
theorem rooms_le {x : Int} (h : x ∈ [2, 6, 7, 12, 30]) : 2 ≤ x ∧ x ≤ 30 := by
  simp only [List.mem_cons, List.not_mem_nil, or_false] at h
  omega
theorem news_d2 {h₀ h : Heap} {L : Addr} {p q : Addr × Obj} {r : List (Addr × Obj)} (N : News h₀ L h (p :: q :: r)) : News h₀ L h (p :: r) := fun x hx => N x (by
  rcases List.mem_cons.mp hx with rfl | hx
  · exact .head _
  · exact .tail _ (.tail _ hx))
theorem stepN_int {b : Bool} : (if b = true then (1 : Int) else 0) = ((stepN b : Nat) : Int) := by cases b <;> rfl
local macro_rules | `(tactic| walk_at "eval IfExp") => `(tactic| refine hold ?_)
local macro_rules | `(tactic| walk_at "call ref") => `(tactic| refine hold ?_)
theorem right_fun (w : World) {d : Addr} {n : Nat} {S0 S1 : Int} {t0 t1 : Tok} :
    FunT w 122 5 [.ref d] [] [(d, listOf #[.int S0 t0, .int S1 t1] n)] (fun v out => v = .bool true ∧ out = []) := by
  intro mean mg mb dp un gd cn cs a ccd cl outer A₀ base h₀ L m s Q E B F X T XB TB hk hro N hd hu ret
  (refine wpAny_call ?_; k_dflt (refine' cells_turn ?k1_29 ?k2_29 ?k3_29 ?k4_29 ?k5_29 ?b1_29 ?b2_29 ?kA_29 ?kF_29 ?kK_29 ?k6_29 ?k7_29 ?k8_29 ?k9_29 ?kB_29 ?kD_29 ?_ ?c2_29 ?c3_29 ?c4_29; (case kA_29 => exact rfl); (case kF_29 => exact rfl); (case kK_29 => assumption); (case k1_29 => k_asm); (case k2_29 => k_asm); (case k3_29 => k_asm); (case k4_29 => k_asm); (case k5_29 => k_asm); (case b1_29 => k_asm); (case b2_29 => k_asm); (case k6_29 => k_is); (case k7_29 => k_is); (case k8_29 => ktr_room); (case k9_29 => exact BindsTo.of_eq rfl); (case kB_29 => exact rfl); (case kD_29 => decide +kernel); (case c2_29 => exact rfl); (case c3_29 => exact rfl); (case c4_29 => exact rfl); k_whole))
  intro g' L' h' tk' cells' FG' F' N' Y' B' X' T' l1 kG'
  k_cells Y'
  clear hro
  have hdL : @LT.lt Nat _ d L' := l1 _ (.head _)
  (try simp only [List.cons_append, List.nil_append] at N')
  dsimp only
  k_unmd
  k_fold
  k_steps
  (refine unhold ?_; (rename News _ _ _ _ => NN); k_dflt (refine' Fun.useP (one_rooms _) ?B_18 ?F_18 ?X_18 ?T_18 ?hk_18 ?N_18 ?P_18 ?ro_18 ?d_18 ?u_18 ?_; (case B_18 => k_asm); (case F_18 => k_asm); (case X_18 => k_asm); (case T_18 => k_asm); (case hk_18 => exact rfl); (case N_18 => exact NN); (case P_18 => walk_at "pick"); (case ro_18 => exact List.forall_mem_cons.mpr ⟨⟨PySem.IsL.isList (NN _ (.head _)).1, by dsimp only; omega⟩, fun _ h => nomatch h⟩); (case d_18 => ktr_room); (case u_18 => ktr_units); k_whole); clear NN; refine fun r_18 out_18 hh_18 tkk_18 FF_18 NN_18 ap_18 post_18 => ?_; obtain ⟨room, S0_18, S1_18, t_18, t0_18, t1_18, n_18, e1_18, e2_18, hrm⟩ := post_18; subst e1_18; subst e2_18; simp only [List.cons_append, List.nil_append] at NN_18; (have hrm2 := rooms_le hrm); clear hrm ap_18)
  k_steps
  (refine unhold ?_; k_dflt (refine' Fun.useP (take_fun _ ?p_19 ?q_19) ?B_19 ?F_19 ?X_19 ?T_19 ?hk_19 ?N_19 ?P_19 ?ro_19 ?d_19 ?u_19 ?_; (case B_19 => k_asm); (case F_19 => k_asm); (case X_19 => k_asm); (case T_19 => k_asm); (case hk_19 => exact rfl); (case N_19 => k_asm); (case P_19 => walk_at "pick"); (case ro_19 => exact (fun _ h => nomatch h)); (case p_19 => omega); (case q_19 => omega); (case d_19 => ktr_room); (case u_19 => ktr_units); k_whole); refine fun r_19 out_19 hh_19 tkk_19 FF_19 NN_19 ap_19 post_19 => ?_; obtain ⟨bv, S0_19, S1_19, t_19, t0_19, t1_19, n_19, e1_19, e2_19, hbv1, hbv2⟩ := post_19; subst e1_19; subst e2_19; simp only [List.cons_append, List.nil_append] at NN_19; clear ap_19)
  k_steps
  (refine unhold ?_; k_dflt (refine' Fun.useP (take_fun _ ?p_20 ?q_20) ?B_20 ?F_20 ?X_20 ?T_20 ?hk_20 ?N_20 ?P_20 ?ro_20 ?d_20 ?u_20 ?_; (case B_20 => k_asm); (case F_20 => k_asm); (case X_20 => k_asm); (case T_20 => k_asm); (case hk_20 => exact rfl); (case N_20 => k_asm); (case P_20 => walk_at "pick"); (case ro_20 => exact (fun _ h => nomatch h)); (case p_20 => omega); (case q_20 => omega); (case d_20 => ktr_room); (case u_20 => ktr_units); k_whole); refine fun r_20 out_20 hh_20 tkk_20 FF_20 NN_20 ap_20 post_20 => ?_; obtain ⟨wv, S0_20, S1_20, t_20, t0_20, t1_20, n_20, e1_20, e2_20, hwv1, hwv2⟩ := post_20; subst e1_20; subst e2_20; simp only [List.cons_append, List.nil_append] at NN_20; clear ap_20)
  k_steps
  refine unhold (eval_int_through (fun tv => (1 ≤ tv ∧ tv ≤ 31) ∧ (wv ≠ 0 → tv ≤ room) ∧ (4 ≤ wv → 2 * tv ≤ room)) ?top ?rest)
  case top =>
    have hfd : room.fdiv 2 = room / 2 := Int.fdiv_eq_ediv_of_nonneg room (by omega)
    refine wpAny_IfExp ?_
    k_steps
    · exact unholdP ⟨_, _, _, rfl, rfl, ⟨by omega, by omega⟩, fun h => by omega, fun h => by omega⟩
    · refine unhold (wpAny_IfExp ?_)
      k_steps
      all_goals exact unholdP ⟨_, _, _, rfl, rfl, ⟨by omega, by omega⟩, fun h => by omega, fun h => by omega⟩
  case rest =>
    rintro tv tt tk ⟨htv2, htv3, htv4⟩
    replace htv3 := holdIt htv3
    replace htv4 := holdIt htv4
    k_steps
    (refine unhold ?_; k_dflt (refine' Fun.useP (take_fun _ ?p_21 ?q_21) ?B_21 ?F_21 ?X_21 ?T_21 ?hk_21 ?N_21 ?P_21 ?ro_21 ?d_21 ?u_21 ?_; (case B_21 => k_asm); (case F_21 => k_asm); (case X_21 => k_asm); (case T_21 => k_asm); (case hk_21 => exact rfl); (case N_21 => k_asm); (case P_21 => walk_at "pick"); (case ro_21 => exact (fun _ h => nomatch h)); (case p_21 => omega); (case q_21 => omega); (case d_21 => ktr_room); (case u_21 => ktr_units); k_whole); refine fun r_21 out_21 hh_21 tkk_21 FF_21 NN_21 ap_21 post_21 => ?_; obtain ⟨cv, S0_21, S1_21, t_21, t0_21, t1_21, n_21, e1_21, e2_21, hcv1, hcv2⟩ := post_21; subst e1_21; subst e2_21; simp only [List.cons_append, List.nil_append] at NN_21; clear ap_21)
    k_steps
    rename News _ _ _ _ => Nl
    rename Fr _ _ _ _ => Fl
    rename IsRange _ _ _ _ _ _ _ _ => hR
    refine unholdP (comp_source (n := cv.toNat) (fun y => 1 ≤ y ∧ y ≤ tv) rfl Fl (news_d2 (news_d2 (news_d2 Nl))) hR (small_one (by omega) (by omega) (by omega) (by omega)) (by rw [rangeSize_nat]; congr 1; omega) (by omega) ?_ ?_)
    · clear Nl Fl
      intro S0 S1 t0 t1 nn k t I oI C oC D m₂ ys h tk Qt E' hC hx F₁ N₁ off ne yes
      simp only [LCg.Off3, and_true] at off
      have od1 := holdIt off.1.1
      have od2 := holdIt off.1.2.1
      have od3 := holdIt off.1.2.2
      clear off ne
      k_steps
      (refine unhold ?_; k_dflt (refine' Fun.useP (take_fun _ ?p_22 ?q_22) ?B_22 ?F_22 ?X_22 ?T_22 ?hk_22 ?N_22 ?P_22 ?ro_22 ?d_22 ?u_22 ?_; (case B_22 => k_asm); (case F_22 => k_asm); (case X_22 => k_asm); (case T_22 => k_asm); (case hk_22 => exact rfl); (case N_22 => k_asm); (case P_22 => walk_at "pick"); (case ro_22 => exact (fun _ h => nomatch h)); (case p_22 => omega); (case q_22 => omega); (case d_22 => ktr_room); (case u_22 => ktr_units); k_whole); refine fun r_22 out_22 hh_22 tkk_22 FF_22 NN_22 ap_22 post_22 => ?_; obtain ⟨xv, S0_22, S1_22, t_22, t0_22, t1_22, n_22, e1_22, e2_22, hx1, hx2⟩ := post_22; subst e1_22; subst e2_22; simp only [List.cons_append, List.nil_append] at NN_22; clear ap_22)
      k_steps
      exact yes _ _ _ _ _ _ _ _ _ _ (by k_asm) (by k_asm) (fun p hp => by
        rcases List.mem_cons.mp hp with rfl | hp
        · exact .tail _ (.head _)
        rcases List.mem_cons.mp hp with rfl | hp
        · exact .tail _ (.tail _ (.head _))
        rcases List.mem_cons.mp hp with rfl | hp
        · exact .tail _ (.tail _ (.tail _ (.head _)))
        rcases List.mem_cons.mp hp with rfl | hp
        · exact .head _
        exact .tail _ (.tail _ (.tail _ (.tail _ hp)))) ⟨by omega, by omega⟩
    · clear Nl Fl hR
      rintro costs ns s' S0 S1 t0 t1 nn ⟨hh, rfl⟩ hys hnl hG D h₂ tk₂ F₁ N₁ off1
      dsimp only
      simp only [LCg.Off1, and_true] at off1
      have oD : HoldP (@Ne Nat (L' + 1 + 1 + 1 + 1) D) := holdIt (by k_ne)
      clear off1
      generalize hbb : (bv == 0) = b at *
      have hlen : ns.length ≤ 10 := by omega
      have hlen9 : ns.length ≤ 900 := by omega
      have hpos : ∀ c ∈ ns, 1 ≤ c := fun c hc => (hG c hc).1
      replace hG := holdIt hG
      k_steps
      refine unhold ?_
      k_dflt (refine' FunT.use (told_fun w hys hlen9) _ B' F₁ X' T' XB TB rfl N₁ ?a1 (fun _ h => nomatch h) (fun p hp => ⟨hp, fun _ h => nomatch h⟩) ?a2 ?a3 ?a4)
      case a1 => exact List.forall_mem_cons.mpr ⟨⟨by (try dsimp only); is_list, fun _ h => nomatch h⟩, fun _ h => nomatch h⟩
      case a2 => ktr_room
      case a3 => ktr_units
      case a4 =>
        rintro r out h₃ tk₃ g₂ KT B₂ X₂ T₂ F₂ N₂ ap₂ (⟨hp, rfl, rfl⟩ | ⟨DT, us, nT, E, rfl, rfl, hp, hus⟩)
        · simp only [List.nil_append] at N₂
          clear N₁ F₁ B' X' T' ap₂
          k_steps
          (refine unhold ?_; k_dflt (refine' Fun.use0 (law_ends_none _ ?i_23 ?n_23 ?p_23 ?q_23) ?B_23 ?F_23 ?X_23 ?T_23 ?hk_23 ?N_23 ?ro_23 ?d_23 ?u_23 ?_; (case B_23 => k_asm); (case F_23 => k_asm); (case X_23 => k_asm); (case T_23 => k_asm); (case hk_23 => exact rfl); (case N_23 => k_asm); (case ro_23 => exact List.forall_mem_cons.mpr ⟨by (try dsimp only); is_list, fun _ h => nomatch h⟩); (case i_23 => assumption); (case n_23 => omega); (case p_23 => assumption); (case q_23 => assumption); (case d_23 => ktr_room); (case u_23 => ktr_units); k_whole); refine fun r_23 out_23 h_23 tk_23 F_23 N_23 ap_23 post_23 => ?_; obtain ⟨e1_23, e2_23⟩ := post_23; subst e1_23; subst e2_23; simp only [List.nil_append] at N_23; clear ap_23)
          k_steps
          (dsimp only; k_steps; (rename News _ _ _ _ => Ne); (rename Fr _ _ _ _ => Fe); refine ⟨g₂, L', _, _, KT, Fe, Ne, fun h₀' KT' kF kN kB kX kT => ?_⟩; exact ret _ [] _ _ h₀' KT' kB kX kT (backT_of kG' KT kF kN Fe Ne (fun _ h => nomatch h)) ⟨rfl, rfl⟩)
        · simp only [List.cons_append, List.nil_append] at N₂
          replace N₂ := news_erase 4 (news_erase 3 (news_erase 2 N₂))
          dsimp only [List.eraseIdx] at N₂
          clear N₁ F₁ B' X' T'
          simp only [Apart, AllNe, and_true] at ap₂
          have PG := paged_of hpos (show (0 : Int) ≤ room by omega) (by unfold stepN; split <;> omega) hp
          have GG := PG.toGood
          have hsp : stepN b ≤ 1 := by unfold stepN; split <;> omega
          have gl := GG.len
          have gp := GG.pos
          have hnl2 := natInts_length E
          k_steps
          (refine unhold ?_; k_dflt (refine' Fun.use0 (law_ends_some _ ?i_24 ?n_24 ?p_24 ?q_24) ?B_24 ?F_24 ?X_24 ?T_24 ?hk_24 ?N_24 ?ro_24 ?d_24 ?u_24 ?_; (case B_24 => k_asm); (case F_24 => k_asm); (case X_24 => k_asm); (case T_24 => k_asm); (case hk_24 => exact rfl); (case N_24 => k_asm); (case ro_24 => exact List.forall_mem_cons.mpr ⟨by (try dsimp only); is_list, fun _ h => nomatch h⟩); (case i_24 => assumption); (case n_24 => omega); (case p_24 => assumption); (case q_24 => assumption); (case d_24 => ktr_room); (case u_24 => ktr_units); k_whole); refine fun r_24 out_24 h_24 tk_24 F_24 N_24 ap_24 post_24 => ?_; obtain ⟨D_24, us_24, n_24, e1_24, e2_24, hI_24⟩ := post_24; subst e1_24; subst e2_24; simp only [List.cons_append, List.nil_append] at N_24; (try simp only [Apart, AllNe, and_true] at ap_24))
          k_steps
          all_goals (try (first | exact absurd rfl (by assumption) | (exfalso; omega) | (dsimp only; k_steps; (rename News _ _ _ _ => Ne); (rename Fr _ _ _ _ => Fe); refine ⟨g₂, L', _, _, KT, Fe, Ne, fun h₀' KT' kF kN kB kX kT => ?_⟩; exact ret _ [] _ _ h₀' KT' kB kX kT (backT_of kG' KT kF kN Fe Ne (fun _ h => nomatch h)) ⟨rfl, rfl⟩)))
          (rename News _ _ _ _ => NN; replace NN := news_erase 1 NN; dsimp only [List.eraseIdx] at NN)
          (refine unhold ?_; k_dflt (refine' Fun.use0 (starts_fun _ ?i_25 ?n_25) ?B_25 ?F_25 ?X_25 ?T_25 ?hk_25 ?N_25 ?ro_25 ?d_25 ?u_25 ?_; (case B_25 => k_asm); (case F_25 => k_asm); (case X_25 => k_asm); (case T_25 => k_asm); (case hk_25 => exact rfl); (case N_25 => k_asm); (case d_25 => ktr_room); (case u_25 => ktr_units); (case ro_25 => exact List.forall_mem_cons.mpr ⟨by (try dsimp only); is_list, fun _ h => nomatch h⟩); (case i_25 => assumption); (case n_25 => omega); k_whole); refine fun r_25 out_25 h_25 tk_25 F_25 N_25 ap_25 post_25 => ?_; obtain ⟨D_25, us_25, n_25, e1_25, e2_25, hI_25⟩ := post_25; subst e1_25; subst e2_25; simp only [List.cons_append, List.nil_append] at N_25; (try simp only [Apart, AllNe, and_true] at ap_25); (try replace ap_25 := holdIt ap_25))
          k_steps
          rename News _ _ _ _ => Nl
          rename Fr _ _ _ _ => Fl
          rename IsRange _ _ _ _ _ _ _ _ => hR
          refine unholdP (comp_range (n := E.length - 1) (fun k => (natInts E).getD k.toNat 0 + (if b = true then 1 else 0)) rfl Fl Nl hR (small_one (by omega) (by omega) (by omega) (by omega)) (by rw [rangeSize_nat]; congr 1; omega) (by omega) ?_ ?_)
          · clear Fl Nl hR
            intro k t I oI C oC D₅ m₂ ys h tk Qt E' hk1 hk2 hC hx F₁ N₁ off ne r
            clear off ne
            k_steps
            exact r _ _ _ _ (by k_asm) (by k_asm) (fun _ h => h)
          · clear Fl Nl hR
            rintro ys s' ⟨hh, rfl⟩ hys2 D₅ h tk F₁ N₁ off1
            clear off1
            have hse := starts_eq b E gp _ rfl (n := E.length - 1) rfl
            replace ap₂ := holdIt ap₂
            have hle := evened_length ns (stepN b) E
            have hln := natInts_length (evenedOf ns (stepN b) E)
            have hls := startsOf_length b (natInts (evenedOf ns (stepN b) E)) (by omega)
            k_steps
            all_goals (try (first | exact absurd hse (by assumption) | exact absurd rfl (by assumption)))
            (rename News _ _ _ _ => NN; replace NN := news_erase 0 NN; replace NN := news_erase 0 NN; replace NN := news_erase 0 NN; replace NN := news_erase 0 NN; dsimp only [List.eraseIdx] at NN)
            (refine unhold ?_; k_dflt (refine' Fun.use0 (evened_fun _ ?i_26 ?j_26 ?n_26 ?g_26 ?p_26) ?B_26 ?F_26 ?X_26 ?T_26 ?hk_26 ?N_26 ?ro_26 ?d_26 ?u_26 ?_; (case B_26 => k_asm); (case F_26 => k_asm); (case X_26 => k_asm); (case T_26 => k_asm); (case hk_26 => exact rfl); (case N_26 => k_asm); (case d_26 => ktr_room); (case u_26 => ktr_units); (case ro_26 => exact List.forall_mem_cons.mpr ⟨by (try dsimp only); is_list, List.forall_mem_cons.mpr ⟨by (try dsimp only); is_list, fun _ h => nomatch h⟩⟩); (case i_26 => assumption); (case j_26 => assumption); (case n_26 => omega); (case g_26 => assumption); (case p_26 => assumption); k_whole); refine fun r_26 out_26 h_26 tk_26 F_26 N_26 ap_26 post_26 => ?_; obtain ⟨D_26, us_26, n_26, e1_26, e2_26, hI_26⟩ := post_26; subst e1_26; subst e2_26; simp only [List.cons_append, List.nil_append] at N_26; (try simp only [Apart, AllNe, and_true] at ap_26); (try replace ap_26 := holdIt ap_26))
            k_steps
            (refine unhold ?_; k_dflt (refine' Fun.use0 (law_evened_fun _ (sp := stepN _) ?i_27 ?j_27 ?n_27 ?g_27 ?p_27 ?q_27) ?B_27 ?F_27 ?X_27 ?T_27 ?hk_27 ?N_27 ?ro_27 ?d_27 ?u_27 ?_; (case B_27 => k_asm); (case F_27 => k_asm); (case X_27 => k_asm); (case T_27 => k_asm); (case hk_27 => exact rfl); (case N_27 => k_asm); (case d_27 => ktr_room); (case u_27 => ktr_units); (case ro_27 => exact List.forall_mem_cons.mpr ⟨by (try dsimp only); is_list, List.forall_mem_cons.mpr ⟨by (try dsimp only); is_list, fun _ h => nomatch h⟩⟩); (case i_27 => assumption); (case j_27 => assumption); (case n_27 => omega); (case g_27 => assumption); (case p_27 => omega); (case q_27 => exact stepN_int); k_whole); refine fun r_27 out_27 h_27 tk_27 F_27 N_27 ap_27 post_27 => ?_; obtain ⟨D_27, us_27, n_27, e1_27, e2_27, hI_27⟩ := post_27; subst e1_27; subst e2_27; simp only [List.cons_append, List.nil_append] at N_27; (try simp only [Apart, AllNe, and_true] at ap_27); (try replace ap_27 := holdIt ap_27))
            k_steps
            all_goals (try (first | exact absurd hse (by assumption) | exact absurd rfl (by assumption)))
            (rename News _ _ _ _ => NN; replace NN := news_erase 0 NN; dsimp only [List.eraseIdx] at NN)
            (refine unhold ?_; k_dflt (refine' Fun.use0 (starts_fun _ ?i_28 ?n_28) ?B_28 ?F_28 ?X_28 ?T_28 ?hk_28 ?N_28 ?ro_28 ?d_28 ?u_28 ?_; (case B_28 => k_asm); (case F_28 => k_asm); (case X_28 => k_asm); (case T_28 => k_asm); (case hk_28 => exact rfl); (case N_28 => k_asm); (case d_28 => ktr_room); (case u_28 => ktr_units); (case ro_28 => exact List.forall_mem_cons.mpr ⟨by (try dsimp only); is_list, fun _ h => nomatch h⟩); (case i_28 => assumption); (case n_28 => omega); k_whole); refine fun r_28 out_28 h_28 tk_28 F_28 N_28 ap_28 post_28 => ?_; obtain ⟨D_28, us_28, n_28, e1_28, e2_28, hI_28⟩ := post_28; subst e1_28; subst e2_28; simp only [List.cons_append, List.nil_append] at N_28; (try simp only [Apart, AllNe, and_true] at ap_28); (try replace ap_28 := holdIt ap_28))
            k_steps
            all_goals (try (first | exact absurd hse (by assumption) | exact absurd rfl (by assumption)))
            rename News _ _ _ _ => Nl
            rename Fr _ _ _ _ => Fl
            rename IsRange _ _ _ _ _ _ _ _ => hR
            refine unhold (loop_range (n := E.length)
              (fun i m₁ nx => ∃ (DS DL : Addr) (ss ls : List Value) (cS cL : Nat) (rt wt : Tok),
                Names m₁ [(Str.ofString "starts", .ref DS), (Str.ofString "later", .ref DL), (Str.ofString "costs", .ref D), (Str.ofString "room", .int room rt), (Str.ofString "way", .int wv wt)] ∧
                nx = [(DS, listOf ss.toArray cS), (DL, listOf ls.toArray cL), (D, LCg.lst costs)] ∧ IntsAre ss (startsOf b (natInts (evenedOf ns (stepN b) E))) ∧ IntsAre ls (natInts (evenedOf ns (stepN b) E)))
              rfl hR (small_one (by omega) (by omega) (by omega) (by omega)) (by rw [rangeSize_nat]; congr 1; omega) Fl (news_sub Nl (fun p hp => by
                rcases List.mem_cons.mp hp with rfl | hp
                · k_mem
                rcases List.mem_cons.mp hp with rfl | hp
                · k_mem
                rw [List.mem_singleton.mp hp]
                k_mem)) ⟨_, _, _, _, _, _, _, _, ⟨rfl, rfl, rfl, rfl, rfl, trivial⟩, rfl, by assumption, by assumption⟩ ?turn ?done)
            case turn =>
              clear Nl Fl hR
              rintro i t m₁ news₁ h tk I oI Qt s₁ hin ⟨DS, DL, ss, ls, cS, cL, rt, wt, nm, rfl, hss, hls'⟩ ane F₁ N₁ te
              rw [show (0 : Int) + (i : Int) * 1 = (i : Int) by omega] at F₁
              have F₂ := nm.fr2 F₁
              clear F₁
              simp only [AllNe, and_true] at ane
              have ER := evened_right (room := room) hpos (fun c hc => by have := (unholdIt hG c hc).2; have := unholdIt htv3 (by assumption); omega) (by omega) hsp PG hin
              have ER4 : 4 ≤ wv → ns ≠ [] → firstOf (stepN b) (evenedOf ns (stepN b) E) i < (evenedOf ns (stepN b) E).getD i 0 := fun h4 hne => ER.2.2.2 (fun c hc => by have := (unholdIt hG c hc).2; have := unholdIt htv4 h4; omega) hne
              have hA := holdIt (show (startsOf b (natInts (evenedOf ns (stepN b) E))).getD ((i : Nat) : Int).toNat 0 = ((firstOf (stepN b) (evenedOf ns (stepN b) E) i : Nat) : Int) by rw [Int.toNat_natCast, startsOf_getD b _ (by omega)])
              have hB := holdIt (show (natInts (evenedOf ns (stepN b) E)).getD ((i : Nat) : Int).toNat 0 = (((evenedOf ns (stepN b) E).getD i 0 : Nat) : Int) by rw [Int.toNat_natCast, natInts_getD])
              have hS := slice_sum ns ER.1 ER.2.1
              obtain ⟨ER1, ER2, ER3, -⟩ := ER
              rw [← hS] at ER3
              clear hS
              generalize firstOf (stepN b) (evenedOf ns (stepN b) E) i = fi at *
              generalize (evenedOf ns (stepN b) E).getD i 0 = ri at *
              k_steps
              all_goals (try (exfalso; omega))
              all_goals (try (first | exact absurd rfl (by assumption) | (exfalso; have := ER4 (by omega) (of_decide_eq_false (by assumption)); omega)))
              all_goals
                exact te.next _ [(DS, listOf ss.toArray cS), (DL, listOf ls.toArray cL), (D, LCg.lst costs)] _ _ _ (by k_asm) (by k_asm) (by k_mem) (fun p hp => by
                  rcases List.mem_cons.mp hp with rfl | hp
                  · k_mem
                  rcases List.mem_cons.mp hp with rfl | hp
                  · k_mem
                  rw [List.mem_singleton.mp hp]
                  k_mem) (by simp only [AllNe, and_true]; exact ane) ⟨DS, DL, ss, ls, cS, cL, rt, wt, ⟨rfl, rfl, rfl, rfl, rfl, trivial⟩, rfl, hss, hls'⟩
            case done =>
              clear Nl Fl hR
              rintro m₁ news₁ h tk ⟨DS, DL, ss, ls, cS, cL, rt, wt, nm, rfl, hss, hls'⟩ F₁ N₁
              have F₂ := nm.fr F₁
              clear F₁
              k_steps
              (dsimp only; k_steps; (rename News _ _ _ _ => Ne); (rename Fr _ _ _ _ => Fe); refine ⟨g₂, L', _, _, KT, Fe, Ne, fun h₀' KT' kF kN kB kX kT => ?_⟩; exact ret _ [] _ _ h₀' KT' kB kX kT (backT_of kG' KT kF kN Fe Ne (fun _ h => nomatch h)) ⟨rfl, rfl⟩)
end
end

section
local macro_rules | `(tactic| walk_at "no such key") => `(tactic| skip)
theorem fresh_Top : True := by
  w_top off
  exact trivial
theorem first_some (w : World) {l : Addr} {vs : List Value} {ns : List Int} {room : Int} {rt : Tok} {b : Bool} {E : List Nat} (hi : IntsAre vs ns) (hlen : ns.length ≤ 900) (hp : pages ns room (stepN b) = some E) :
    Fun w 53 2 [.ref l, .int room rt, .bool b] [(l, vs)] []
      (fun v out => ∃ (D : Addr) (us : List Value) (n : Nat), v = .ref D ∧ out = [(D, listOf us.toArray n)] ∧ IntsAre us (natInts E)) := by
  intro mean mg mb dp un gd cn cs a ccd cl outer A₀ base h₀ L m s Q E₁ B F X T hk hro N hd hu ret
  refine first_fun w hi hlen mean mg mb dp un gd cn cs a ccd cl outer A₀ base h₀ L m s Q E₁ B F X T hk (fun p h => (hro p h).1) hd hu (fun r out h' tk' b post => ?_) (fun hn => ?_)
  · obtain ⟨D, us, n, E', h1, h2, h3, h4⟩ := post
    rw [hp] at h3
    cases h3
    exact ret r out h' tk' b ⟨D, us, n, h1, h2, h4⟩
  · rw [hp] at hn
    cases hn
theorem first_lit (w : World) {l : Addr} {vs : List Value} {ns : List Int} {room : Int} {rt : Tok} {b : Bool} {E : List Nat} {ks : List Int} (hi : IntsAre vs ns) (hlen : ns.length ≤ 900) (hp : pages ns room (stepN b) = some E ∧ natInts E = ks) :
    Fun w 53 2 [.ref l, .int room rt, .bool b] [(l, vs)] []
      (fun v out => ∃ (D : Addr) (us : List Value) (n : Nat), v = .ref D ∧ out = [(D, listOf us.toArray n)] ∧ IntsAre us ks) := by
  obtain ⟨h1, rfl⟩ := hp
  exact first_some w hi hlen h1
theorem evened_lit (w : World) {l le : Addr} {vs ws : List Value} {ns : List Int} {room : Int} {b : Bool} {E : List Nat} {is ks : List Int} (hi : IntsAre vs ns) (hw : IntsAre ws is) (hlen : ns.length ≤ 900) (hr : 0 ≤ room)
    (hp : (∀ c ∈ ns, 1 ≤ c) ∧ natInts E = is ∧ pages ns room (stepN b) = some E ∧ natInts (evenedOf ns (stepN b) E) = ks) :
    Fun w 65 2 [.ref l, .ref le, .bool b] [(l, vs), (le, ws)] []
      (fun v out => ∃ (D : Addr) (us : List Value) (n : Nat), v = .ref D ∧ out = [(D, listOf us.toArray n)] ∧ IntsAre us ks) := by
  obtain ⟨h0, rfl, h1, rfl⟩ := hp
  exact evened_fun w hi hw hlen (paged_of h0 hr (by unfold stepN; split <;> omega) h1).toGood h0
theorem told_lit (w : World) {l : Addr} {vs : List Value} {ns : List Int} {room : Int} {rt : Tok} {b : Bool} (hi : IntsAre vs ns) (hlen : ns.length ≤ 900) (hp : pages ns room (stepN b) = none) :
    FunT w 105 3 [.ref l, .int room rt, .bool b] [(l, vs)] [] (fun v out => v = .none ∧ out = []) := by
  intro mean mg mb dp un gd cn cs a ccd cl outer A₀ base h₀ L m s Q E B F X T XB TB hk hro N hd hu ret
  refine told_fun w hi hlen mean mg mb dp un gd cn cs a ccd cl outer A₀ base h₀ L m s Q E B F X T XB TB hk hro N hd hu fun r out h' tk' h₀' KT B' X' T' b post => ?_
  rcases post with ⟨_, h1, h2⟩ | ⟨_, _, _, _, _, _, h3, _⟩
  · exact ret r out h' tk' h₀' KT B' X' T' b ⟨h1, h2⟩
  · rw [hp] at h3
    cases h3
theorem FunT.useTop {w : World} {f : Addr} {lvl : Nat} {vs : List Value} {ro : List (Addr × List Value)} {inn : List (Addr × Obj)} {Post : Value → List (Addr × Obj) → Prop} (C : FunT w f lvl vs ro inn Post)
    {mean : ExcName → Option Value} {mg mb : Str → Option Value} {dp un : Nat} {gd : Option (List Code)} {cn : Str} {cs : Scope} {a : Addr} {ccd : Value} {cl : List (Str × Addr)} {A₀ : Around} {base h₀ : Heap} {L : Addr} {m : Str → Option Value} {s : Shared} {Q E : Value → Shared → Prop} {news : List (Addr × Obj)} (rest : List (Addr × Obj))
    (B : Below A₀ base [] h₀) (F : Fr h₀ L s.heap m) (X : (hd.heap_39 w.params).In h₀) (T : Top hd.view_39 (looseW hd.view_39 []) mean mg mb h₀) (XB : (hd.heap_39 w.params).In base) (TB : Top hd.view_39 (looseW hd.view_39 []) mean mg mb base) (hk : cs.kind = .function) (N : News h₀ L s.heap news)
    (hro : ∀ p ∈ ro, s.heap.IsList p.1 p.2.toArray ∧ ∀ q ∈ inn, p.1 ≠ q.1) (hin : ∀ p ∈ inn, p ∈ news) (hrest : ∀ p ∈ rest, p ∈ news ∧ ∀ q ∈ inn, p.1 ≠ q.1)
    (hdp : dp + lvl < recursionLimit) (hu : un + 8 * lvl + 100 < cLine)
    (ret : ∀ r out h' tk', Fr h₀ L h' m → News h₀ L h' (out ++ rest) → Apart out rest → Post r out → Q r { s with heap := h', toks := tk' }) :
    wpAny (model PySem.Challenge.rw_xm0745_01.row.prog w) (ktrTop dp un gd cn cs L a ccd cl []) (call (.ref f) vs) Q E s := by
  refine FunT.use C rest B F X T XB TB hk N hro hin hrest hdp hu fun r out h' tk' h₀' KT B' X' T' F' N' ap post => ret r out h' tk' ⟨F'.ns, fun b o e => F'.keep b o (KT.other b o e (fun h => nomatch h)), F.above⟩ (fun p hp => ⟨(N' p hp).1, (N' p hp).2.1, ?_⟩) ap post
  cases e : h₀.get? p.1 with
  | none => rfl
  | some o =>
    have z := (N' p hp).2.2
    rw [KT.other _ _ e (fun h => nomatch h)] at z
    cases z
theorem FunT.useTop0 {w : World} {f : Addr} {lvl : Nat} {vs : List Value} {ro : List (Addr × List Value)} {Post : Value → List (Addr × Obj) → Prop} (C : FunT w f lvl vs ro [] Post)
    {mean : ExcName → Option Value} {mg mb : Str → Option Value} {dp un : Nat} {gd : Option (List Code)} {cn : Str} {cs : Scope} {a : Addr} {ccd : Value} {cl : List (Str × Addr)} {A₀ : Around} {base h₀ : Heap} {L : Addr} {m : Str → Option Value} {s : Shared} {Q E : Value → Shared → Prop} {news : List (Addr × Obj)}
    (B : Below A₀ base [] h₀) (F : Fr h₀ L s.heap m) (X : (hd.heap_39 w.params).In h₀) (T : Top hd.view_39 (looseW hd.view_39 []) mean mg mb h₀) (XB : (hd.heap_39 w.params).In base) (TB : Top hd.view_39 (looseW hd.view_39 []) mean mg mb base) (hk : cs.kind = .function) (N : News h₀ L s.heap news)
    (hro : ∀ p ∈ ro, s.heap.IsList p.1 p.2.toArray) (hdp : dp + lvl < recursionLimit) (hu : un + 8 * lvl + 100 < cLine)
    (ret : ∀ r out h' tk', Fr h₀ L h' m → News h₀ L h' (out ++ news) → Apart out news → Post r out → Q r { s with heap := h', toks := tk' }) :
    wpAny (model PySem.Challenge.rw_xm0745_01.row.prog w) (ktrTop dp un gd cn cs L a ccd cl []) (call (.ref f) vs) Q E s :=
  FunT.useTop C news B F X T XB TB hk N (fun p hp => ⟨hro p hp, fun _ h => nomatch h⟩) (fun _ h => nomatch h) (fun _ h => ⟨h, fun _ h => nomatch h⟩) hdp hu ret
theorem FunT.useTop1 {w : World} {f : Addr} {lvl : Nat} {vs : List Value} {d : Addr} {o : Obj} {Post : Value → List (Addr × Obj) → Prop} (C : FunT w f lvl vs [] [(d, o)] Post)
    {mean : ExcName → Option Value} {mg mb : Str → Option Value} {dp un : Nat} {gd : Option (List Code)} {cn : Str} {cs : Scope} {a : Addr} {ccd : Value} {cl : List (Str × Addr)} {A₀ : Around} {base h₀ : Heap} {L : Addr} {m : Str → Option Value} {s : Shared} {Q E : Value → Shared → Prop} {news rest : List (Addr × Obj)}
    (B : Below A₀ base [] h₀) (F : Fr h₀ L s.heap m) (X : (hd.heap_39 w.params).In h₀) (T : Top hd.view_39 (looseW hd.view_39 []) mean mg mb h₀) (XB : (hd.heap_39 w.params).In base) (TB : Top hd.view_39 (looseW hd.view_39 []) mean mg mb base) (hk : cs.kind = .function) (N : News h₀ L s.heap news)
    (P : Pick d o news rest) (hdp : dp + lvl < recursionLimit) (hu : un + 8 * lvl + 100 < cLine)
    (ret : ∀ r out h' tk', Fr h₀ L h' m → News h₀ L h' (out ++ rest) → Apart out rest → Post r out → Q r { s with heap := h', toks := tk' }) :
    wpAny (model PySem.Challenge.rw_xm0745_01.row.prog w) (ktrTop dp un gd cn cs L a ccd cl []) (call (.ref f) vs) Q E s :=
  FunT.useTop C rest B F X T XB TB hk N (fun _ h => nomatch h) (fun p hp => by rw [List.mem_singleton.mp hp]; exact P.mem) (fun p hp => ⟨(P.rest p hp).1, fun q hq => by rw [List.mem_singleton.mp hq]; exact (P.rest p hp).2⟩) hdp hu ret
theorem lit1 : pages [3, 2, 6] 6 (stepN true) = some [2, 3] ∧ natInts [2, 3] = [2, 3] := by decide
theorem lit2 : pages [3, 9] 6 (stepN true) = some [1, 2] ∧ natInts [1, 2] = [1, 2] := by decide
theorem lit3 : (∀ c ∈ ([3, 2, 6] : List Int), 1 ≤ c) ∧ natInts [2, 3] = [2, 3] ∧ pages [3, 2, 6] 6 (stepN true) = some [2, 3] ∧ natInts (evenedOf [3, 2, 6] (stepN true) [2, 3]) = [1, 3] := by decide
theorem lit4 : (∀ c ∈ ([2, 2, 2, 2] : List Int), 1 ≤ c) ∧ natInts [3, 4] = [3, 4] ∧ pages [2, 2, 2, 2] 6 (stepN false) = some [3, 4] ∧ natInts (evenedOf [2, 2, 2, 2] (stepN false) [3, 4]) = [2, 4] := by decide
theorem lit5 : pages [3, 9, 1] 6 (stepN false) = none := by decide
local macro_rules | `(tactic| walk_at "call ref") => `(tactic| refine hold ?_)
theorem loop_two {prog : Program} {w : World} {A : Around} {E : Value → Shared → Prop} {s : Shared} {env : Env} {h₀ : Heap} {x : Str} {body : List Stmt} {Q : Flow → Shared → Prop} {r : Addr} {X : Int} {t₀ u₀ v₀ : Tok} {m₀ : Str → Option Value} {news : List (Addr × Obj)}
    (J : (Str → Option Value) → List (Addr × Obj) → Prop)
    (hh : A.handled = none) (hr : IsRange s.heap r 0 X 1 t₀ u₀ v₀) (hX : 0 ≤ X ∧ X ≤ 2) (F : Fr h₀ env.locals s.heap m₀) (N : News h₀ env.locals s.heap news) (hj : J m₀ news)
    (turn : ∀ (i : Nat) t m₁ news₁ h tk I oI (Qt : Flow → Shared → Prop) s₁, i < 2 → J m₁ news₁ → AllNe I news₁ → Fr h₀ env.locals h (fun y => if y = x then some (.int (0 + (i : Int) * 1) t) else m₁ y) → News h₀ env.locals h ((I, oI) :: news₁) →
      TurnEnds h₀ env.locals s₁ I oI J Q Qt → wpAny (model prog w) A (execs body env) Qt E { s₁ with heap := h, toks := tk })
    (done : ∀ m₁ news₁ h tk, J m₁ news₁ → Fr h₀ env.locals h m₁ → News h₀ env.locals h news₁ → Q .next { s with heap := h, toks := tk }) :
    wpAny (model prog w) A (pyIter (.ref r)) (fun it s₂ => LoopAtV prog w A h₀ env x body Q E it s₂) E s :=
  loop_range (n := (X - 0).toNat) (fun _ => J) hh hr (small_one (by omega) (by omega) (by omega) (by omega)) (by rw [rangeSize_nat]) F N hj (fun i t m₁ news₁ h tk I oI Qt s₁ hi => turn i t m₁ news₁ h tk I oI Qt s₁ (by omega)) done
local macro_rules | `(tactic| walk_at "call type:range") => `(tactic| refine hold ?_)
theorem top : PySem.Challenge.rw_xm0745_01.Holds := hd (by
  k_go0
  k_steps
  (refine unhold ?_; k_dflt (refine' Fun.use0 (first_lit _ ?i_30 ?n_30 ?p_30) ?B_30 ?F_30 ?X_30 ?T_30 ?hk_30 ?N_30 ?ro_30 ?d_30 ?u_30 ?_; (case B_30 => k_asm); (case F_30 => k_asm); (case X_30 => k_asm); (case T_30 => k_asm); (case hk_30 => exact rfl); (case N_30 => k_asm); (case ro_30 => exact List.forall_mem_cons.mpr ⟨by (try dsimp only); is_list, fun _ h => nomatch h⟩); (case i_30 => first | exact .cons _ _ (.cons _ _ .nil) | exact .cons _ _ (.cons _ _ (.cons _ _ .nil)) | exact .cons _ _ (.cons _ _ (.cons _ _ (.cons _ _ .nil)))); (case n_30 => decide); (case p_30 => first | exact lit1 | exact lit2); (case d_30 => ktr_room); (case u_30 => ktr_units); k_whole); refine fun r_30 out_30 h_30 tk_30 F_30 N_30 ap_30 post_30 => ?_; obtain ⟨D_30, us_30, n_30, e1_30, e2_30, hI_30⟩ := post_30; subst e1_30; subst e2_30; simp only [List.cons_append, List.nil_append] at N_30; (try simp only [Apart, AllNe, and_true] at ap_30); (try replace ap_30 := holdIt ap_30))
  k_steps
  (rename News _ _ _ _ => NN; replace NN := news_k2 NN)
  (refine unhold ?_; k_dflt (refine' Fun.use0 (evened_lit _ (room := 6) ?i_31 ?j_31 ?n_31 ?z_31 ?p_31) ?B_31 ?F_31 ?X_31 ?T_31 ?hk_31 ?N_31 ?ro_31 ?d_31 ?u_31 ?_; (case B_31 => k_asm); (case F_31 => k_asm); (case X_31 => k_asm); (case T_31 => k_asm); (case hk_31 => exact rfl); (case N_31 => k_asm); (case ro_31 => exact List.forall_mem_cons.mpr ⟨by (try dsimp only); is_list, List.forall_mem_cons.mpr ⟨by (try dsimp only); is_list, fun _ h => nomatch h⟩⟩); (case i_31 => first | exact .cons _ _ (.cons _ _ .nil) | exact .cons _ _ (.cons _ _ (.cons _ _ .nil)) | exact .cons _ _ (.cons _ _ (.cons _ _ (.cons _ _ .nil)))); (case j_31 => exact .cons _ _ (.cons _ _ .nil)); (case n_31 => decide); (case z_31 => decide); (case p_31 => first | exact lit3 | exact lit4); (case d_31 => ktr_room); (case u_31 => ktr_units); k_whole); refine fun r_31 out_31 h_31 tk_31 F_31 N_31 ap_31 post_31 => ?_; obtain ⟨D_31, us_31, n_31, e1_31, e2_31, hI_31⟩ := post_31; subst e1_31; subst e2_31; simp only [List.cons_append, List.nil_append] at N_31; (try simp only [Apart, AllNe, and_true] at ap_31); (try replace ap_31 := holdIt ap_31))
  k_steps
  (rename News _ _ _ _ => NN; replace NN := news_k2 NN)
  (refine unhold ?_; k_dflt (refine' Fun.use0 (evened_lit _ (room := 6) ?i_32 ?j_32 ?n_32 ?z_32 ?p_32) ?B_32 ?F_32 ?X_32 ?T_32 ?hk_32 ?N_32 ?ro_32 ?d_32 ?u_32 ?_; (case B_32 => k_asm); (case F_32 => k_asm); (case X_32 => k_asm); (case T_32 => k_asm); (case hk_32 => exact rfl); (case N_32 => k_asm); (case ro_32 => exact List.forall_mem_cons.mpr ⟨by (try dsimp only); is_list, List.forall_mem_cons.mpr ⟨by (try dsimp only); is_list, fun _ h => nomatch h⟩⟩); (case i_32 => first | exact .cons _ _ (.cons _ _ .nil) | exact .cons _ _ (.cons _ _ (.cons _ _ .nil)) | exact .cons _ _ (.cons _ _ (.cons _ _ (.cons _ _ .nil)))); (case j_32 => exact .cons _ _ (.cons _ _ .nil)); (case n_32 => decide); (case z_32 => decide); (case p_32 => first | exact lit3 | exact lit4); (case d_32 => ktr_room); (case u_32 => ktr_units); k_whole); refine fun r_32 out_32 h_32 tk_32 F_32 N_32 ap_32 post_32 => ?_; obtain ⟨D_32, us_32, n_32, e1_32, e2_32, hI_32⟩ := post_32; subst e1_32; subst e2_32; simp only [List.cons_append, List.nil_append] at N_32; (try simp only [Apart, AllNe, and_true] at ap_32); (try replace ap_32 := holdIt ap_32))
  k_steps
  (rename News _ _ _ _ => NN; replace NN := news_k1 NN)
  (refine unhold ?_; k_dflt (refine' FunT.useTop0 (told_lit _ ?i_33 ?n_33 ?p_33) ?B_33 ?F_33 ?X_33 ?T_33 ?XB_33 ?TB_33 ?hk_33 ?N_33 ?ro_33 ?d_33 ?u_33 ?_; (case B_33 => k_asm); (case F_33 => k_asm); (case X_33 => k_asm); (case T_33 => k_asm); (case XB_33 => k_asm); (case TB_33 => k_asm); (case hk_33 => exact rfl); (case N_33 => k_asm); (case ro_33 => exact List.forall_mem_cons.mpr ⟨by (try dsimp only); is_list, fun _ h => nomatch h⟩); (case i_33 => exact .cons _ _ (.cons _ _ (.cons _ _ .nil))); (case n_33 => decide); (case p_33 => exact lit5); (case d_33 => ktr_room); (case u_33 => ktr_units); k_whole); refine fun r_33 out_33 h_33 tk_33 F_33 N_33 ap_33 post_33 => ?_; obtain ⟨e1_33, e2_33⟩ := post_33; subst e1_33; subst e2_33; simp only [List.nil_append] at N_33; clear ap_33)
  k_steps
  (rename News _ _ _ _ => NN; replace NN := news_k1 NN)
  (refine unhold ?_; k_dflt (refine' Fun.use0 (first_lit _ ?i_34 ?n_34 ?p_34) ?B_34 ?F_34 ?X_34 ?T_34 ?hk_34 ?N_34 ?ro_34 ?d_34 ?u_34 ?_; (case B_34 => k_asm); (case F_34 => k_asm); (case X_34 => k_asm); (case T_34 => k_asm); (case hk_34 => exact rfl); (case N_34 => k_asm); (case ro_34 => exact List.forall_mem_cons.mpr ⟨by (try dsimp only); is_list, fun _ h => nomatch h⟩); (case i_34 => first | exact .cons _ _ (.cons _ _ .nil) | exact .cons _ _ (.cons _ _ (.cons _ _ .nil)) | exact .cons _ _ (.cons _ _ (.cons _ _ (.cons _ _ .nil)))); (case n_34 => decide); (case p_34 => first | exact lit1 | exact lit2); (case d_34 => ktr_room); (case u_34 => ktr_units); k_whole); refine fun r_34 out_34 h_34 tk_34 F_34 N_34 ap_34 post_34 => ?_; obtain ⟨D_34, us_34, n_34, e1_34, e2_34, hI_34⟩ := post_34; subst e1_34; subst e2_34; simp only [List.cons_append, List.nil_append] at N_34; (try simp only [Apart, AllNe, and_true] at ap_34); (try replace ap_34 := holdIt ap_34))
  k_steps
  rename News _ _ _ _ => Nl
  rename Fr _ _ _ _ => Fl
  refine unhold (range1_rows Fl (News.nil) ?_)
  clear Fl Nl
  intro hr tr tr1 tr2 tr3 hR Fl Nl _
  k_steps
  refine unhold (loop_two (fun m₁ nx => Names m₁ [(Str.ofString "script", .ref _)] ∧ nx = []) rfl hR (by constructor <;> omega) Fl News.nil ⟨⟨rfl, trivial⟩, rfl⟩ ?turn ?done)
  case turn =>
    clear Fl Nl hR
    rintro i t m₁ news₁ h tk I oI Qt s₁ hin ⟨nm, rfl⟩ ane F₁ N₁ te
    have hi2 : (i : Int) < 2 := by omega
    have hi0 : 0 ≤ (i : Int) := by omega
    rw [show (0 : Int) + (i : Int) * 1 = (i : Int) by omega] at F₁
    have F₂ := nm.fr2 F₁
    clear F₁ ane
    k_steps
    (refine unhold ?_; k_dflt (refine' Fun.use0 (pool_fun _ ?i_35 ?n_35 ?p_35 ?q_35) ?B_35 ?F_35 ?X_35 ?T_35 ?hk_35 ?N_35 ?ro_35 ?d_35 ?u_35 ?_; (case B_35 => k_asm); (case F_35 => k_asm); (case X_35 => k_asm); (case T_35 => k_asm); (case hk_35 => exact rfl); (case N_35 => k_asm); (case ro_35 => exact List.forall_mem_cons.mpr ⟨by (try dsimp only); is_list, fun _ h => nomatch h⟩); (case i_35 => assumption); (case n_35 => omega); (case p_35 => omega); (case q_35 => omega); (case d_35 => ktr_room); (case u_35 => ktr_units); k_whole); refine fun r_35 out_35 h_35 tk_35 F_35 N_35 ap_35 post_35 => ?_; obtain ⟨D_35, x_35, y_35, t_35, u_35, n_35, e1_35, e2_35⟩ := post_35; subst e1_35; subst e2_35; simp only [List.cons_append, List.nil_append] at N_35; (try simp only [Apart, AllNe, and_true] at ap_35))
    k_steps
    (refine unhold ?_; k_dflt (refine' FunT.useTop1 (right_fun _) ?B_36 ?F_36 ?X_36 ?T_36 ?XB_36 ?TB_36 ?hk_36 ?N_36 ?P_36 ?d_36 ?u_36 ?_; (case B_36 => k_asm); (case F_36 => k_asm); (case X_36 => k_asm); (case T_36 => k_asm); (case XB_36 => k_asm); (case TB_36 => k_asm); (case hk_36 => exact rfl); (case N_36 => k_asm); (case P_36 => walk_at "pick"); (case d_36 => ktr_room); (case u_36 => ktr_units); k_whole); refine fun r_36 out_36 h_36 tk_36 F_36 N_36 ap_36 post_36 => ?_; obtain ⟨e1_36, e2_36⟩ := post_36; subst e1_36; subst e2_36; simp only [List.nil_append] at N_36; clear ap_36)
    k_steps
    exact te.next _ [] _ _ _ (by k_asm) (by k_asm) (by k_mem) (fun _ h => nomatch h) trivial ⟨⟨rfl, trivial⟩, rfl⟩
  case done =>
    clear Fl Nl hR
    rintro m₁ news₁ h tk ⟨nm, rfl⟩ F₁ N₁
    have F₂ := nm.fr F₁
    clear F₁
    k_steps)
end

end Mine
theorem PySem.Challenge.cw_xm0745_01_holds : PySem.Challenge.rw_xm0745_01.Holds := by
  exact Mine.top
