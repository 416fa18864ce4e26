import PyProof.Rows.All
import Wide.All
import OpenK.AllK
import Wide.FinOn
import Lean
import PySem.Challenge.RW_rh0068_01
open PySem PySem.W PyProof.Rows PySem.Calls
set_option Elab.async false
set_option maxRecDepth 100000
set_option maxHeartbeats 8000000
set_option linter.all false
set_option compiler.extract_closed false
namespace Mine68
section
/-- the law's program without the statements that name its modules -/
noncomputable def vw : Program := by
  refine (?f : ∀ s0 s1 s2 s3 s4 s5 s6 s7 s8 s9 s10 s11 s12 s13 s14 s15 s16 s17 : Stmt, PySem.Challenge.pw_rh0068_01.main.body = [s0, s1, s2, s3, s4, s5, s6, s7, s8, s9, s10, s11, s12, s13, s14, s15, s16, s17] → Program) _ _ _ _ _ _ _ _ _ _ _ _ _ _ _ _ _ _  rfl
  exact fun s0 s1 s2 s3 s4 s5 s6 s7 s8 s9 s10 s11 s12 s13 s14 s15 s16 s17 _ => { (OpenRow.toRowW (OpenLaw.row PySem.Challenge.rw_rh0068_01)).prog with main :=
    { (OpenRow.toRowW (OpenLaw.row PySem.Challenge.rw_rh0068_01)).prog.main with body := [s0, s2, s3, s5, s6, s7, s8, s9, s11, s12, s13, s14, s15, s16, s17] } }
local macro_rules | `(tactic| o_law) => `(tactic| (refine holds_law (by decide +kernel) fun said => ?_))
set_option hygiene false in
local macro_rules | `(tactic| o_head $H) => `(tactic| (
  (refine holds_open (q := vw) (loose := []) (Xt := fun s => xlAt vw [] s && recOk (RowW.records (OpenRow.toRowW (OpenLaw.row PySem.Challenge.rw_rh0068_01))) s) (XP := XL vw []) (Yf := Hook.obs $H) (Ya := Hook.val $H) (YP := Hook.says $H) (N := 2994) ?hl (Hook.of $H) (Hook.keeps $H) (fun s e => xl_of s (Bool.and_eq_true_iff.mp e).1) XL.keeps (by rfl) (by rfl) (by rfl) (fun s e => recFacts_of (Bool.and_eq_true_iff.mp e).2) (by rfl) (by first | assumption | decide +kernel) (by decide +kernel) ⟨rfl, rfl, rfl, rfl, rfl, by decide +kernel⟩ ?hw ?hc);
  (case hl => (intro w; kernel_rfl))))
open_top hd for PySem.Challenge.rw_rh0068_01
end
section




noncomputable def Disj (l r : List (Addr × Obj)) : Prop := ∀ p ∈ l, ∀ q ∈ r, p.1 ≠ q.1

/-- the leaving of a framed call -/
noncomputable def LeaveF (h₀ : Heap) (L : Addr) (m : Str → Option Value) (rest : List (Addr × Obj)) (g : Heap) (R : Result → Shared → Prop) (v : Value) (s' : Shared) : Prop :=
  ∃ L' m' news', Fr g L' s'.heap m' ∧ News g L' s'.heap news' ∧ (Fr h₀ L s'.heap m → News h₀ L s'.heap (news' ++ rest) → Disj news' rest → R (.ok (.ret v)) s')

section
variable {prog : Program} {w : World} {A₀ A : Around} {s : Shared} {base h₀ : Heap} {outer : List Env} {L : Addr} {m : Str → Option Value} {env : Env} {pre rest : List (Addr × Obj)} {K : Frag}
  {R : Result → Shared → Prop}

theorem groundF (B : Below A₀ base outer h₀) (F : Fr h₀ L s.heap m) (N : News h₀ L s.heap (pre ++ rest)) (D : Disj pre rest) (hA : A.frames = some (env :: outer)) (hf : env.frame = some L) (hke : env.scope.kind = .function) :
    Fr h₀ L (hideAll s.heap (pre.map (·.1))) m ∧ Below A base (env :: outer) (hideAll s.heap (pre.map (·.1))) ∧ h₀.StaysIn (hideAll s.heap (pre.map (·.1))) ∧
      ∀ v s', LeaveF h₀ L m rest (hideAll s.heap (pre.map (·.1))) R v s' → R (.ok (.ret v)) s' := by
  have Np : News h₀ L s.heap pre := fun p hp => N p (List.mem_append_left _ hp)
  have Nr : News h₀ L s.heap rest := fun p hp => N p (List.mem_append_right _ hp)
  have nm : ∀ b o, h₀.get? b = some o → b ∉ pre.map (·.1) := fun b o e q => by
    obtain ⟨p, hp, rfl⟩ := List.mem_map.mp q
    rw [(Np p hp).2.2] at e; cases e
  have st : h₀.StaysIn (hideAll s.heap (pre.map (·.1))) := fun b o e => hideAll_get _ (F.keep b o e) (nm b o e)
  obtain ⟨oL, es, ep, hL, hLd, hLk, hLf⟩ := F.ns
  have nL : L ∉ pre.map (·.1) := fun q => by
    obtain ⟨p, hp, e⟩ := List.mem_map.mp q
    exact (Np p hp).2.1 e
  have hLg := hideAll_get (pre.map (·.1)) hL nL
  have B₁ := pushX B F hf hke
  refine ⟨⟨⟨oL, es, ep, hLg, hLd, hLk, hLf⟩, st, F.above⟩, ⟨hA, fun b o e => st b o (B.stays b o e), funFrames_hideAll B₁.frames fun env' he b hb hf' => ?_⟩, st, fun v s' hl => ?_⟩
  · cases he with
    | head => exact nL ((Option.some.inj (hf.symm.trans hf') : L = b) ▸ hb)
    | tail _ he =>
      obtain ⟨L₁, o₁, hf₁, ho₁⟩ := funFrames_in B.frames env' he
      rw [hf₁] at hf'
      exact nm L₁ o₁ ho₁ ((Option.some.inj hf' : L₁ = b) ▸ hb)
  · obtain ⟨L', m', news', F', N', k⟩ := hl
    have hr : ∀ p ∈ rest, (hideAll s.heap (pre.map (·.1))).get? p.1 = some p.2 := fun p hp => hideAll_get _ (Nr p hp).1 fun q => by
      obtain ⟨p', hp', e⟩ := List.mem_map.mp q
      exact D p' hp' p hp e
    refine k ⟨⟨oL, es, ep, F'.keep L oL hLg, hLd, hLk, hLf⟩, fun b o e => F'.keep b o (st b o e), F.above⟩ (fun p hp => ?_) fun p hp q hq e => ?_
    · rcases List.mem_append.mp hp with hp | hp
      · refine ⟨(N' p hp).1, fun q => ?_, ?_⟩
        · have := (N' p hp).2.2; rw [q, hLg] at this; cases this
        · cases q : h₀.get? p.1 with
          | none => rfl
          | some o => have := (N' p hp).2.2; rw [st _ _ q] at this; cases this
      · exact ⟨F'.keep _ _ (hr p hp), (Nr p hp).2⟩
    · have := (N' p hp).2.2
      rw [e, hr q hq] at this
      cases this

variable {name qual : Str} {params : Arguments} {body : List Stmt} {scope : Scope} {dV kV doc pm cdv ct oc : Value} {an od : Option Addr} {osl : Array (Option Value)} {f : Addr} {args : Args} {binds : List (Str × Value)}
  {p : Program} {loose : List Str} {mean : ExcName → Option Value} {mg mb : Str → Option Value}

theorem code_frame
    (B : Below A₀ base outer h₀) (F : Fr h₀ L s.heap m) (X₀ : K.In h₀) (N : News h₀ L s.heap (pre ++ rest)) (D : Disj pre rest) (T : Top p loose mean mg mb h₀) (hA : A.frames = some (env :: outer)) (hf : env.frame = some L) (hke : env.scope.kind = .function)
    (ho : K.lookup f = some ⟨oc, od, .func (fnOf name qual params body scope dV kV doc pm an cdv ct), osl⟩) (hcd : codeIn K cdv qual = true) (hroom : A.depth < recursionLimit)
    (hbind : BindsTo s (fnOf name qual params body scope dV kV doc pm an cdv ct) args binds) (hloc : ∀ y ∈ binds, scope.names.lookup y.1 = some .local)
    (h : ∀ g L' h₁, Fr h₀ L g m → Fr g L' h₁ (fun y => binds.reverse.lookup y) → News g L' h₁ pre → Below A base (env :: outer) g → K.In g → Top p loose mean mg mb g → (∀ q ∈ pre, q.1 < L') →
      wpAny (model prog w) (A.deeper (envOf qual scope L' f cdv)) (execs body (envOf qual scope L' f cdv))
        (fun fl s' => LeaveF h₀ L m rest g R (match fl with | .ret v => v | _ => .none) s')
        (fun e s' => wpAny (model prog w) (A.deeper (envOf qual scope L' f cdv)) (leaving (envOf qual scope L' f cdv) e) (fun _ s'' => R (.error e) s'') (fun e' s'' => R (.error e') s'') s')
        { s with heap := h₁, toks := s.toks + binds.length })
    (hco : scope.isCoroutine = false) (hgen : scope.isGenerator = false) (hk : scope.kind = .function)
    (hcell : ∀ x ∈ scope.names, x.2 ≠ .cell) : codeAny (model prog w) A (.call (.ref f) args) R s := by
  obtain ⟨FG, BG, st, lv⟩ := groundF (R := R) B F N D hA hf hke
  refine codeAny_call_def (fd := fnOf name qual params body scope dV kV doc pm an cdv ct) (body := body) (binds := binds) hroom ((X₀.keeps F.keep) _ _ ho) rfl (T.nolimit.keeps F.keep) (codeRec_of (X₀.keeps F.keep) hcd) rfl hbind hcell hloc (fun h₁ hns hk₁ => ?_) hco hgen hk
  have Np : News h₀ L s.heap pre := fun p hp => N p (List.mem_append_left _ hp)
  exact wpAny_mono (h _ s.heap.objs.size h₁ FG ⟨hns, fun b o e => hk₁ b o (of_hideAll _ e), Nat.le_of_eq (hideAll_size _ _)⟩
    (fun p hp => ⟨hk₁ _ _ (Np p hp).1, Nat.ne_of_lt (Heap.lt_size (Np p hp).1), hideAll_none _ (List.mem_map_of_mem hp)⟩) BG (X₀.keeps st) (T.keeps st) (fun p hp => Heap.lt_size (Np p hp).1)) (fun fl s' hl => lv _ _ hl) fun _ _ y => y
end

/-- a contract of the def at f -/
noncomputable def Meets (w : World) (f : Addr) (args : List Value) (need : Nat) (pre : List (Addr × Obj)) (post : Value → List (Addr × Obj) → Prop) : Prop :=
  ∀ (dp un : Nat) (gd : Option (List Code)) (cn : Str) (cs : Scope) (a : Addr) (ccd : Value) (cl : List (Str × Addr)) (outer : List Env) (A₀ : Around) (base h₀ : Heap) (L : Addr) (m : Str → Option Value) (rest : List (Addr × Obj)) (s : Shared)
    (mean : ExcName → Option Value) (mg mb : Str → Option Value) (Q E : Value → Shared → Prop),
    Below A₀ base outer h₀ → Fr h₀ L s.heap m → (hd.heap_1 w.params).In h₀ → News h₀ L s.heap (pre ++ rest) → Disj pre rest → Top vw (looseW vw []) mean mg mb h₀ → cs.kind = .function → dp + need < recursionLimit → un + 8 * need + 64 < cLine →
    (∀ r tl h' tk', Fr h₀ L h' m → News h₀ L h' (tl ++ rest) → Disj tl rest → post r tl → Q r { s with heap := h', toks := tk' }) →
    wpAny (model PySem.Challenge.rw_rh0068_01.row.prog w) (ktrTop dp un gd cn cs L a ccd cl outer) (call (.ref f) args) Q E s

theorem Disj.left {l r l' : List (Addr × Obj)} (D : Disj l r) (h : ∀ p ∈ l', p ∈ l) : Disj l' r := fun p hp => D p (h p hp)
/-- the data of a record -/
structure Rc where
  key : Int
  fn : Int
  birth : Int
  death : Int
  entry : Int
  term : Dat
  word : Dat
/-- a record as it lies in the heap -/
structure RecA where
  a : Addr
  d : Addr
  tm : Addr
  ik : Addr
  t1 : Tok
  t2 : Tok
  t3 : Tok
  t4 : Tok
  t5 : Tok
  t6 : Tok
  t7 : Tok
  t8 : Tok
  keyT : Tok
  fnT : Tok
  birthT : Tok
  deathT : Tok
  nxT : Tok
  entryT : Tok
  c : Rc

noncomputable abbrev rEnt (P : Params) (r : RecA) (nx : Int) : List DictEntry :=
  [⟨PyData.keyHash P (Str.ofString "key"), .str (Str.ofString "key") r.t1, .int r.c.key r.keyT⟩,
   ⟨PyData.keyHash P (Str.ofString "functor"), .str (Str.ofString "functor") r.t2, .int r.c.fn r.fnT⟩,
   ⟨PyData.keyHash P (Str.ofString "term"), .str (Str.ofString "term") r.t3, .ref r.tm⟩,
   ⟨PyData.keyHash P (Str.ofString "index_key"), .str (Str.ofString "index_key") r.t4, .ref r.ik⟩,
   ⟨PyData.keyHash P (Str.ofString "birth"), .str (Str.ofString "birth") r.t5, .int r.c.birth r.birthT⟩,
   ⟨PyData.keyHash P (Str.ofString "death"), .str (Str.ofString "death") r.t6, .int r.c.death r.deathT⟩,
   ⟨PyData.keyHash P (Str.ofString "next_key"), .str (Str.ofString "next_key") r.t7, .int nx r.nxT⟩,
   ⟨PyData.keyHash P (Str.ofString "entry"), .str (Str.ofString "entry") r.t8, .int r.c.entry r.entryT⟩]
noncomputable abbrev rObj (r : RecA) : Addr × Obj := (r.a, instObj 46 r.d)
noncomputable abbrev rDict (P : Params) (r : RecA) (nx : Int) : Addr × Obj := (r.d, dictOf (rEnt P r nx) 8)
/-- the key of a chain's head -/
noncomputable def hk : List RecA → Int
  | [] => -1
  | r :: _ => r.c.key
/-- a chain in the ledger -/
noncomputable def chLed (P : Params) : List RecA → List (Addr × Obj)
  | [] => []
  | r :: rs => rObj r :: rDict P r (hk rs) :: chLed P rs
noncomputable def visB (r : Rc) (g : Int) : Bool := decide (r.birth ≤ g ∧ (r.death < 0 ∨ g < r.death))

/-- a store's addresses -/
structure StA where
  a : Addr
  d : Addr
  rd : Addr
  t1 : Tok
  t2 : Tok
  t3 : Tok
  nrT : Tok
  genT : Tok
noncomputable abbrev sEnt (P : Params) (S : StA) (nr gen : Int) : List DictEntry :=
  [⟨PyData.keyHash P (Str.ofString "records"), .str (Str.ofString "records") S.t1, .ref S.rd⟩,
   ⟨PyData.keyHash P (Str.ofString "next_record"), .str (Str.ofString "next_record") S.t2, .int nr S.nrT⟩,
   ⟨PyData.keyHash P (Str.ofString "generation"), .str (Str.ofString "generation") S.t3, .int gen S.genT⟩]
noncomputable abbrev sObj (S : StA) : Addr × Obj := (S.a, instObj 165 S.d)
noncomputable abbrev sDict (P : Params) (S : StA) (nr gen : Int) : Addr × Obj := (S.d, dictOf (sEnt P S nr gen) 3)

theorem Meets.use {w : World} {f : Addr} {args : List Value} {need : Nat} {pre : List (Addr × Obj)} {post : Value → List (Addr × Obj) → Prop}
    {dp un : Nat} {gd : Option (List Code)} {cn : Str} {cs : Scope} {a : Addr} {ccd : Value} {cl : List (Str × Addr)} {outer : List Env} {A₀ : Around} {base h₀ : Heap} {L : Addr} {m : Str → Option Value} {rest : List (Addr × Obj)} {s : Shared}
    {mean : ExcName → Option Value} {mg mb : Str → Option Value} {Q E : Value → Shared → Prop}
    (B : Below A₀ base outer h₀) (F : Fr h₀ L s.heap m) (X : (hd.heap_1 w.params).In h₀) (N : News h₀ L s.heap (pre ++ rest)) (D : Disj pre rest) (T : Top vw (looseW vw []) mean mg mb h₀) (hk : cs.kind = .function)
    (C : Meets w f args need pre post) (hd : dp + need < recursionLimit) (hu : un + 8 * need + 64 < cLine)
    (ret : ∀ r tl h' tk', Fr h₀ L h' m → News h₀ L h' (tl ++ rest) → Disj tl rest → post r tl → Q r { s with heap := h', toks := tk' }) :
    wpAny (model PySem.Challenge.rw_rh0068_01.row.prog w) (ktrTop dp un gd cn cs L a ccd cl outer) (call (.ref f) args) Q E s :=
  C _ _ _ _ _ _ _ _ _ _ _ _ _ _ _ _ _ _ _ _ _ B F X N D T hk hd hu ret
theorem Meets.use0 {w : World} {f : Addr} {args : List Value} {need : Nat} {pre : List (Addr × Obj)} {post : Value → List (Addr × Obj) → Prop}
    {dp un : Nat} {gd : Option (List Code)} {cn : Str} {cs : Scope} {a : Addr} {ccd : Value} {cl : List (Str × Addr)} {outer : List Env} {A₀ : Around} {base h₀ : Heap} {L : Addr} {m : Str → Option Value} {s : Shared}
    {mean : ExcName → Option Value} {mg mb : Str → Option Value} {Q E : Value → Shared → Prop}
    (B : Below A₀ base outer h₀) (F : Fr h₀ L s.heap m) (X : (hd.heap_1 w.params).In h₀) (N : News h₀ L s.heap pre) (T : Top vw (looseW vw []) mean mg mb h₀) (hk : cs.kind = .function)
    (C : Meets w f args need pre post) (hd : dp + need < recursionLimit) (hu : un + 8 * need + 64 < cLine)
    (ret : ∀ r tl h' tk', Fr h₀ L h' m → News h₀ L h' tl → post r tl → Q r { s with heap := h', toks := tk' }) :
    wpAny (model PySem.Challenge.rw_rh0068_01.row.prog w) (ktrTop dp un gd cn cs L a ccd cl outer) (call (.ref f) args) Q E s :=
  C.use B F X (by rw [List.append_nil]; exact N) (fun _ _ _ hq => absurd hq List.not_mem_nil) T hk hd hu fun r tl h' tk' F' N' _ hp => ret r tl h' tk' F' (by rw [List.append_nil] at N'; exact N') hp

/-- a goal at which the walk halts -/
noncomputable def Halt (p : Prop) : Prop := p
theorem Halt.of {p : Prop} (h : Halt p) : p := h
theorem Halt.to {p : Prop} (h : p) : Halt p := h
theorem ne_of_one {z y : Str} (h : [y].contains z = false) : z ≠ y := by
  rintro rfl
  simp at h

theorem allLt_lt {d : Addr} {l : List (Addr × Obj)} (h : AllLt d l) : ∀ p ∈ l, p.1 < d := by
  induction l with
  | nil => intro p hp; exact absurd hp List.not_mem_nil
  | cons q r ih =>
    intro p hp
    unfold AllLt at h
    rcases List.mem_cons.mp hp with e | hp
    · rw [e]; exact h.1
    · exact ih h.2 p hp
theorem allLt_ne {d : Addr} {l : List (Addr × Obj)} (h : AllLt d l) : ∀ p ∈ l, p.1 ≠ d := fun p hp => Nat.ne_of_lt (allLt_lt h p hp)

/-- a procedure as it lies in the heap -/
structure PrA where
  a : Addr
  d : Addr
  fn : Int
  fnT : Tok
  kindV : Value
  entV : Value
  codesV : Value
  termsV : Value
  libV : Value
  helpV : Value
  pendV : Value
  fT : Tok
  lT : Tok
  t1 : Tok
  t2 : Tok
  t3 : Tok
  t4 : Tok
  t5 : Tok
  t6 : Tok
  t7 : Tok
  t8 : Tok
  t9 : Tok
  t10 : Tok
noncomputable abbrev pEnt (P : Params) (p : PrA) (first last : Int) : List DictEntry :=
  [⟨PyData.keyHash P (Str.ofString "functor"), .str (Str.ofString "functor") p.t1, .int p.fn p.fnT⟩,
   ⟨PyData.keyHash P (Str.ofString "kind"), .str (Str.ofString "kind") p.t2, p.kindV⟩,
   ⟨PyData.keyHash P (Str.ofString "entry"), .str (Str.ofString "entry") p.t3, p.entV⟩,
   ⟨PyData.keyHash P (Str.ofString "codes"), .str (Str.ofString "codes") p.t4, p.codesV⟩,
   ⟨PyData.keyHash P (Str.ofString "terms"), .str (Str.ofString "terms") p.t5, p.termsV⟩,
   ⟨PyData.keyHash P (Str.ofString "first_key"), .str (Str.ofString "first_key") p.t6, .int first p.fT⟩,
   ⟨PyData.keyHash P (Str.ofString "last_key"), .str (Str.ofString "last_key") p.t7, .int last p.lT⟩,
   ⟨PyData.keyHash P (Str.ofString "library"), .str (Str.ofString "library") p.t8, p.libV⟩,
   ⟨PyData.keyHash P (Str.ofString "helper"), .str (Str.ofString "helper") p.t9, p.helpV⟩,
   ⟨PyData.keyHash P (Str.ofString "pending"), .str (Str.ofString "pending") p.t10, p.pendV⟩]
noncomputable abbrev pObj (p : PrA) : Addr × Obj := (p.a, instObj 74 p.d)
noncomputable abbrev pDict (P : Params) (p : PrA) (first last : Int) : Addr × Obj := (p.d, dictOf (pEnt P p first last) 10)

theorem mem_tail {p q : Addr × Obj} {l : List (Addr × Obj)} (h : p ∈ l) : p ∈ q :: l := List.mem_cons_of_mem _ h
theorem mem_here {p : Addr × Obj} {l : List (Addr × Obj)} : p ∈ p :: l := List.mem_cons_self

/-- the addresses of a ledger are apart -/
noncomputable def NdA (l : List (Addr × Obj)) : Prop := @List.Nodup Nat (l.map (·.1))
/-- that one address is apart from each of a list, as arrows ahead of a goal -/
noncomputable def NdOne (R : Nat → Nat → Prop) (a : Nat) (G : Prop) : List (Addr × Obj) → Prop
  | [] => G
  | p :: l => R a p.1 → NdOne R a G l
/-- that the addresses of a ledger are apart, as arrows ahead of a goal -/
noncomputable def NdTo (R : Nat → Nat → Prop) (G : Prop) : List (Addr × Obj) → Prop
  | [] => G
  | p :: l => NdOne R p.1 (NdTo R G l) l
theorem ndOne {R : Nat → Nat → Prop} (hR : ∀ a b, a ≠ b → R a b) {a : Nat} {G : Prop} : ∀ {l : List (Addr × Obj)}, (∀ p ∈ l, a ≠ p.1) → NdOne R a G l → G := by
  intro l
  induction l with
  | nil => exact fun _ h => h
  | cons p l ih => exact fun h k => ih (fun q hq => h q (List.mem_cons_of_mem _ hq)) (k (hR _ _ (h p List.mem_cons_self)))
theorem ndTo {R : Nat → Nat → Prop} (hR : ∀ a b, a ≠ b → R a b) {G : Prop} : ∀ {l : List (Addr × Obj)}, NdA l → NdTo R G l → G := by
  intro l
  induction l with
  | nil => exact fun _ h => h
  | cons p l ih =>
    intro h k
    have h2 := List.nodup_cons.mp h
    exact ih h2.2 (ndOne hR (fun q hq e => h2.1 (List.mem_map.mpr ⟨q, hq, Eq.symm e⟩)) k)

theorem valueAt_stored_ne {kvs : List (Int × Value)} {k k' : Int} {v : Value} (hne : k ≠ k') : valueAt (stored kvs k' v) k = valueAt kvs k := by
  have e2 : ∀ l : List (Int × Value), (l.map (fun kv => if kv.1 = k' then (kv.1, v) else kv)).find? (fun kv => decide (kv.1 = k)) = l.find? (fun kv => decide (kv.1 = k)) := by
    intro l
    induction l with
    | nil => rfl
    | cons p r ih =>
      rw [List.map_cons, List.find?_cons, List.find?_cons, ih]
      by_cases h : p.1 = k'
      · have h2 : p.1 ≠ k := fun e => hne (e.symm.trans h)
        have h3 : decide (k' = k) = false := decide_eq_false fun e => hne e.symm
        simp [h, h3]
      · simp [h]
  unfold stored
  split
  · simp only [valueAt, e2]
  · simp only [valueAt, List.find?_append]
    have : List.find? (fun kv : Int × Value => decide (kv.1 = k)) [(k', v)] = none := by
      have h3 : decide (k' = k) = false := decide_eq_false fun e => hne e.symm
      simp only [List.find?_cons, h3, List.find?_nil]
    rw [this, Option.or_none]
theorem valueAt_stored_self {kvs : List (Int × Value)} {k : Int} {v : Value} (h : valueAt kvs k = none) : valueAt (stored kvs k v) k = some v := by
  rw [stored_absent h]
  simp only [valueAt, Option.map_eq_none_iff] at h
  simp only [valueAt, List.find?_append, h, Option.none_or, List.find?_cons, decide_true, Option.map_some]

section
variable {prog : Program} {w : World} {A : Around} {E : Value → Shared → Prop} {s : Shared} {h₀ : Heap} {L : Addr} {news : List (Addr × Obj)}
theorem len_mine {l : Addr} {vs : List Value} {n : Nat} {Q : Value → Shared → Prop} (N : News h₀ L s.heap news) (hm : (l, listOf vs.toArray n) ∈ news) (hfit : vs.length ≤ 1000)
    (h : Q (.int vs.length (s.toks + 1)) { s with toks := s.toks + 1 + 1 }) : wpAny (model prog w) A (call (.builtin "len") [.ref l]) Q E s := by
  refine len_list (items := vs.toArray) ⟨_, (N _ hm).1, rfl, n, rfl⟩ (by rw [List.size_toArray]; omega) ?_
  rw [List.size_toArray]; exact h
end

theorem For_mine {prog : Program} {w : World} {A : Around} {s : Shared} {env : Env} {h₀ : Heap} {L : Addr} {m : Str → Option Value} {E : Value → Shared → Prop} {Q : Flow → Shared → Prop} {x : Str} {px pos : Pos} {iter : Expr} {body : List Stmt} (_F : Fr h₀ L s.heap m) (hx : env.kindOf x = some .local)
    (hp : (env.scope.kind == .class || (env.scope.kind == .module && env.locals != env.globals)) = false)
    (hs : ∀ x, foldedSetIterable iter env x = pure x) (hE : PassesOwn (model prog w) A env E)
    (h : wpAny (model prog w) A (eval iter env) (fun xv s₁ => wpAny (model prog w) A (pyIter xv) (fun it s₂ => LoopAtV prog w A h₀ env x body Q E it s₂) E s₁) E s) :
    wpAny (model prog w) A (exec (.For (.Name x px) iter body [] pos) env) Q E s := For_invV h₀ hx hp h hs hE

theorem ndA_append {a b : List (Addr × Obj)} (h : NdA (a ++ b)) : NdA a ∧ NdA b ∧ ∀ p ∈ a, ∀ q ∈ b, p.1 ≠ q.1 := by
  unfold NdA at h ⊢
  rw [List.map_append, List.nodup_append] at h
  exact ⟨h.1, h.2.1, fun p hp q hq => h.2.2 _ (List.mem_map_of_mem hp) _ (List.mem_map_of_mem hq)⟩
theorem ndA_of {a b : List (Addr × Obj)} (ha : NdA a) (hb : NdA b) (h : ∀ p ∈ a, ∀ q ∈ b, p.1 ≠ q.1) : NdA (a ++ b) := by
  unfold NdA at *
  rw [List.map_append, List.nodup_append]
  refine ⟨ha, hb, fun x hx y hy => ?_⟩
  obtain ⟨p, hp, rfl⟩ := List.mem_map.mp hx
  obtain ⟨q, hq, rfl⟩ := List.mem_map.mp hy
  exact h p hp q hq

theorem map_eq {x : Str} {v : Value} {m₁ m : Str → Option Value} (h : ∀ y, y ≠ x → m₁ y = m y) : (fun y => if y = x then some v else m₁ y) = fun y => if y = x then some v else m y := by
  funext y
  by_cases e : y = x
  · simp only [e, if_true]
  · simp only [if_neg e]; exact h y e
theorem news_sub {h₀ h : Heap} {L : Addr} {l l' : List (Addr × Obj)} (N : News h₀ L h l) (hs : ∀ p ∈ l', p ∈ l) : News h₀ L h l' := fun p hp => N p (hs p hp)
theorem ndA_perm {a b : List (Addr × Obj)} (h : a.Perm b) (n : NdA a) : NdA b := by
  unfold NdA at *
  exact (h.map _).nodup_iff.mp n

theorem ndA_congr {a b : List (Addr × Obj)} (h : a.map (·.1) = b.map (·.1)) (n : NdA a) : NdA b := by
  unfold NdA at *
  exact h ▸ n
theorem allLt_addr {d : Addr} {a b : List (Addr × Obj)} (h : ∀ p ∈ a, p.1 < d) (e : b.map (·.1) = a.map (·.1)) : ∀ p ∈ b, p.1 < d := by
  intro p hp
  have h1 : p.1 ∈ a.map (·.1) := e ▸ List.mem_map_of_mem hp
  obtain ⟨q, hq, e2⟩ := List.mem_map.mp h1
  exact e2 ▸ h q hq
theorem nd_mid {A pr po : List (Addr × Obj)} {x y : Addr × Obj} (h : NdA (A ++ (pr ++ x :: y :: po))) : (∀ p ∈ A, @Ne Nat p.1 y.1) ∧ (∀ p ∈ pr ++ po, @Ne Nat p.1 y.1) ∧ @Ne Nat x.1 y.1 := by
  obtain ⟨_, h2, h3⟩ := ndA_append h
  refine ⟨fun p hp => h3 p hp y (by simp), ?_⟩
  obtain ⟨_, h5, h6⟩ := ndA_append h2
  unfold NdA at h5
  simp only [List.map_cons, List.nodup_cons, List.mem_cons, not_or] at h5
  refine ⟨fun p hp => ?_, h5.1.1⟩
  rcases List.mem_append.mp hp with hp | hp
  · exact h6 p hp y (by simp)
  · intro e
    exact h5.2.1 (e ▸ List.mem_map_of_mem hp)
section
variable {α : Type} {l a b c d e x y : α} {pr po own : List α}
theorem sub_in5 : ∀ p ∈ x :: y :: a :: b :: l :: c :: d :: e :: (pr ++ po ++ own), p ∈ l :: ([a, b, c, d, e] ++ (pr ++ x :: y :: po)) ++ own := by
  intro p hp
  simp only [List.mem_append, List.mem_cons, List.not_mem_nil, or_false] at hp ⊢
  grind
theorem sub_out5 : ∀ p ∈ l :: ([a, b, c, d, e] ++ (pr ++ x :: y :: po)) ++ own, p ∈ x :: y :: a :: b :: l :: c :: d :: e :: (pr ++ po ++ own) := by
  intro p hp
  simp only [List.mem_append, List.mem_cons, List.not_mem_nil, or_false] at hp ⊢
  grind
end
theorem disj_addr {a b r : List (Addr × Obj)} (e : b.map (·.1) = a.map (·.1)) (D : Disj a r) : Disj b r := by
  intro p hp q hq
  have h1 : p.1 ∈ a.map (·.1) := e ▸ List.mem_map_of_mem hp
  obtain ⟨p', hp', e2⟩ := List.mem_map.mp h1
  exact e2 ▸ D p' hp' q hq

theorem map_eq2 {x : Str} {v : Value} {stored : List Str} {m₁ m : Str → Option Value} (h : ∀ y, y ≠ x → stored.contains y = false → m₁ y = m y) :
    (fun y => if y = x then some v else m₁ y) = fun y => if y = x then some v else if stored.contains y = true then m₁ y else m y := by
  funext y
  by_cases e : y = x
  · simp only [e, if_true]
  · simp only [if_neg e]
    cases h2 : stored.contains y with
    | true => simp only [if_true]
    | false => simp only [Bool.false_eq_true, if_false]; exact h y e h2
theorem ints_at {vs : List Value} {ns : List Int} (h : IntsAre vs ns) : ∀ {i : Nat} {v : Value}, vs[i]? = some v → ∃ k t, v = .int k t := by
  induction h with
  | nil => intro i v h; simp at h
  | cons n t _ ih =>
    intro i v h
    cases i with
    | zero => exact ⟨n, t, by simpa using h.symm⟩
    | succ i => exact ih (by simpa using h)
theorem ints_snoc {vs : List Value} {ns : List Int} (h : IntsAre vs ns) (k : Int) (t : Tok) : IntsAre (vs ++ [.int k t]) (ns ++ [k]) := by
  induction h with
  | nil => exact .cons _ _ .nil
  | cons n t' _ ih => exact .cons _ _ ih
theorem one_of_ne {z y : Str} (h : y ≠ z) : [z].contains y = false := by
  simp [h]
theorem map_eqz {x z : Str} {v vz : Value} {m₁ m : Str → Option Value} (h : ∀ y, y ≠ x → [z].contains y = false → m₁ y = m y) (hz : m₁ z = some vz) :
    (fun y => if y = x then some v else m₁ y) = fun y => if y = x then some v else if y = z then some vz else m y := by
  funext y
  by_cases e : y = x
  · simp only [e, if_true]
  · simp only [if_neg e]
    by_cases e2 : y = z
    · simp only [e2, if_true]; exact hz
    · simp only [if_neg e2]; exact h y e (one_of_ne e2)
theorem ne_of_two {z a b : Str} (h : [a, b].contains z = false) : z ≠ a ∧ z ≠ b := by
  constructor <;> rintro rfl <;> simp at h
theorem sub_drop2 {α : Type} {a b : α} {own own2 : List α} : ∀ p ∈ [a, b] ++ own, p ∈ a :: b :: (own ++ own2) := by
  intro p hp
  simp only [List.cons_append, List.nil_append, List.mem_cons, List.mem_append] at hp ⊢
  grind
theorem map_eq4 {x : Str} {stored : List Str} {m₁ m : Str → Option Value} (h : ∀ y, y ≠ x → stored.contains y = false → m₁ y = m y) :
    m₁ = fun y => if y = x then m₁ x else if stored.contains y = true then m₁ y else m y := by
  funext y
  by_cases e : y = x
  · simp only [e, if_true]
  · simp only [if_neg e]
    cases h2 : stored.contains y with
    | true => simp only [if_true]
    | false => simp only [Bool.false_eq_true, if_false]; exact h y e h2
theorem sub_head {α : Type} {a : α} {l r : List α} : ∀ p ∈ a :: r, p ∈ (a :: l) ++ r := by
  intro p hp
  rcases List.mem_cons.mp hp with rfl | hp
  · exact .head _
  · exact List.mem_append_right _ hp
theorem in_tail {X led : List (Addr × Obj)} {x : Addr × Obj} (h : ∀ p ∈ X, p ∈ led) : ∀ p ∈ X, p ∈ x :: led := fun p hp => mem_tail (h p hp)
theorem dat_tail {led : List (Addr × Obj)} {x : Addr × Obj} {v : Value} {d : Dat} (h : DatIn led v d) : DatIn (x :: led) v d := h.mono fun _ hp => mem_tail hp
/-- the words of the records lie in the ledger -/
noncomputable def WordOk (led : List (Addr × Obj)) (r : RecA) : Prop := DatIn led (.ref r.ik) r.c.word ∧ kqdOk 8 r.c.word = true
theorem word_tail {led : List (Addr × Obj)} {x : Addr × Obj} {c : List RecA} (h : ∀ r ∈ c, WordOk led r) : ∀ r ∈ c, WordOk (x :: led) r := fun r hr => ⟨dat_tail (h r hr).1, (h r hr).2⟩

theorem chLed_suffix (P : Params) {c : List RecA} : ∀ pre : List RecA, ∀ p ∈ chLed P c, p ∈ chLed P (pre ++ c) := by
  intro pre
  induction pre with
  | nil => exact fun p hp => hp
  | cons r rs ih => exact fun p hp => .tail _ (.tail _ (ih p hp))

theorem in_mono {X led led' : List (Addr × Obj)} (h : ∀ p ∈ X, p ∈ led) (s : ∀ p ∈ led, p ∈ led') : ∀ p ∈ X, p ∈ led' := fun p hp => s p (h p hp)
theorem dat_mono {led led' : List (Addr × Obj)} {v : Value} {d : Dat} (h : DatIn led v d) (s : ∀ p ∈ led, p ∈ led') : DatIn led' v d := h.mono s
theorem word_mono {led led' : List (Addr × Obj)} {c : List RecA} (h : ∀ r ∈ c, WordOk led r) (s : ∀ p ∈ led, p ∈ led') : ∀ r ∈ c, WordOk led' r := fun r hr => ⟨(h r hr).1.mono s, (h r hr).2⟩
/-- the terms and the words of the records lie in the ledger -/
noncomputable def TermOk (led : List (Addr × Obj)) (r : RecA) : Prop := DatIn led (.ref r.tm) r.c.term ∧ kqdOk 7 r.c.term = true ∧ DatIn led (.ref r.ik) r.c.word ∧ kqdOk 7 r.c.word = true
theorem term_mono {led led' : List (Addr × Obj)} {c : List RecA} (h : ∀ r ∈ c, TermOk led r) (s : ∀ p ∈ led, p ∈ led') : ∀ r ∈ c, TermOk led' r := fun r hr => ⟨(h r hr).1.mono s, (h r hr).2.1, (h r hr).2.2.1.mono s, (h r hr).2.2.2⟩

/-- a store with its two procedures lies in the ledger -/
structure StIn (w : World) (led : List (Addr × Obj)) (S : StA) (nr gen : Int) (od : Obj) (kvs : List (Int × Value)) (pd : Addr) (po : Obj) (P4 P9 : PrA) (c4 c9 : List RecA) (l4 l9 : Int) : Prop where
  h1 : sObj S ∈ led
  h2 : sDict w.params S nr gen ∈ led
  h3 : (S.rd, od) ∈ led
  hod : od.IsDictOf (PySem.intKind PySem.Challenge.rw_rh0068_01.row.prog w) kvs
  g1 : (pd, po) ∈ led
  g2 : po.IsDictOf (PySem.intKind PySem.Challenge.rw_rh0068_01.row.prog w) [(4, .ref P4.a), (9, .ref P9.a)]
  p4 : pObj P4 ∈ led
  q4 : pDict w.params P4 (hk c4) l4 ∈ led
  p9 : pObj P9 ∈ led
  q9 : pDict w.params P9 (hk c9) l9 ∈ led
  i4 : ∀ p ∈ chLed w.params c4, p ∈ led
  i9 : ∀ p ∈ chLed w.params c9, p ∈ led
  v4 : ∀ r ∈ c4, valueAt kvs r.c.key = some (.ref r.a)
  v9 : ∀ r ∈ c9, valueAt kvs r.c.key = some (.ref r.a)
  k4 : ∀ r ∈ c4, 0 ≤ r.c.key
  k9 : ∀ r ∈ c9, 0 ≤ r.c.key
  n4 : c4.length ≤ 19
  n9 : c9.length ≤ 19
  t4 : ∀ r ∈ c4, TermOk led r
  t9 : ∀ r ∈ c9, TermOk led r
theorem kqdOk_succ : ∀ (n : Nat) (d : Dat), kqdOk n d = true → kqdOk (n + 1) d = true := by
  intro n
  induction n with
  | zero => intro d h; cases d <;> simp_all [kqdOk]
  | succ n ih =>
    intro d h
    cases d with
    | tuple ds => simp only [kqdOk, List.all_eq_true] at h ⊢; exact fun x hx => ih x (h x hx)
    | list ds => simp only [kqdOk, List.all_eq_true] at h ⊢; exact fun x hx => ih x (h x hx)
    | _ => simp_all [kqdOk]
theorem word_of_term {led : List (Addr × Obj)} {c : List RecA} (h : ∀ r ∈ c, TermOk led r) : ∀ r ∈ c, WordOk led r := fun r hr => ⟨(h r hr).2.2.1, kqdOk_succ 7 _ (h r hr).2.2.2⟩
theorem StIn.mono {w : World} {led led' : List (Addr × Obj)} {S : StA} {nr gen : Int} {od : Obj} {kvs : List (Int × Value)} {pd : Addr} {po : Obj} {P4 P9 : PrA} {c4 c9 : List RecA} {l4 l9 : Int} (I : StIn w led S nr gen od kvs pd po P4 P9 c4 c9 l4 l9) (s : ∀ p ∈ led, p ∈ led') : StIn w led' S nr gen od kvs pd po P4 P9 c4 c9 l4 l9 :=
  ⟨s _ I.h1, s _ I.h2, s _ I.h3, I.hod, s _ I.g1, I.g2, s _ I.p4, s _ I.q4, s _ I.p9, s _ I.q9, in_mono I.i4 s, in_mono I.i9 s, I.v4, I.v9, I.k4, I.k9, I.n4, I.n9, term_mono I.t4 s, term_mono I.t9 s⟩
/-- the goal behind a letter, while facts are taken apart -/
theorem hideG {G : Prop} (h : ∀ G' : Prop, (G → G') → G') : G := h G id
/-- what is wanted behind a walk, behind a letter -/
theorem hidePost {α : Type} {M : Model} {A : Around} {t : Sem α} {Q : α → Shared → Prop} {Er : Value → Shared → Prop} {s : Shared} (h : ∀ Q' : α → Shared → Prop, (∀ f s', Q f s' → Q' f s') → wpAny M A t Q' Er s) : wpAny M A t Q Er s := h Q fun _ _ p => p
/-- a contract used, what every use wants found by itself -/
theorem Meets.useA {w : World} {f : Addr} {args : List Value} {need : Nat} {pre : List (Addr × Obj)} {post : Value → List (Addr × Obj) → Prop}
    {dp un : Nat} {gd : Option (List Code)} {cn : Str} {cs : Scope} {a : Addr} {ccd : Value} {cl : List (Str × Addr)} {outer : List Env} {A₀ : Around} {base h₀ : Heap} {L : Addr} {m : Str → Option Value} {s : Shared}
    {mean : ExcName → Option Value} {mg mb : Str → Option Value} {Q E : Value → Shared → Prop}
    (B : Below A₀ base outer h₀ := by k_asm) (F : Fr h₀ L s.heap m := by k_asm) (X : (hd.heap_1 w.params).In h₀ := by k_asm) (N : News h₀ L s.heap pre := by k_asm) (T : Top vw (looseW vw []) mean mg mb h₀ := by k_asm) (hk : cs.kind = .function := by first | exact rfl | assumption)
    (C : Meets w f args need pre post) (hd : dp + need < recursionLimit := by ktr_room) (hu : un + 8 * need + 64 < cLine := by ktr_units)
    (ret : ∀ r tl h' tk', Fr h₀ L h' m → News h₀ L h' tl → post r tl → Q r { s with heap := h', toks := tk' }) :
    wpAny (model PySem.Challenge.rw_rh0068_01.row.prog w) (ktrTop dp un gd cn cs L a ccd cl outer) (call (.ref f) args) Q E s :=
  C.use0 B F X N T hk hd hu ret

end
local macro_rules | `(tactic| walk_at "m_sub") => `(tactic| (intro _ hp; repeat (first | exact hp | refine mem_tail ?_ | refine List.mem_append_right _ ?_)))
local macro_rules | `(tactic| k_mem) => `(tactic| ktr_member)
local macro_rules | `(tactic| k_mem) => `(tactic| (solve | (repeat (first | exact mem_here | with_reducible assumption | refine' mem_tail ?_ | refine' List.mem_append_right _ ?_))))
local macro_rules | `(tactic| walk_at "subscriptTail") => `(tactic| (k_here; (with_reducible show wpAny _ _ (subscriptTail _ _ (Value.ref _) (Value.int _ _)) _ _ _); k_dflt (refine kba_turn (value' := PySem.Expr.Name (PySem.Str.ofString "_") ⟨0, 0, 0, 0⟩) (fun _ => rfl) ?_; refine' kda_item (knd := PySem.intKind _ _) (by k_asm) (by k_mem) (by with_reducible assumption) (intKind_is _ _ _ _) (by with_reducible assumption) ?_)))
local macro_rules | `(tactic| walk_at "exec While Compare cons nil") => `(tactic| (refine Halt.of ?_))
local macro_rules | `(tactic| k_all) => `(tactic| exact allLt_ne (by with_reducible assumption))
local macro_rules | `(tactic| k_all) => `(tactic| with_reducible assumption)
local macro_rules | `(tactic| walk_at "pyIter ref") => `(tactic| (refine Halt.of ?_))
local macro_rules | `(tactic| size_fits) => `(tactic| with_reducible assumption)
local macro_rules | `(tactic| walk_at "call builtin:list.append") => `(tactic| (k_here; (try dsimp only [List.cons_append, List.nil_append]); k_dflt (refine' append_K (by k_asm) (by k_asm) (by k_upd) ?_ (by with_reducible assumption); k_whole); intro h' F' N'; (try k_sweep)))
local macro_rules | `(tactic| walk_at "setItem ref int") => `(tactic| (k_here; (with_reducible show wpAny _ _ (setItem (Value.ref _) (Value.int _ _) (Value.ref _)) _ _ _); k_dflt (refine' kda_set (knd := PySem.intKind _ _) (by k_asm) (by k_asm) (by k_updF) (by with_reducible assumption) (intKind_is _ _ _ _) (by with_reducible assumption) ?_); intro h' o' F' N' hd'; (try dsimp only at N'); (try k_sweep)))
local macro_rules | `(tactic| walk_at "call ref") => `(tactic| (refine Halt.of ?_))
local macro_rules | `(tactic| k_ne) => `(tactic| (refine neN ?_; (try dsimp only); first | with_reducible assumption | (refine Ne.symm ?_; with_reducible assumption)))
local macro_rules | `(tactic| walk_at "getMethod ref") => `(tactic| (k_here; (with_reducible show wpAny _ _ (getMethod (Value.ref _) (Str.ofString "get") _) _ _ _); k_dflt (refine' kdg_method (knd := PySem.intKind _ _) (by k_asm) (by k_mem) (by with_reducible assumption) ?_)))
local macro_rules | `(tactic| walk_at "call builtin:dict.get") => `(tactic| (k_here; (try dsimp only [List.cons_append, List.nil_append]); k_dflt (refine' kdg_get1 (knd := PySem.intKind _ _) (by k_asm) (by k_mem) (by with_reducible assumption) (by with_reducible assumption) (intKind_is _ _ _ _) _ (by with_reducible assumption) ?_; (try dsimp only [Option.getD]))))
local macro_rules | `(tactic| walk_at "call builtin:len") => `(tactic| (k_here; (try dsimp only [List.cons_append, List.nil_append]); k_dflt (first
  | (refine' len_mine (by k_asm) (by k_mem) (by with_reducible assumption) ?_)
  | (refine' kda_len (knd := PySem.intKind _ _) (by k_asm) (by k_mem) (by with_reducible assumption) (by with_reducible assumption) (by with_reducible assumption) ?_))))
local macro_rules | `(tactic| walk_at "m_for") => `(tactic| (k_here; (with_reducible rename Fr _ _ _ _ => kF); k_dflt (refine' For_mine kF rfl rfl (fun _ => rfl) (by first | passes_own | with_unfolding_all passes_own) ?_)))
local macro_rules | `(tactic| walk_at "exec For") => `(tactic| walk_at "m_for")
local macro_rules | `(tactic| walk_at "exec For Name Name cons nil") => `(tactic| walk_at "m_for")
local macro_rules | `(tactic| walk_at "exec For Name Call cons nil") => `(tactic| walk_at "m_for")
local macro_rules | `(tactic| walk_at "exec For Name Subscript cons nil") => `(tactic| walk_at "m_for")
local macro_rules | `(tactic| walk_at "exec While BoolOp") => `(tactic| (refine Halt.of ?_))
local macro_rules | `(tactic| walk_at "exec While BoolOp cons nil") => `(tactic| (refine Halt.of ?_))
local macro_rules | `(tactic| walk_at "exec For Name List cons nil") => `(tactic| walk_at "m_for")

section

theorem visible_meets (w : World) (led : List (Addr × Obj)) (sa : Addr) (r : RecA) (nx : Int) (g : Int) (gt : Tok) (h1 : rObj r ∈ led) (h2 : rDict w.params r nx ∈ led) :
    Meets w 120 [.ref sa, .ref r.a, .int g gt] 5 led (fun v tl => v = .bool (visB r.c g) ∧ tl = led) := by
  w_on
  unfold Meets
  k_fill
  intro dp un gd cn cs a ccd cl outer A₀ base h₀ L m rest s mean mg mb Q E B F X N D T hk hdp hun ret
  refine wpAny_call ?_
  k_dflt (refine' code_frame ?k1 ?k2 ?k3 ?k4 ?kD ?k5 ?kA ?kF ?kK ?k6 ?k7 ?k8 ?k9 ?kB ?_ ?c2 ?c3 ?c4 ?c5; (case kA => exact rfl); (case kF => exact rfl); (case kK => assumption); (case k1 => k_asm); (case k2 => k_asm); (case k3 => k_asm); (case k4 => k_asm); (case kD => k_asm); (case k5 => k_asm); (case k6 => k_is); (case k7 => k_is); (case k8 => ktr_room); (case k9 => exact BindsTo.of_eq rfl); (case c5 => decide); (case kB => exact locs rfl); (case c2 => exact rfl); (case c3 => exact rfl); (case c4 => exact rfl); k_whole)
  intro _ _ _ _ _ _ _ _ _ l1
  (try k_lt l1)
  (try dsimp only)
  (try k_fold)
  k_steps
  all_goals (((try k_unfold); (try dsimp only); refine' ⟨_, _, _, ?k1, ?k2, ?_⟩; (case k1 => k_asm); (case k2 => k_asm); intro _ _ _; (try dsimp only)); refine ret _ _ _ _ (by assumption) (by assumption) (by assumption) ⟨?_, rfl⟩)
  all_goals (clear ret; refine congrArg Value.bool (decide_eq_decide.mpr ?_); omega)
section
variable {prog : Program} {w : World} {A : Around} {E : Value → Shared → Prop} {s : Shared} {h₀ : Heap} {L : Addr} {news : List (Addr × Obj)} {v u : Value} {d e : Dat} {Q : Value → Shared → Prop}
theorem dat_shaped {d : Dat} (h : kqdOk 8 d = true) : SeqAt.shaped (kqdP d) = true := by
  have l := kqd_lay 8 d h
  unfold SeqAt.shaped; rw [l.1, Bool.true_and]; exact decide_eq_true (Nat.le_trans l.2 (by decide))
theorem dat_eq (N : News h₀ L s.heap news) (D1 : DatIn news v d) (D2 : DatIn news u e) (k1 : kqdOk 8 d = true) (k2 : kqdOk 8 e = true) (hu : A.units + 64 < cLine)
    (h : Q (.bool (PyData.eqv (kqdP d) (kqdP e))) s) : wpAny (model prog w) A (compareOp .Eq v u) Q E s := by
  obtain ⟨as, ra⟩ := kqd_in N 8 D1 k1
  obtain ⟨bs, rb⟩ := kqd_in N 8 D2 k2
  exact eq_dataH ra rb (dat_shaped k1) (dat_shaped k2) hu h
theorem dat_eqR {db : PyData} {bs : List Addr} (N : News h₀ L s.heap news) (D1 : DatIn news v d) (k1 : kqdOk 8 d = true) (rb : Reads s.heap u db bs) (k2 : SeqAt.shaped db = true) (hu : A.units + 64 < cLine)
    (h : Q (.bool (PyData.eqv (kqdP d) db)) s) : wpAny (model prog w) A (compareOp .Eq v u) Q E s := by
  obtain ⟨as, ra⟩ := kqd_in N 8 D1 k1
  exact eq_dataH ra rb (dat_shaped k1) k2 hu h
end
noncomputable abbrev varD : Dat := .tuple [.str (Str.ofString "var")]
theorem varOk : kqdOk 8 varD = true := by decide +kernel
/-- what matching answers -/
noncomputable def matchB (d e : Dat) : Bool := PyData.eqv (kqdP d) (kqdP varD) || PyData.eqv (kqdP e) (kqdP varD) || PyData.eqv (kqdP d) (kqdP e)

section
local macro_rules | `(tactic| walk_at "compareOp Eq ref ref") => `(tactic| (k_here; k_dflt (first
  | (refine' dat_eqR (db := kqdP varD) ?N ?D ?k1 ?R ?k2 ?u ?_; (case N => k_asm); (case D => assumption); (case k1 => assumption); (case R => exact reads_tuple_at (Frag.In.keeps (K := hd.heap_1 _) (by k_asm) (Fr.keep (by k_asm)) _ _ (by k_is)) rfl rfl (ReadsAll.cons (Reads.str _ _) ReadsAll.nil)); (case k2 => exact dat_shaped varOk); (case u => ktr_units))
  | (refine' dat_eq ?N ?D ?D' ?k1 ?k2 ?u ?_; (case N => k_asm); (case D => assumption); (case D' => assumption); (case k1 => assumption); (case k2 => assumption); (case u => ktr_units)))))
theorem matching_meets (w : World) (led : List (Addr × Obj)) (v u : Addr) (d e : Dat) (Dv : DatIn led (.ref v) d) (Du : DatIn led (.ref u) e) (kd : kqdOk 8 d = true) (ke : kqdOk 8 e = true) :
    Meets w 29 [.ref v, .ref u] 5 led (fun r tl => r = .bool (matchB d e) ∧ tl = led) := by
  w_on
  unfold Meets
  k_fill
  intro dp un gd cn cs a ccd cl outer A₀ base h₀ L m rest s mean mg mb Q E B F X N D T hk hdp hun ret
  refine wpAny_call ?_
  k_dflt (refine' code_frame ?k1 ?k2 ?k3 ?k4 ?kD ?k5 ?kA ?kF ?kK ?k6 ?k7 ?k8 ?k9 ?kB ?_ ?c2 ?c3 ?c4 ?c5; (case kA => exact rfl); (case kF => exact rfl); (case kK => assumption); (case k1 => k_asm); (case k2 => k_asm); (case k3 => k_asm); (case k4 => k_asm); (case kD => k_asm); (case k5 => k_asm); (case k6 => k_is); (case k7 => k_is); (case k8 => ktr_room); (case k9 => exact BindsTo.of_eq rfl); (case c5 => decide); (case kB => exact locs rfl); (case c2 => exact rfl); (case c3 => exact rfl); (case c4 => exact rfl); k_whole)
  intro _ _ _ _ _ _ _ _ _ l1
  (try k_lt l1)
  (try dsimp only)
  (try k_fold)
  k_steps
  all_goals (((try k_unfold); (try dsimp only); refine' ⟨_, _, _, ?k1, ?k2, ?_⟩; (case k1 => k_asm); (case k2 => k_asm); intro _ _ _; (try dsimp only)); refine ret _ _ _ _ (by assumption) (by assumption) (by assumption) ⟨?_, rfl⟩)
  all_goals (clear ret; refine congrArg Value.bool ?_; simp only [matchB, *, Bool.or_true, Bool.true_or, Bool.false_or])
end

end
section

local macro_rules | `(tactic| walk_at "call ref") => `(tactic| (k_here; k_dflt (refine' Meets.useA (C := visible_meets _ _ _ _ _ _ _ (by k_mem) (by k_mem)) (ret := ?_)); k_whole; intro r9 tl9 h9 tk9 F9 N9 hp9; obtain ⟨e9, e9'⟩ := hp9; subst e9; replace e9' := e9'.symm; subst e9'; (try k_sweep); (try dsimp only); (try k_fold)))
local macro_rules | `(tactic| walk_at "call ref") => `(tactic| (k_here; k_dflt (refine' Meets.useA (C := matching_meets _ _ _ _ _ _ (by with_reducible assumption) (by with_reducible assumption) (by assumption) (by assumption)) (ret := ?_)); k_whole; intro r9 tl9 h9 tk9 F9 N9 hp9; obtain ⟨e9, e9'⟩ := hp9; subst e9; replace e9' := e9'.symm; subst e9'; (try k_sweep); (try dsimp only); (try k_fold)))

noncomputable def liveF (g : Int) (cell : Dat) : List Rc → Int
  | [] => -1
  | r :: rs => if visB r g = true then (if matchB r.word cell = true then r.key else liveF g cell rs) else liveF g cell rs
theorem live_from_meets (w : World) (led : List (Addr × Obj)) (S : StA) (nr gen : Int) (od : Obj) (kvs : List (Int × Value)) (c : List RecA) (g : Int) (gt pt : Tok) (cell : Addr) (cd : Dat)
    (h1 : sObj S ∈ led) (h2 : sDict w.params S nr gen ∈ led) (h3 : (S.rd, od) ∈ led) (hod : od.IsDictOf (PySem.intKind PySem.Challenge.rw_rh0068_01.row.prog w) kvs)
    (hc : ∀ p ∈ chLed w.params c, p ∈ led) (hv : ∀ r ∈ c, valueAt kvs r.c.key = some (.ref r.a)) (hpos : ∀ r ∈ c, 0 ≤ r.c.key) (hw : ∀ r ∈ c, WordOk led r) (hcell : DatIn led (.ref cell) cd) (hcok : kqdOk 8 cd = true) :
    Meets w 127 [.ref S.a, .int (hk c) pt, .int g gt, .ref cell] 20 led (fun v tl => (∃ t, v = .int (liveF g cd (c.map (·.c))) t) ∧ tl = led) := by
  w_on
  unfold Meets
  k_fill
  intro dp un gd cn cs a ccd cl outer A₀ base h₀ L m rest s mean mg mb Q E B F X N D T hk9 hdp hun ret
  refine wpAny_call ?_
  k_dflt (refine' code_frame ?k1 ?k2 ?k3 ?k4 ?kD ?k5 ?kA ?kF ?kK ?k6 ?k7 ?k8 ?k9 ?kB ?_ ?c2 ?c3 ?c4 ?c5; (case kA => exact rfl); (case kF => exact rfl); (case kK => assumption); (case k1 => k_asm); (case k2 => k_asm); (case k3 => k_asm); (case k4 => k_asm); (case kD => k_asm); (case k5 => k_asm); (case k6 => k_is); (case k7 => k_is); (case k8 => ktr_room); (case k9 => exact BindsTo.of_eq rfl); (case c5 => decide); (case kB => exact locs rfl); (case c2 => exact rfl); (case c3 => exact rfl); (case c4 => exact rfl); k_whole)
  intro _ _ _ _ _ _ _ _ _ l1
  (try k_lt l1)
  (try dsimp only)
  (try k_fold)
  k_steps

  refine Halt.to ?_
  (rename Fr _ _ _ _ => lF'); (rename News _ _ _ _ => lN')
  k_dflt (refine' kwd_while0 (Rel := fun led' v c' => (∃ t, v = .int (hk c') t) ∧ ∀ p ∈ chLed w.params c', p ∈ led') (y := Str.ofString "place") (d₀ := c) [Str.ofString "record"] List.length (fun c₀ c' => (∀ r ∈ c', r ∈ c₀) ∧ liveF g cd (c₀.map (·.c)) = liveF g cd (c'.map (·.c))) lF' lN' ?hy ?rel ?inv ?turn ?hE)
  case hy => rfl
  case rel => exact ⟨⟨_, rfl⟩, hc⟩
  case inv => exact ⟨fun _ h => h, rfl⟩
  case hE => first | passes_own | with_unfolding_all passes_own
  case turn =>
    intro v' d' u' h' tk' hR' hI' F' N'
    clear lF' lN'
    obtain ⟨⟨t', rfl⟩, hin⟩ := hR'
    obtain ⟨hsub, hI⟩ := hI'
    cases d' with
    | nil =>
      simp only [hk] at F'
      k_steps
      (try k_unfold)
      (try dsimp only)
      refine' ⟨_, _, _, ?k1, ?k2, ?_⟩
      (case k1 => k_asm)
      (case k2 => k_asm)
      intro _ _ _
      (try dsimp only)
      exact ret _ _ _ _ (by assumption) (by assumption) (by assumption) ⟨⟨_, by rw [hI]; rfl⟩, rfl⟩
    | cons r rs =>
      have e1 : rObj r ∈ led := hin _ (.head _)
      have e2 : rDict w.params r (hk rs) ∈ led := hin _ (.tail _ (.head _))
      have e3 := hv r (hsub r (.head _))
      have e4 := hpos r (hsub r (.head _))
      obtain ⟨e5, e6⟩ := hw r (hsub r (.head _))
      dsimp only [hk] at F'
      k_steps
      · ((try k_unfold); (try dsimp only); refine' ⟨_, _, _, ?k1, ?k2, ?_⟩; (case k1 => k_asm); (case k2 => k_asm); intro _ _ _; (try dsimp only))
        exact ret _ _ _ _ (by assumption) (by assumption) (by assumption) ⟨⟨t', by rw [hI]; simp only [List.map_cons, liveF, *, if_true]⟩, rfl⟩
      all_goals (refine KwdEnd0.intro (d' := rs) (by assumption) (by assumption) (fun _ h => h) (by with_unfolding_all rfl) ⟨⟨_, rfl⟩, fun p hp => hin p (.tail _ (.tail _ hp))⟩ ⟨fun r' h' => hsub r' (.tail _ h'), ?_⟩ (Nat.lt_succ_self _) (fun z z1 z2 => by simp only [z1, ne_of_one z2, z2, if_false, Bool.false_eq_true]; try rfl))
      all_goals (rw [hI]; simp only [List.map_cons, liveF, *, if_true, if_false, Bool.false_eq_true])

end
section

section
variable {prog : Program} {w : World} {A : Around} {E : Value → Shared → Prop} {Q : Flow → Shared → Prop} {s : Shared} {env : Env} {h₀ : Heap} {L : Addr}

/-- the end of a turn of a while over a datum -/
noncomputable def WdPost {δ : Type} (h₀ : Heap) (L : Addr) (s : Shared) (Rel : δ → Value → List (Addr × Obj) → Prop) (size : δ → Nat) (y : Str) (stored : List Str) (m₀ : Str → Option Value) (Q : Flow → Shared → Prop) (d : δ) (f : Flow) (s₂ : Shared) : Prop :=
  match f with
  | .ret v => Q (.ret v) s₂
  | .brk => Q .next s₂
  | _ => ∃ h' tk m' led' v' d', s₂ = { s with heap := h', toks := tk } ∧ Fr h₀ L h' m' ∧ News h₀ L h' led' ∧ m' y = some v' ∧ Rel d' v' led' ∧ size d' < size d ∧ ∀ x, x ≠ y → stored.contains x = false → m' x = m₀ x

theorem while_d {δ : Type} (Rel : δ → Value → List (Addr × Obj) → Prop) {test : Expr} {body : List Stmt} {pos : Pos} {m₀ : Str → Option Value} {led₀ : List (Addr × Obj)} {y : Str} {v₀ : Value} {d₀ : δ} (stored : List Str) (size : δ → Nat)
    (F : Fr h₀ L s.heap m₀) (N : News h₀ L s.heap led₀) (hy : m₀ y = some v₀) (hr : Rel d₀ v₀ led₀)
    (turn : ∀ v d led (u : Str → Option Value) h tk, Rel d v led → Fr h₀ L h (fun x => if x = y then some v else if stored.contains x then u x else m₀ x) → News h₀ L h led →
      wpAny (model prog w) A (isTrue test env (eval test env)) (fun b s₂ =>
        if b = true then wpAny (model prog w) A (execs body env) (WdPost h₀ L s Rel size y stored m₀ Q d) E s₂ else Q .next s₂) E { s with heap := h, toks := tk })
    (hE : PassesOwn (model prog w) A env E) :
    wpAny (model prog w) A (exec (.While test body [] pos) env) Q E s := by
  refine While_inv2 (fun n m nx => ∃ v d, size d = n ∧ m y = some v ∧ Rel d v nx ∧ ∀ x, x ≠ y → stored.contains x = false → m x = m₀ x) F N ⟨v₀, d₀, rfl, hy, hr, fun _ _ _ => rfl⟩ ?_ hE
  rintro n m₁ nx h tk F₁ N₁ ⟨v, d, hsz, hv, hR, hm⟩
  rw [← hsz]
  have e : (fun x => if x = y then some v else if stored.contains x then m₁ x else m₀ x) = m₁ := by
      funext x
      by_cases h1 : x = y
      · subst h1; simp [hv]
      · simp only [if_neg h1]
        cases h9 : stored.contains x with
        | true => simp
        | false => simp only [Bool.false_eq_true, if_false]; exact (hm x h1 h9).symm
  refine wpAny_mono (turn v d nx m₁ h tk hR (by rw [e]; exact F₁) N₁) (fun b s₂ p => ?_) fun _ _ x => x
  cases b with
  | false => simpa using p
  | true =>
    simp only [if_true] at p ⊢
    refine wpAny_mono p (fun f s₃ q => ?_) fun _ _ x => x
    cases f with
    | ret v => exact q
    | brk => exact q
    | next =>
      obtain ⟨h', tk', m', news', v', d', rfl, F', N', hv', hR', hs, hm'⟩ := q
      exact ⟨h', tk', m', news', size d', rfl, F', N', hs, v', d', rfl, hv', hR', hm'⟩
    | cont =>
      obtain ⟨h', tk', m', news', v', d', rfl, F', N', hv', hR', hs, hm'⟩ := q
      exact ⟨h', tk', m', news', size d', rfl, F', N', hs, v', d', rfl, hv', hR', hm'⟩

/-- the end of a turn of a for -/
noncomputable def FdPost (h₀ : Heap) (L : Addr) (s : Shared) (Jn : (Str → Option Value) → List (Addr × Obj) → Prop) (own : List (Addr × Obj)) (Q : Flow → Shared → Prop) (f : Flow) (s₂ : Shared) : Prop :=
  match f with
  | .ret v => Q (.ret v) s₂
  | .brk => Q .next s₂
  | _ => ∃ h' tk m' led', s₂ = { s with heap := h', toks := tk } ∧ Fr h₀ L h' m' ∧ News h₀ L h' (led' ++ own) ∧ Disj led' own ∧ Jn m' led'
theorem FdPost.intro {s : Shared} {Jn : (Str → Option Value) → List (Addr × Obj) → Prop} {own led' : List (Addr × Obj)} {h' : Heap} {tk : Nat} {m' : Str → Option Value}
    (F : Fr h₀ L h' m') (N : News h₀ L h' (led' ++ own)) (D : Disj led' own) (hj : Jn m' led') : FdPost h₀ L s Jn own Q .next { s with heap := h', toks := tk } := ⟨h', tk, m', led', rfl, F, N, D, hj⟩

theorem for_core {x : Str} {body : List Stmt} {I : Addr} {fp' : List Addr} {n : Nat} {P : Nat → Value → Prop} {St : Nat → Heap → Prop} {m₀ : Str → Option Value} {led held : List (Addr × Obj)} (J : Nat → (Str → Option Value) → List (Addr × Obj) → Prop)
    (W : Walks prog w A I (I :: fp') [I] n P St) (hI0 : h₀.get? I = none) (hIL : I ≠ env.locals) (hIled : ∀ p ∈ led, p.1 ≠ I) (hfpL : ∀ b ∈ fp', b ≠ env.locals)
    (hheld : ∀ b ∈ fp', ∃ o, (b, o) ∈ held) (hst : St 0 s.heap) (hIst : ∀ i h, St i h → ∃ o, h.get? I = some o)
    (F : Fr h₀ env.locals s.heap m₀) (N : News h₀ env.locals s.heap led) (hj : J 0 m₀ led) (hJ : ∀ i m l, J i m l → ∀ p ∈ held, p ∈ l)
    (turn : ∀ i v m₁ led₁ h tk own, i < n → P i v → J i m₁ led₁ → Disj led₁ own → Fr h₀ env.locals h (fun y => if y = x then some v else m₁ y) → News h₀ env.locals h (led₁ ++ own) →
      wpAny (model prog w) A (execs body env) (FdPost h₀ env.locals s (J (i + 1)) own Q) E { s with heap := h, toks := tk })
    (done : ∀ m₁ led₁ h tk, J n m₁ led₁ → Fr h₀ env.locals h m₁ → News h₀ env.locals h led₁ → Q .next { s with heap := h, toks := tk }) :
    LoopAtV prog w A h₀ env x body Q E (.ref I) s := by
  refine ⟨I, I :: fp', [I], n, P, St, m₀, led, J, rfl, W, ?_, ?_, ?_, hst, F, N, hj, ?_, ?_⟩
  · intro hm
    rcases List.mem_cons.mp hm with e | hm
    · exact hIL e.symm
    · exact hfpL _ hm rfl
  · intro b hb
    rw [List.mem_singleton.mp hb]
    exact hI0
  · intro p hp hI
    exact hIled p hp (List.mem_singleton.mp hI)
  · rintro i v m₁ led₁ s₁ own ⟨hh', tk', rfl⟩ hin hP hJ₁ hoff hown hget hfp hst₁ F₁ N₁
    obtain ⟨oI, hoI⟩ := hIst _ _ hst₁
    have hIown : (I, oI) ∈ own := hfp _ (.head _) hI0 _ hoI
    have hIf : (I, oI) ∈ own.filter fun p => decide (p.1 = I) := List.mem_filter.mpr ⟨hIown, by simp⟩
    have hsep : Disj led₁ (own.filter fun p => decide (p.1 = I)) := by
      intro q hq p hp e
      have h1 : p.1 = I := by simpa using (List.mem_filter.mp hp).2
      exact hoff q hq (List.mem_singleton.mpr (e.trans h1))
    have N₂ : News h₀ env.locals hh' (led₁ ++ own.filter fun p => decide (p.1 = I)) := fun p hp => N₁ p ((List.mem_append.mp hp).elim (fun h => List.mem_append.mpr (.inr h)) fun h => List.mem_append.mpr (.inl ((List.mem_filter.mp h).1)))
    refine wpAny_mono (turn i v m₁ led₁ hh' tk' _ hin hP hJ₁ hsep F₁ N₂) (fun f s₂ p => ?_) fun _ _ e => e
    have fin : (∃ h' tk m' led', s₂ = { s with heap := h', toks := tk } ∧ Fr h₀ env.locals h' m' ∧ News h₀ env.locals h' (led' ++ own.filter fun p => decide (p.1 = I)) ∧ Disj led' (own.filter fun p => decide (p.1 = I)) ∧ J (i + 1) m' led') →
        LoopStepU h₀ env.locals [I] own (J (i + 1)) { s with heap := hh', toks := tk' } .next s₂ := by
      rintro ⟨h', tk, m', led', e, F', N', D', hm⟩
      refine ⟨rfl, h', tk, m', led', e, F', fun p hp => ?_, fun p hp hq => ?_, hm⟩
      · rcases List.mem_append.mp hp with h | h
        · by_cases hpI : p.1 = I
          · exact N' p (List.mem_append_right _ (List.mem_filter.mpr ⟨h, by simpa using hpI⟩))
          · rcases List.mem_cons.mp (hown p h) with h2 | h2
            · exact absurd h2 hpI
            · obtain ⟨o, ho⟩ := hheld _ h2
              have h3 : hh'.get? p.1 = some p.2 := hget p h
              have h4 : hh'.get? p.1 = some o := (N₁ (p.1, o) (List.mem_append_right _ (hJ _ _ _ hJ₁ _ ho))).1
              have h5 : p = (p.1, o) := Prod.ext rfl (Option.some.inj (h3.symm.trans h4))
              rw [h5]
              exact N' _ (List.mem_append_left _ (hJ _ _ _ hm _ ho))
        · exact N' p (List.mem_append_left _ h)
      · exact D' p hp _ hIf (List.mem_singleton.mp hq)
    cases f with
    | ret v => exact .ret p
    | brk => exact .brk p
    | next => exact .next (fin p)
    | cont => exact .cont (fin p)
  · rintro h' tk m' led' F' N' _ hJ'
    exact done m' led' h' tk hJ' F' N'

theorem for_list {x : Str} {body : List Stmt} {l : Addr} {vs : List Value} {nn : Nat} {m₀ : Str → Option Value} {led : List (Addr × Obj)} (J : List Value → Addr → Nat → (Str → Option Value) → Nat → (Str → Option Value) → List (Addr × Obj) → Prop)
    (hh : A.handled = none) (F : Fr h₀ env.locals s.heap m₀) (N : News h₀ env.locals s.heap led) (hl : (l, listOf vs.toArray nn) ∈ led) (hj : J vs l nn m₀ 0 m₀ led) (hJ : ∀ i m led, J vs l nn m₀ i m led → (l, listOf vs.toArray nn) ∈ led)
    (turn : ∀ s₂ i v m₁ led₁ h tk own, (∃ h, s₂ = { s with heap := h }) → vs[i]? = some v → J vs l nn m₀ i m₁ led₁ → Disj led₁ own → Fr h₀ env.locals h (fun y => if y = x then some v else m₁ y) → News h₀ env.locals h (led₁ ++ own) →
      wpAny (model prog w) A (execs body env) (FdPost h₀ env.locals s₂ (J vs l nn m₀ (i + 1)) own Q) E { s₂ with heap := h, toks := tk })
    (done : ∀ s₂ m₁ led₁ h tk, (∃ h, s₂ = { s with heap := h }) → J vs l nn m₀ vs.length m₁ led₁ → Fr h₀ env.locals h m₁ → News h₀ env.locals h led₁ → Q .next { s₂ with heap := h, toks := tk }) :
    wpAny (model prog w) A (pyIter (.ref l)) (fun it s₂ => LoopAtV prog w A h₀ env x body Q E it s₂) E s := by
  have hol : s.heap.get? l = some (listOf vs.toArray nn) := (N _ hl).1
  have hls : s.heap.IsList l vs.toArray := ⟨_, hol, rfl, nn, rfl⟩
  have hlL : l ≠ env.locals := (N _ hl).2.1
  have hneI : l ≠ s.heap.objs.size := Nat.ne_of_lt (Heap.lt_size hol)
  refine wpAny_pyIter_list hls ?_
  have W := Walks.list (prog := prog) (w := w) hh s.heap.objs.size l hneI vs.toArray
  have hlen : vs.toArray.size = vs.length := by simp
  rw [hlen] at W
  refine for_core (J vs l nn m₀) (held := [(l, listOf vs.toArray nn)]) W (next_is_new F) (fun e => absurd F.ns.lt (e ▸ Nat.lt_irrefl _)) (fun p hp e => absurd (Heap.lt_size (N p hp).1) (e ▸ Nat.lt_irrefl _)) ?_ ?_ ?_ ?_ (F.push _) (fun p hp => ⟨Heap.get?_push_of_some _ (N p hp).1, (N p hp).2⟩) hj ?_ ?_ ?_
  · intro b hb
    rw [List.mem_singleton.mp hb]; exact hlL
  · intro b hb
    rw [List.mem_singleton.mp hb]; exact ⟨_, .head _⟩
  · exact ⟨⟨_, Heap.get?_push_size _ rfl, rfl, rfl⟩, hls.at fun o e => Heap.get?_push_of_some _ e⟩
  · rintro i h ⟨⟨o, ho, _⟩, _⟩
    exact ⟨o, ho⟩
  · intro i m l' h p hp
    rw [List.mem_singleton.mp hp]; exact hJ i m l' h
  · intro i v m₁ led₁ h tk own _ hP
    exact turn _ i v m₁ led₁ h tk own ⟨_, rfl⟩ (by simpa using hP)
  · intro m₁ led₁ h tk
    exact done _ m₁ led₁ h tk ⟨_, rfl⟩

theorem for_range {x : Str} {body : List Stmt} {r : Addr} {a₀ b₀ : Int} {t₀ u₀ v₀ : Tok} {n : Nat} {m₀ : Str → Option Value} {led : List (Addr × Obj)} (J : (Str → Option Value) → Nat → (Str → Option Value) → List (Addr × Obj) → Prop)
    (hh : A.handled = none) (hr : IsRange s.heap r a₀ b₀ 1 t₀ u₀ v₀) (hsmall : Builtin.Range.small a₀ b₀ 1 = true) (hn : Builtin.Range.rangeSize a₀ b₀ 1 = (n : Int)) (F : Fr h₀ env.locals s.heap m₀) (N : News h₀ env.locals s.heap led) (hj : J m₀ 0 m₀ led)
    (turn : ∀ s₂ i t m₁ led₁ h tk own, (∃ h, s₂ = { s with heap := h }) → i < n → J m₀ i m₁ led₁ → Disj led₁ own → Fr h₀ env.locals h (fun y => if y = x then some (.int (a₀ + (i : Nat)) t) else m₁ y) → News h₀ env.locals h (led₁ ++ own) →
      wpAny (model prog w) A (execs body env) (FdPost h₀ env.locals s₂ (J m₀ (i + 1)) own Q) E { s₂ with heap := h, toks := tk })
    (done : ∀ s₂ m₁ led₁ h tk, (∃ h, s₂ = { s with heap := h }) → J m₀ n m₁ led₁ → Fr h₀ env.locals h m₁ → News h₀ env.locals h led₁ → Q .next { s₂ with heap := h, toks := tk }) :
    wpAny (model prog w) A (pyIter (.ref r)) (fun it s₂ => LoopAtV prog w A h₀ env x body Q E it s₂) E s := by
  refine wpAny_pyIter_range hr hsmall ?_
  have W : Walks prog w A s.heap.objs.size [s.heap.objs.size] [s.heap.objs.size] n (fun i v => i < n ∧ ∃ t, v = .int (a₀ + i * 1) t)
      (fun i h => IsRangeIter h s.heap.objs.size (a₀ + (i : Nat) * 1) ((n : Int) - (i : Nat)) 1) := (Walks.range hh _ a₀ 1 n).bound
  refine for_core (J m₀) (held := []) W (next_is_new F) (fun e => absurd F.ns.lt (e ▸ Nat.lt_irrefl _)) (fun p hp e => absurd (Heap.lt_size (N p hp).1) (e ▸ Nat.lt_irrefl _)) (fun b hb => absurd hb List.not_mem_nil) (fun b hb => absurd hb List.not_mem_nil) ?_ ?_ (F.push _) (fun p hp => ⟨Heap.get?_push_of_some _ (N p hp).1, (N p hp).2⟩) hj (fun _ _ _ _ _ hp => absurd hp List.not_mem_nil) ?_ ?_
  · show IsRangeIter _ _ _ _ _; rw [hn]; simpa using Heap.get?_push_size _ rfl
  · intro i h hi
    exact ⟨_, hi⟩
  · rintro i v m₁ led₁ h tk own hi ⟨_, t, rfl⟩ hJ D F₁ N₁
    rw [Int.mul_one] at F₁
    exact turn _ i t m₁ led₁ h tk own ⟨_, rfl⟩ hi hJ D F₁ N₁
  · intro m₁ led₁ h tk
    exact done _ m₁ led₁ h tk ⟨_, rfl⟩
end

end
section

local macro_rules | `(tactic| walk_at "call ref") => `(tactic| (k_here; k_dflt (refine' Meets.useA (C := visible_meets _ _ _ _ _ _ _ (by k_mem) (by k_mem)) (ret := ?_)); k_whole; intro r9 tl9 h9 tk9 F9 N9 hp9; obtain ⟨e9, e9'⟩ := hp9; subst e9; replace e9' := e9'.symm; subst e9'; (try k_sweep); (try dsimp only); (try k_fold)))

noncomputable def refsV (g : Int) (c : List RecA) : List Value := (c.filter fun r => visB r.c g).map fun r => Value.ref r.a
theorem refsV_pos {g : Int} {r : RecA} {rs : List RecA} (h : visB r.c g = true) : refsV g (r :: rs) = .ref r.a :: refsV g rs := by
  simp only [refsV, List.filter_cons, h, if_true, List.map_cons]
theorem refsV_neg {g : Int} {r : RecA} {rs : List RecA} (h : visB r.c g = false) : refsV g (r :: rs) = refsV g rs := by
  simp only [refsV, List.filter_cons, h, if_false, Bool.false_eq_true]
theorem refsV_len (g : Int) (c : List RecA) : (refsV g c).length ≤ c.length := by
  unfold refsV; rw [List.length_map]; exact List.length_filter_le _ _

theorem chain_meets (w : World) (led : List (Addr × Obj)) (S : StA) (nr gen : Int) (od : Obj) (kvs : List (Int × Value)) (P : PrA) (c : List RecA) (g lk : Int) (gt : Tok)
    (h1 : sObj S ∈ led) (h2 : sDict w.params S nr gen ∈ led) (h3 : (S.rd, od) ∈ led) (hod : od.IsDictOf (PySem.intKind PySem.Challenge.rw_rh0068_01.row.prog w) kvs)
    (p1 : pObj P ∈ led) (p2 : pDict w.params P (hk c) lk ∈ led)
    (hc : ∀ p ∈ chLed w.params c, p ∈ led) (hv : ∀ r ∈ c, valueAt kvs r.c.key = some (.ref r.a)) (hpos : ∀ r ∈ c, 0 ≤ r.c.key) (hlen : c.length ≤ 1000) :
    Meets w 148 [.ref S.a, .ref P.a, .int g gt] 20 led (fun v tl => ∃ l nn, v = .ref l ∧ tl = (l, listOf (refsV g c).toArray nn) :: led ∧ ∀ p ∈ led, p.1 < l) := by
  w_on
  unfold Meets
  k_fill
  intro dp un gd cn cs a ccd cl outer A₀ base h₀ L m rest s mean mg mb Q E B F X N D T hk9 hdp hun ret
  refine wpAny_call ?_
  k_dflt (refine' code_frame ?k1 ?k2 ?k3 ?k4 ?kD ?k5 ?kA ?kF ?kK ?k6 ?k7 ?k8 ?k9 ?kB ?_ ?c2 ?c3 ?c4 ?c5; (case kA => exact rfl); (case kF => exact rfl); (case kK => assumption); (case k1 => k_asm); (case k2 => k_asm); (case k3 => k_asm); (case k4 => k_asm); (case kD => k_asm); (case k5 => k_asm); (case k6 => k_is); (case k7 => k_is); (case k8 => ktr_room); (case k9 => exact BindsTo.of_eq rfl); (case c5 => decide); (case kB => exact locs rfl); (case c2 => exact rfl); (case c3 => exact rfl); (case c4 => exact rfl); k_whole)
  intro _ _ _ _ _ _ _ _ _ l1
  (try k_lt l1)
  (try dsimp only)
  (try k_fold)
  k_steps
  refine Halt.to ?_
  (rename Addr => l)
  (rename Fr _ _ _ _ => lF'); (rename News _ _ _ _ => lN')
  (rename ∀ p ∈ led, p.1 < _ => hlt)
  k_dflt (refine' while_d (fun (c' : List RecA) v led' => (∃ t, v = .int (hk c') t) ∧ (∀ p ∈ chLed w.params c', p ∈ led) ∧ (∀ r ∈ c', r ∈ c) ∧ ∃ its nn, led' = (l, listOf its.toArray nn) :: led ∧ its ++ refsV g c' = refsV g c) (y := Str.ofString "place") (d₀ := c) [Str.ofString "record"] List.length lF' lN' ?hy ?rel ?turn ?hE)
  case hy => rfl
  case rel => exact ⟨⟨_, rfl⟩, hc, fun _ h => h, [], _, rfl, rfl⟩
  case hE => first | passes_own | with_unfolding_all passes_own
  case turn =>
    rintro v' d' led' u' h' tk' ⟨⟨t', rfl⟩, hin, hsub, its, nn, rfl, hits⟩ F' N'
    clear lF' lN'
    have hle := congrArg List.length hits
    rw [List.length_append] at hle
    have hle2 := refsV_len g c
    have hne := fun p hp => Nat.ne_of_lt (hlt p hp)
    have hsz : its.toArray.size ≤ sizeLine := by rw [sizeLine_eq, List.size_toArray]; omega
    cases d' with
    | nil =>
      simp only [hk] at F'
      k_steps
      (try k_unfold)
      (try dsimp only)
      refine' ⟨_, _, _, ?k1, ?k2, ?_⟩
      (case k1 => k_asm)
      (case k2 => k_asm)
      intro _ _ _
      (try dsimp only)
      exact ret _ _ _ _ (by assumption) (by assumption) (by assumption) ⟨l, nn, rfl, by rw [show its = refsV g c by rw [← hits]; exact (List.append_nil its).symm], hlt⟩
    | cons r rs =>
      have e1 : rObj r ∈ led := hin _ (.head _)
      have e2 : rDict w.params r (hk rs) ∈ led := hin _ (.tail _ (.head _))
      have e3 := hv r (hsub r (.head _))
      have e4 := hpos r (hsub r (.head _))
      dsimp only [hk] at F'
      k_steps
      · refine ⟨_, _, _, _, _, rs, rfl, by assumption, by assumption, by with_unfolding_all rfl, ⟨⟨_, rfl⟩, fun p hp => hin p (.tail _ (.tail _ hp)), fun r' h' => hsub r' (.tail _ h'), its ++ [.ref r.a], nn + 1, by rw [List.push_toArray], ?_⟩, Nat.lt_succ_self _, fun z z1 z2 => by simp only [z1, ne_of_one z2, z2, if_false, Bool.false_eq_true]; try rfl⟩
        rw [← hits, refsV_pos (by assumption), List.append_assoc]; rfl
      · refine ⟨_, _, _, _, _, rs, rfl, by assumption, by assumption, by with_unfolding_all rfl, ⟨⟨_, rfl⟩, fun p hp => hin p (.tail _ (.tail _ hp)), fun r' h' => hsub r' (.tail _ h'), its, nn, rfl, ?_⟩, Nat.lt_succ_self _, fun z z1 z2 => by simp only [z1, ne_of_one z2, z2, if_false, Bool.false_eq_true]; try rfl⟩
        rw [← hits, refsV_neg (by assumption)]

end
section
local macro_rules | `(tactic| walk_at "m_pad") => `(tactic| skip)

local macro_rules | `(tactic| walk_at "call ref") => `(tactic| (k_here; k_dflt (refine' Meets.useA (C := live_from_meets _ _ _ _ _ _ _ _ _ _ _ _ _ (by with_reducible assumption) (by with_reducible assumption) (by with_reducible assumption) (by with_reducible assumption) (by with_reducible assumption) (by with_reducible assumption) (by with_reducible assumption) (by with_reducible assumption) (by with_reducible assumption) (by with_reducible assumption)) (ret := ?_)); k_whole; intro r9 tl9 h9 tk9 F9 N9 hp9; obtain ⟨⟨t9, e9⟩, e9'⟩ := hp9; subst e9; replace e9' := e9'.symm; subst e9'; (try k_sweep); (try dsimp only); (try k_fold)))

theorem first_live_meets (w : World) (led : List (Addr × Obj)) (S : StA) (nr gen : Int) (od : Obj) (kvs : List (Int × Value)) (P : PrA) (c : List RecA) (g lk : Int) (gt : Tok) (cell : Addr) (cd : Dat)
    (h1 : sObj S ∈ led) (h2 : sDict w.params S nr gen ∈ led) (h3 : (S.rd, od) ∈ led) (hod : od.IsDictOf (PySem.intKind PySem.Challenge.rw_rh0068_01.row.prog w) kvs)
    (p1 : pObj P ∈ led) (p2 : pDict w.params P (hk c) lk ∈ led)
    (hc : ∀ p ∈ chLed w.params c, p ∈ led) (hv : ∀ r ∈ c, valueAt kvs r.c.key = some (.ref r.a)) (hpos : ∀ r ∈ c, 0 ≤ r.c.key) (hw : ∀ r ∈ c, WordOk led r) (hcell : DatIn led (.ref cell) cd) (hcok : kqdOk 8 cd = true) :
    Meets w 134 [.ref S.a, .ref P.a, .int g gt, .ref cell] 40 led (fun v tl => (∃ t, v = .int (liveF g cd (c.map (·.c))) t) ∧ tl = led) := by
  w_on
  unfold Meets
  k_fill
  intro dp un gd cn cs a ccd cl outer A₀ base h₀ L m rest s mean mg mb Q E B F X N D T hk9 hdp hun ret
  refine wpAny_call ?_
  k_dflt (refine' code_frame ?k1 ?k2 ?k3 ?k4 ?kD ?k5 ?kA ?kF ?kK ?k6 ?k7 ?k8 ?k9 ?kB ?_ ?c2 ?c3 ?c4 ?c5; (case kA => exact rfl); (case kF => exact rfl); (case kK => assumption); (case k1 => k_asm); (case k2 => k_asm); (case k3 => k_asm); (case k4 => k_asm); (case kD => k_asm); (case k5 => k_asm); (case k6 => k_is); (case k7 => k_is); (case k8 => ktr_room); (case k9 => exact BindsTo.of_eq rfl); (case c5 => decide); (case kB => exact locs rfl); (case c2 => exact rfl); (case c3 => exact rfl); (case c4 => exact rfl); k_whole)
  intro _ _ _ _ _ _ _ _ _ l1
  (try k_lt l1)
  (try dsimp only)
  (try k_fold)
  k_steps
  (try k_unfold)
  (try dsimp only)
  refine' ⟨_, _, _, ?k1, ?k2, ?_⟩
  (case k1 => k_asm)
  (case k2 => k_asm)
  intro _ _ _
  (try dsimp only)
  exact ret _ _ _ _ (by assumption) (by assumption) (by assumption) ⟨⟨_, rfl⟩, rfl⟩

theorem next_live_meets (w : World) (led : List (Addr × Obj)) (S : StA) (nr gen : Int) (od : Obj) (kvs : List (Int × Value)) (r : RecA) (c : List RecA) (g : Int) (gt kt : Tok) (cell : Addr) (cd : Dat)
    (h1 : sObj S ∈ led) (h2 : sDict w.params S nr gen ∈ led) (h3 : (S.rd, od) ∈ led) (hod : od.IsDictOf (PySem.intKind PySem.Challenge.rw_rh0068_01.row.prog w) kvs)
    (r1 : rObj r ∈ led) (r2 : rDict w.params r (hk c) ∈ led) (hr : valueAt kvs r.c.key = some (.ref r.a))
    (hc : ∀ p ∈ chLed w.params c, p ∈ led) (hv : ∀ r ∈ c, valueAt kvs r.c.key = some (.ref r.a)) (hpos : ∀ r ∈ c, 0 ≤ r.c.key) (hw : ∀ r ∈ c, WordOk led r) (hcell : DatIn led (.ref cell) cd) (hcok : kqdOk 8 cd = true) :
    Meets w 141 [.ref S.a, .int r.c.key kt, .int g gt, .ref cell] 40 led (fun v tl => (∃ t, v = .int (liveF g cd (c.map (·.c))) t) ∧ tl = led) := by
  w_on
  unfold Meets
  k_fill
  intro dp un gd cn cs a ccd cl outer A₀ base h₀ L m rest s mean mg mb Q E B F X N D T hk9 hdp hun ret
  refine wpAny_call ?_
  k_dflt (refine' code_frame ?k1 ?k2 ?k3 ?k4 ?kD ?k5 ?kA ?kF ?kK ?k6 ?k7 ?k8 ?k9 ?kB ?_ ?c2 ?c3 ?c4 ?c5; (case kA => exact rfl); (case kF => exact rfl); (case kK => assumption); (case k1 => k_asm); (case k2 => k_asm); (case k3 => k_asm); (case k4 => k_asm); (case kD => k_asm); (case k5 => k_asm); (case k6 => k_is); (case k7 => k_is); (case k8 => ktr_room); (case k9 => exact BindsTo.of_eq rfl); (case c5 => decide); (case kB => exact locs rfl); (case c2 => exact rfl); (case c3 => exact rfl); (case c4 => exact rfl); k_whole)
  intro _ _ _ _ _ _ _ _ _ l1
  (try k_lt l1)
  (try dsimp only)
  (try k_fold)
  k_steps
  (try k_unfold)
  (try dsimp only)
  refine' ⟨_, _, _, ?k1, ?k2, ?_⟩
  (case k1 => k_asm)
  (case k2 => k_asm)
  intro _ _ _
  (try dsimp only)
  exact ret _ _ _ _ (by assumption) (by assumption) (by assumption) ⟨⟨_, rfl⟩, rfl⟩

end
section

theorem rec_meets (w : World) (key fn birth entry : Int) (kt ft bt et : Tok) (tm ik : Addr) (tD wD : Dat) :
    Meets w 46 [.int key kt, .int fn ft, .ref tm, .ref ik, .int birth bt, .int entry et] 20 []
      (fun v tl => ∃ r : RecA, v = .ref r.a ∧ r.c = ⟨key, fn, birth, -1, entry, tD, wD⟩ ∧ r.tm = tm ∧ r.ik = ik ∧ tl = [rObj r, rDict w.params r (-1)] ∧ NdA tl) := by
  w_on
  unfold Meets
  k_fill
  intro dp un gd cn cs a ccd cl outer A₀ base h₀ L m rest s mean mg mb Q E B F X N D T hk9 hdp hun ret
  k_dflt (refine' call_cls ?k1 ?k2 ?k3 ?k4 ?k5 ?k6 ?_; (case k1 => k_asm); (case k2 => k_asm); (case k3 => k_asm); (case k4 => k_is); (case k5 => k_is); (case k6 => k_is); k_whole)
  intro x d h1 F1 N1 l1 l2
  have l3 : @LT.lt Nat _ d x := l2
  have D1 : Disj [(x, instObj 46 d), (d, dictOf [] 0)] rest := by
    intro p hp q hq
    have h5 : @LT.lt Nat _ q.1 d := l1 q hq
    simp only [List.mem_cons, List.not_mem_nil, or_false] at hp
    rcases hp with rfl | rfl
    · exact fun e => absurd (e : x = q.1) (Nat.ne_of_gt (Nat.lt_trans h5 l3))
    · exact fun e => absurd (e : d = q.1) (Nat.ne_of_gt h5)
  replace N1 : News h₀ L h1 ([(x, instObj 46 d), (d, dictOf [] 0)] ++ rest) := N1
  k_dflt (refine' code_frame ?k1 ?k2 ?k3 ?k4 ?kD ?k5 ?kA ?kF ?kK ?k6 ?k7 ?k8 ?k9 ?kB ?_ ?c2 ?c3 ?c4 ?c5; (case kA => exact rfl); (case kF => exact rfl); (case kK => assumption); (case k1 => k_asm); (case k2 => k_asm); (case k3 => k_asm); (case k4 => with_reducible assumption); (case kD => with_reducible assumption); (case k5 => k_asm); (case k6 => k_is); (case k7 => k_is); (case k8 => ktr_room); (case k9 => exact BindsTo.of_eq rfl); (case c5 => decide); (case kB => exact locs rfl); (case c2 => exact rfl); (case c3 => exact rfl); (case c4 => exact rfl); k_whole)
  intro _ _ _ _ _ _ _ _ _ l1
  (try k_lt l1)
  (try dsimp only)
  (try k_fold)
  k_steps
  (try k_unfold)
  (try dsimp only)
  refine' ⟨_, _, _, ?k1, ?k2, ?_⟩
  (case k1 => k_asm)
  (case k2 => k_asm)
  intro _ _ _
  (try dsimp only)
  rename_i kF kN kD
  refine ⟨rfl, ?_⟩
  obtain ⟨r, hr, hd2, hc, ha, hd, htm, hik⟩ : ∃ r : RecA, News h₀ L _ ([rObj r, rDict w.params r (-1)] ++ rest) ∧ Disj [rObj r, rDict w.params r (-1)] rest ∧ r.c = ⟨key, fn, birth, -1, entry, tD, wD⟩ ∧ r.a = x ∧ r.d = d ∧ r.tm = tm ∧ r.ik = ik :=
    ⟨⟨x, d, tm, ik, _, _, _, _, _, _, _, _, _, _, _, _, _, _, ⟨key, fn, birth, -1, entry, tD, wD⟩⟩, kN, kD, rfl, rfl, rfl, rfl, rfl⟩
  subst ha
  subst hd
  exact ret (.ref r.a) [rObj r, rDict w.params r (-1)] _ _ kF hr hd2 ⟨r, rfl, hc, htm, hik, rfl, by (simp only [NdA, List.map_cons, List.map_nil, List.nodup_cons, List.mem_cons, List.not_mem_nil, or_false, not_or, List.nodup_nil, and_true, not_false_eq_true]; (and_intros <;> first | with_reducible assumption | (refine Ne.symm ?_; with_reducible assumption) | omega))⟩
theorem new_meets (w : World) (S : StA) (nr gen : Int) (od : Obj) (kvs : List (Int × Value)) (P : PrA) (f lk e : Int) (tm ik : Addr) (et : Tok) (tD wD : Dat)
    (hod : od.IsDictOf (PySem.intKind PySem.Challenge.rw_rh0068_01.row.prog w) kvs) (hsz : kvs.length ≤ sizeLine)
    (nd : NdA [sObj S, sDict w.params S nr gen, (S.rd, od), pObj P, pDict w.params P f lk]) :
    Meets w 99 [.ref S.a, .ref P.a, .ref tm, .ref ik, .int e et] 30 [sObj S, sDict w.params S nr gen, (S.rd, od), pObj P, pDict w.params P f lk]
      (fun v tl => ∃ (r : RecA) (nt gt : Tok) (od' : Obj), v = .ref r.a ∧ r.c = ⟨nr, P.fn, gen + 1, -1, e, tD, wD⟩ ∧ r.tm = tm ∧ r.ik = ik ∧
        od'.IsDictOf (PySem.intKind PySem.Challenge.rw_rh0068_01.row.prog w) (stored kvs nr (.ref r.a)) ∧
        tl = [rObj r, rDict w.params r (-1), sObj S, sDict w.params { S with nrT := nt, genT := gt } (nr + 1) (gen + 1), (S.rd, od'), pObj P, pDict w.params P f lk] ∧ NdA tl) := by
  w_on
  unfold Meets
  k_fill
  intro dp un gd cn cs a ccd cl outer A₀ base h₀ L m rest s mean mg mb Q E B F X N D T hk9 hdp hun ret
  refine wpAny_call ?_
  k_dflt (refine' code_frame ?k1 ?k2 ?k3 ?k4 ?kD ?k5 ?kA ?kF ?kK ?k6 ?k7 ?k8 ?k9 ?kB ?_ ?c2 ?c3 ?c4 ?c5; (case kA => exact rfl); (case kF => exact rfl); (case kK => assumption); (case k1 => k_asm); (case k2 => k_asm); (case k3 => k_asm); (case k4 => k_asm); (case kD => k_asm); (case k5 => k_asm); (case k6 => k_is); (case k7 => k_is); (case k8 => ktr_room); (case k9 => exact BindsTo.of_eq rfl); (case c5 => decide); (case kB => exact locs rfl); (case c2 => exact rfl); (case c3 => exact rfl); (case c4 => exact rfl); k_whole)
  intro _ _ _ _ _ _ _ _ _ l1
  (try k_lt l1)
  (try dsimp only)
  (try k_fold)
  (rename News _ _ _ _ => kN9)
  dsimp only [sObj, sDict, pObj, pDict, rObj, rDict] at kN9
  have ndz := nd
  refine hideG fun G9 hG9 => ?_
  refine ndTo (R := fun a b => ¬ a = b) (fun _ _ h => h) nd ?_
  dsimp only [NdTo, NdOne]
  intro nd0 nd1 nd2 nd3 nd4 nd5 nd6 nd7 nd8 nd9
  refine hG9 ?_
  clear hG9
  k_steps
  refine Halt.to ?_
  (rename Fr _ _ _ _ => aF); (rename News _ _ _ _ => aN)
  obtain ⟨nt, gt, aN2⟩ : ∃ nt gt, News _ _ _ [sObj S, sDict w.params { S with nrT := nt, genT := gt } (nr + 1) (gen + 1), (S.rd, od), pObj P, pDict w.params P f lk] := by
    refine' ⟨_, _, ?kk⟩
    case kk => dsimp only [sObj, sDict, pObj, pDict, sEnt, pEnt]; exact aN
  clear aN
  k_dflt (refine' Meets.use (pre := []) ?gB aF ?gX aN2 ?gD ?gT ?gk (rec_meets _ _ _ _ _ _ _ _ _ _ _ tD wD) ?gd ?gu ?_)
  (case gB => k_asm)
  (case gX => k_asm)
  (case gD => exact fun _ hp => absurd hp List.not_mem_nil)
  (case gT => k_asm)
  (case gk => first | exact rfl | assumption)
  (case gd => ktr_room)
  (case gu => ktr_units)
  k_whole
  rintro r9 tl9 h9 tk9 F9 N9 D9 ⟨r, e9, hr, h1, h2, e9', nd9⟩
  subst e9
  subst e9'
  have ndw : ∀ o : Obj, NdA [rObj r, rDict w.params r (-1), sObj S, sDict w.params { S with nrT := nt, genT := gt } (nr + 1) (gen + 1), (S.rd, o), pObj P, pDict w.params P f lk] :=
    fun o => ndA_congr (a := [rObj r, rDict w.params r (-1)] ++ [sObj S, sDict w.params { S with nrT := nt, genT := gt } (nr + 1) (gen + 1), (S.rd, od), pObj P, pDict w.params P f lk]) rfl (ndA_of nd9 (ndA_congr (b := [sObj S, sDict w.params { S with nrT := nt, genT := gt } (nr + 1) (gen + 1), (S.rd, od), pObj P, pDict w.params P f lk]) rfl ndz) D9)
  have e1 : @Ne Nat r.a S.rd := D9 _ (.head _) _ (.tail _ (.tail _ (.head _)))
  have e2 : @Ne Nat r.d S.rd := D9 _ (.tail _ (.head _)) _ (.tail _ (.tail _ (.head _)))
  clear aF aN2
  have hrk : r.c.key = nr := by rw [hr]
  dsimp only [List.cons_append, List.nil_append, sObj, sDict, pObj, pDict] at N9
  (try dsimp only)
  (try k_fold)
  k_steps
  (try k_unfold)
  (try dsimp only)
  refine' ⟨_, _, _, ?k1, ?k2, ?_⟩
  (case k1 => k_asm)
  (case k2 => k_asm)
  intro _ _ _
  (try dsimp only)
  refine' ret _ _ _ _ ?e1 ?e2 ?e3 ?e4
  (case e1 => assumption)
  (case e2 => assumption)
  (case e3 => assumption)
  exact ⟨r, nt, gt, _, rfl, hr, h1, h2, by assumption, rfl, ndw _⟩

end
section
local macro_rules | `(tactic| walk_at "m_pad") => `(tactic| skip)

theorem append_nil_meets (w : World) (S : StA) (nr gen : Int) (od : Obj) (kvs : List (Int × Value)) (P : PrA) (lk e : Int) (tm ik : Addr) (et : Tok) (tD wD : Dat)
    (hod : od.IsDictOf (PySem.intKind PySem.Challenge.rw_rh0068_01.row.prog w) kvs) (hsz : kvs.length ≤ sizeLine)
    (nd : NdA [sObj S, sDict w.params S nr gen, (S.rd, od), pObj P, pDict w.params P (-1) lk]) :
    Meets w 106 [.ref S.a, .ref P.a, .ref tm, .ref ik, .int e et] 40 [sObj S, sDict w.params S nr gen, (S.rd, od), pObj P, pDict w.params P (-1) lk]
      (fun v tl => ∃ (r : RecA) (nt gt ft lt : Tok) (od' : Obj), v = .ref r.a ∧ r.c = ⟨nr, P.fn, gen + 1, -1, e, tD, wD⟩ ∧ r.tm = tm ∧ r.ik = ik ∧
        od'.IsDictOf (PySem.intKind PySem.Challenge.rw_rh0068_01.row.prog w) (stored kvs nr (.ref r.a)) ∧
        tl = [rObj r, rDict w.params r (-1), sObj S, sDict w.params { S with nrT := nt, genT := gt } (nr + 1) (gen + 1), (S.rd, od'), pObj P, pDict w.params { P with fT := ft, lT := lt } nr nr] ∧
        NdA tl) := by
  w_on
  unfold Meets
  k_fill
  intro dp un gd cn cs a ccd cl outer A₀ base h₀ L m rest s mean mg mb Q E B F X N D T hk9 hdp hun ret
  refine wpAny_call ?_
  k_dflt (refine' code_frame ?k1 ?k2 ?k3 ?k4 ?kD ?k5 ?kA ?kF ?kK ?k6 ?k7 ?k8 ?k9 ?kB ?_ ?c2 ?c3 ?c4 ?c5; (case kA => exact rfl); (case kF => exact rfl); (case kK => assumption); (case k1 => k_asm); (case k2 => k_asm); (case k3 => k_asm); (case k4 => k_asm); (case kD => k_asm); (case k5 => k_asm); (case k6 => k_is); (case k7 => k_is); (case k8 => ktr_room); (case k9 => exact BindsTo.of_eq rfl); (case c5 => decide); (case kB => exact locs rfl); (case c2 => exact rfl); (case c3 => exact rfl); (case c4 => exact rfl); k_whole)
  intro _ _ _ _ _ _ _ _ _ l1
  (try k_lt l1)
  (try dsimp only)
  (try k_fold)
  (rename News _ _ _ _ => kN9)
  dsimp only [sObj, sDict, pObj, pDict, rObj, rDict] at kN9
  k_steps
  refine Halt.to ?_
  k_dflt (refine' Meets.useA (C := new_meets w S nr gen od kvs P (-1) lk e tm ik _ tD wD hod hsz nd) (ret := ?_))
  k_whole
  rintro r9 tl9 h9 tk9 F9 N9 ⟨r, nt, gt, od', e9, hr, h1, h2, hd', e9', ndn⟩
  subst e9
  subst e9'
  have hrk : r.c.key = nr := by rw [hr]
  have ndf := ndn
  dsimp only [List.cons_append, List.nil_append, sObj, sDict, pObj, pDict, rObj, rDict] at N9
  (try dsimp only)
  (try k_fold)
  refine hideG fun G9 hG9 => ?_
  refine ndTo (R := fun a b => ¬ a = b) (fun _ _ h => h) ndn ?_
  dsimp only [NdTo, NdOne]
  intro ndn0 ndn1 ndn2 ndn3 ndn4 ndn5 ndn6 ndn7 ndn8 ndn9 ndn10 ndn11 ndn12 ndn13 ndn14 ndn15 ndn16 ndn17 ndn18 ndn19 ndn20
  refine hG9 ?_
  clear hG9
  k_steps
  (try k_unfold)
  (try dsimp only)
  refine' ⟨_, _, _, ?k1, ?k2, ?_⟩
  (case k1 => k_asm)
  (case k2 => k_asm)
  intro _ _ _
  (try dsimp only)
  refine' ret _ _ _ _ ?e1 ?e2 ?e3 ?e4
  (case e1 => assumption)
  (case e2 => assumption)
  (case e3 => assumption)
  refine' ⟨r, nt, gt, _, _, od', rfl, hr, h1, h2, hd', ?tl, ?nd⟩
  case tl => (dsimp only [rObj, rDict, sObj, sDict, pObj, pDict, rEnt, sEnt, pEnt]; (try rewrite [hrk]); rfl)
  case nd => exact ndA_congr rfl ndf

end
section

theorem append_last_meets (w : World) (S : StA) (nr gen : Int) (od : Obj) (kvs : List (Int × Value)) (P : PrA) (z : RecA) (f e : Int) (tm ik : Addr) (et : Tok) (tD wD : Dat)
    (hod : od.IsDictOf (PySem.intKind PySem.Challenge.rw_rh0068_01.row.prog w) kvs) (hsz : kvs.length ≤ sizeLine) (hf : 0 ≤ f) (hz : valueAt kvs z.c.key = some (.ref z.a)) (hzn : z.c.key ≠ nr)
    (nd : NdA [sObj S, sDict w.params S nr gen, (S.rd, od), pObj P, pDict w.params P f z.c.key, rObj z, rDict w.params z (-1)]) :
    Meets w 106 [.ref S.a, .ref P.a, .ref tm, .ref ik, .int e et] 40 [sObj S, sDict w.params S nr gen, (S.rd, od), pObj P, pDict w.params P f z.c.key, rObj z, rDict w.params z (-1)]
      (fun v tl => ∃ (r : RecA) (nt gt lt zt : Tok) (od' : Obj), v = .ref r.a ∧ r.c = ⟨nr, P.fn, gen + 1, -1, e, tD, wD⟩ ∧ r.tm = tm ∧ r.ik = ik ∧
        od'.IsDictOf (PySem.intKind PySem.Challenge.rw_rh0068_01.row.prog w) (stored kvs nr (.ref r.a)) ∧
        tl = [rObj r, rDict w.params r (-1), sObj S, sDict w.params { S with nrT := nt, genT := gt } (nr + 1) (gen + 1), (S.rd, od'), pObj P, pDict w.params { P with lT := lt } f nr, rObj z, rDict w.params { z with nxT := zt } nr] ∧
        NdA tl) := by
  w_on
  unfold Meets
  k_fill
  intro dp un gd cn cs a ccd cl outer A₀ base h₀ L m rest s mean mg mb Q E B F X N D T hk9 hdp hun ret
  refine wpAny_call ?_
  k_dflt (refine' code_frame ?k1 ?k2 ?k3 ?k4 ?kD ?k5 ?kA ?kF ?kK ?k6 ?k7 ?k8 ?k9 ?kB ?_ ?c2 ?c3 ?c4 ?c5; (case kA => exact rfl); (case kF => exact rfl); (case kK => assumption); (case k1 => k_asm); (case k2 => k_asm); (case k3 => k_asm); (case k4 => k_asm); (case kD => k_asm); (case k5 => k_asm); (case k6 => k_is); (case k7 => k_is); (case k8 => ktr_room); (case k9 => exact BindsTo.of_eq rfl); (case c5 => decide); (case kB => exact locs rfl); (case c2 => exact rfl); (case c3 => exact rfl); (case c4 => exact rfl); k_whole)
  intro _ _ _ _ _ _ _ _ _ l1
  (try k_lt l1)
  (try dsimp only)
  (try k_fold)
  (rename News _ _ _ _ => kN9)
  dsimp only [sObj, sDict, pObj, pDict, rObj, rDict] at kN9
  k_steps
  refine Halt.to ?_
  (rename Fr _ _ _ _ => aF); (rename News _ _ _ _ => aN)
  obtain ⟨nd5, nd2, ndd⟩ := ndA_append (a := [sObj S, sDict w.params S nr gen, (S.rd, od), pObj P, pDict w.params P f z.c.key]) (b := [rObj z, rDict w.params z (-1)]) nd
  k_dflt (refine' Meets.use (pre := [sObj S, sDict w.params S nr gen, (S.rd, od), pObj P, pDict w.params P f z.c.key]) (rest := [rObj z, rDict w.params z (-1)]) ?gB aF ?gX aN ndd ?gT ?gk (new_meets w S nr gen od kvs P f z.c.key e tm ik _ tD wD hod hsz nd5) ?gd ?gu ?_)
  (case gB => k_asm)
  (case gX => k_asm)
  (case gT => k_asm)
  (case gk => first | exact rfl | assumption)
  (case gd => ktr_room)
  (case gu => ktr_units)
  k_whole
  rintro r9 tl9 h9 tk9 F9 N9 D9 ⟨r, nt, gt, od', e9, hr, h1, h2, hd', e9', nd9⟩
  subst e9
  subst e9'
  have ndn := ndA_of nd9 nd2 D9
  dsimp only [List.cons_append, List.nil_append] at ndn
  have hv' : valueAt (stored kvs nr (.ref r.a)) z.c.key = some (.ref z.a) := (valueAt_stored_ne hzn).trans hz
  clear aF aN nd9 nd5 nd2 ndd D9
  have hrk : r.c.key = nr := by rw [hr]
  have ndf := ndn
  dsimp only [List.cons_append, List.nil_append, sObj, sDict, pObj, pDict, rObj, rDict] at N9
  (try dsimp only)
  (try k_fold)
  refine hideG fun G9 hG9 => ?_
  refine ndTo (R := fun a b => ¬ a = b) (fun _ _ h => h) ndn ?_
  dsimp only [NdTo, NdOne]
  intro ndn0 ndn1 ndn2 ndn3 ndn4 ndn5 ndn6 ndn7 ndn8 ndn9 ndn10 ndn11 ndn12 ndn13 ndn14 ndn15 ndn16 ndn17 ndn18 ndn19 ndn20 ndn21 ndn22 ndn23 ndn24 ndn25 ndn26 ndn27 ndn28 ndn29 ndn30 ndn31 ndn32 ndn33 ndn34 ndn35
  refine hG9 ?_
  clear hG9
  k_steps
  (try k_unfold)
  (try dsimp only)
  refine' ⟨_, _, _, ?k1, ?k2, ?_⟩
  (case k1 => k_asm)
  (case k2 => k_asm)
  intro _ _ _
  (try dsimp only)
  refine' ret _ _ _ _ ?e1 ?e2 ?e3 ?e4
  (case e1 => assumption)
  (case e2 => assumption)
  (case e3 => assumption)
  refine' ⟨r, nt, gt, _, _, od', rfl, hr, h1, h2, hd', ?tl, ?nd⟩
  case tl => (dsimp only [rObj, rDict, sObj, sDict, pObj, pDict, rEnt, sEnt, pEnt]; (try rewrite [hrk]); rfl)
  case nd => exact ndA_congr rfl ndf

end
section
local macro_rules | `(tactic| walk_at "m_pad") => `(tactic| skip)

theorem prepend_nil_meets (w : World) (S : StA) (nr gen : Int) (od : Obj) (kvs : List (Int × Value)) (P : PrA) (lk e : Int) (tm ik : Addr) (et : Tok) (tD wD : Dat)
    (hod : od.IsDictOf (PySem.intKind PySem.Challenge.rw_rh0068_01.row.prog w) kvs) (hsz : kvs.length ≤ sizeLine)
    (nd : NdA [sObj S, sDict w.params S nr gen, (S.rd, od), pObj P, pDict w.params P (-1) lk]) :
    Meets w 113 [.ref S.a, .ref P.a, .ref tm, .ref ik, .int e et] 40 [sObj S, sDict w.params S nr gen, (S.rd, od), pObj P, pDict w.params P (-1) lk]
      (fun v tl => ∃ (r : RecA) (nt gt ft lt : Tok) (od' : Obj), v = .ref r.a ∧ r.c = ⟨nr, P.fn, gen + 1, -1, e, tD, wD⟩ ∧ r.tm = tm ∧ r.ik = ik ∧
        od'.IsDictOf (PySem.intKind PySem.Challenge.rw_rh0068_01.row.prog w) (stored kvs nr (.ref r.a)) ∧
        tl = [rObj r, rDict w.params r (-1), sObj S, sDict w.params { S with nrT := nt, genT := gt } (nr + 1) (gen + 1), (S.rd, od'), pObj P, pDict w.params { P with fT := ft, lT := lt } nr nr] ∧
        NdA tl) := by
  w_on
  unfold Meets
  k_fill
  intro dp un gd cn cs a ccd cl outer A₀ base h₀ L m rest s mean mg mb Q E B F X N D T hk9 hdp hun ret
  refine wpAny_call ?_
  k_dflt (refine' code_frame ?k1 ?k2 ?k3 ?k4 ?kD ?k5 ?kA ?kF ?kK ?k6 ?k7 ?k8 ?k9 ?kB ?_ ?c2 ?c3 ?c4 ?c5; (case kA => exact rfl); (case kF => exact rfl); (case kK => assumption); (case k1 => k_asm); (case k2 => k_asm); (case k3 => k_asm); (case k4 => k_asm); (case kD => k_asm); (case k5 => k_asm); (case k6 => k_is); (case k7 => k_is); (case k8 => ktr_room); (case k9 => exact BindsTo.of_eq rfl); (case c5 => decide); (case kB => exact locs rfl); (case c2 => exact rfl); (case c3 => exact rfl); (case c4 => exact rfl); k_whole)
  intro _ _ _ _ _ _ _ _ _ l1
  (try k_lt l1)
  (try dsimp only)
  (try k_fold)
  (rename News _ _ _ _ => kN9)
  dsimp only [sObj, sDict, pObj, pDict, rObj, rDict] at kN9
  k_steps
  refine Halt.to ?_
  k_dflt (refine' Meets.useA (C := new_meets w S nr gen od kvs P (-1) lk e tm ik _ tD wD hod hsz nd) (ret := ?_))
  k_whole
  rintro r9 tl9 h9 tk9 F9 N9 ⟨r, nt, gt, od', e9, hr, h1, h2, hd', e9', ndn⟩
  subst e9
  subst e9'
  have hrk : r.c.key = nr := by rw [hr]
  have ndf := ndn
  dsimp only [List.cons_append, List.nil_append, sObj, sDict, pObj, pDict, rObj, rDict] at N9
  (try dsimp only)
  (try k_fold)
  refine hideG fun G9 hG9 => ?_
  refine ndTo (R := fun a b => ¬ a = b) (fun _ _ h => h) ndn ?_
  dsimp only [NdTo, NdOne]
  intro ndn0 ndn1 ndn2 ndn3 ndn4 ndn5 ndn6 ndn7 ndn8 ndn9 ndn10 ndn11 ndn12 ndn13 ndn14 ndn15 ndn16 ndn17 ndn18 ndn19 ndn20
  refine hG9 ?_
  clear hG9
  k_steps
  (try k_unfold)
  (try dsimp only)
  refine' ⟨_, _, _, ?k1, ?k2, ?_⟩
  (case k1 => k_asm)
  (case k2 => k_asm)
  intro _ _ _
  (try dsimp only)
  refine' ret _ _ _ _ ?e1 ?e2 ?e3 ?e4
  (case e1 => assumption)
  (case e2 => assumption)
  (case e3 => assumption)
  refine' ⟨⟨r.a, r.d, r.tm, r.ik, r.t1, r.t2, r.t3, r.t4, r.t5, r.t6, r.t7, r.t8, r.keyT, r.fnT, r.birthT, r.deathT, P.fT, r.entryT, r.c⟩, nt, gt, _, _, od', rfl, hr, h1, h2, hd', ?tl, ?nd⟩
  case tl => (dsimp only [rObj, rDict, sObj, sDict, pObj, pDict, rEnt, sEnt, pEnt]; (try rewrite [hrk]); rfl)
  case nd => exact ndA_congr rfl ndf

theorem prepend_cons_meets (w : World) (S : StA) (nr gen : Int) (od : Obj) (kvs : List (Int × Value)) (P : PrA) (f lk e : Int) (tm ik : Addr) (et : Tok) (tD wD : Dat)
    (hod : od.IsDictOf (PySem.intKind PySem.Challenge.rw_rh0068_01.row.prog w) kvs) (hsz : kvs.length ≤ sizeLine) (hf : 0 ≤ f)
    (nd : NdA [sObj S, sDict w.params S nr gen, (S.rd, od), pObj P, pDict w.params P f lk]) :
    Meets w 113 [.ref S.a, .ref P.a, .ref tm, .ref ik, .int e et] 40 [sObj S, sDict w.params S nr gen, (S.rd, od), pObj P, pDict w.params P f lk]
      (fun v tl => ∃ (r : RecA) (nt gt ft : Tok) (od' : Obj), v = .ref r.a ∧ r.c = ⟨nr, P.fn, gen + 1, -1, e, tD, wD⟩ ∧ r.tm = tm ∧ r.ik = ik ∧
        od'.IsDictOf (PySem.intKind PySem.Challenge.rw_rh0068_01.row.prog w) (stored kvs nr (.ref r.a)) ∧
        tl = [rObj r, rDict w.params r f, sObj S, sDict w.params { S with nrT := nt, genT := gt } (nr + 1) (gen + 1), (S.rd, od'), pObj P, pDict w.params { P with fT := ft } nr lk] ∧
        NdA tl) := by
  w_on
  unfold Meets
  k_fill
  intro dp un gd cn cs a ccd cl outer A₀ base h₀ L m rest s mean mg mb Q E B F X N D T hk9 hdp hun ret
  refine wpAny_call ?_
  k_dflt (refine' code_frame ?k1 ?k2 ?k3 ?k4 ?kD ?k5 ?kA ?kF ?kK ?k6 ?k7 ?k8 ?k9 ?kB ?_ ?c2 ?c3 ?c4 ?c5; (case kA => exact rfl); (case kF => exact rfl); (case kK => assumption); (case k1 => k_asm); (case k2 => k_asm); (case k3 => k_asm); (case k4 => k_asm); (case kD => k_asm); (case k5 => k_asm); (case k6 => k_is); (case k7 => k_is); (case k8 => ktr_room); (case k9 => exact BindsTo.of_eq rfl); (case c5 => decide); (case kB => exact locs rfl); (case c2 => exact rfl); (case c3 => exact rfl); (case c4 => exact rfl); k_whole)
  intro _ _ _ _ _ _ _ _ _ l1
  (try k_lt l1)
  (try dsimp only)
  (try k_fold)
  (rename News _ _ _ _ => kN9)
  dsimp only [sObj, sDict, pObj, pDict, rObj, rDict] at kN9
  k_steps
  refine Halt.to ?_
  k_dflt (refine' Meets.useA (C := new_meets w S nr gen od kvs P f lk e tm ik _ tD wD hod hsz nd) (ret := ?_))
  k_whole
  rintro r9 tl9 h9 tk9 F9 N9 ⟨r, nt, gt, od', e9, hr, h1, h2, hd', e9', ndn⟩
  subst e9
  subst e9'
  have hrk : r.c.key = nr := by rw [hr]
  have ndf := ndn
  dsimp only [List.cons_append, List.nil_append, sObj, sDict, pObj, pDict, rObj, rDict] at N9
  (try dsimp only)
  (try k_fold)
  refine hideG fun G9 hG9 => ?_
  refine ndTo (R := fun a b => ¬ a = b) (fun _ _ h => h) ndn ?_
  dsimp only [NdTo, NdOne]
  intro ndn0 ndn1 ndn2 ndn3 ndn4 ndn5 ndn6 ndn7 ndn8 ndn9 ndn10 ndn11 ndn12 ndn13 ndn14 ndn15 ndn16 ndn17 ndn18 ndn19 ndn20
  refine hG9 ?_
  clear hG9
  k_steps
  (try k_unfold)
  (try dsimp only)
  refine' ⟨_, _, _, ?k1, ?k2, ?_⟩
  (case k1 => k_asm)
  (case k2 => k_asm)
  intro _ _ _
  (try dsimp only)
  refine' ret _ _ _ _ ?e1 ?e2 ?e3 ?e4
  (case e1 => assumption)
  (case e2 => assumption)
  (case e3 => assumption)
  refine' ⟨⟨r.a, r.d, r.tm, r.ik, r.t1, r.t2, r.t3, r.t4, r.t5, r.t6, r.t7, r.t8, r.keyT, r.fnT, r.birthT, r.deathT, P.fT, r.entryT, r.c⟩, nt, gt, _, od', rfl, hr, h1, h2, hd', ?tl, ?nd⟩
  case tl => (dsimp only [rObj, rDict, sObj, sDict, pObj, pDict, rEnt, sEnt, pEnt]; (try rewrite [hrk]); rfl)
  case nd => exact ndA_congr rfl ndf

end
section

theorem erase_miss_meets (w : World) (led : List (Addr × Obj)) (S : StA) (nr gen : Int) (od : Obj) (kvs : List (Int × Value)) (k : Int) (kt : Tok)
    (h1 : sObj S ∈ led) (h2 : sDict w.params S nr gen ∈ led) (h3 : (S.rd, od) ∈ led) (hod : od.IsDictOf (PySem.intKind PySem.Challenge.rw_rh0068_01.row.prog w) kvs)
    (lo : (S.rd == sysModules) = false) (hk0 : valueAt kvs k = none) :
    Meets w 155 [.ref S.a, .int k kt] 20 led (fun v tl => v = .bool false ∧ tl = led) := by
  w_on
  unfold Meets
  k_fill
  intro dp un gd cn cs a ccd cl outer A₀ base h₀ L m rest s mean mg mb Q E B F X N D T hk9 hdp hun ret
  refine wpAny_call ?_
  k_dflt (refine' code_frame ?k1 ?k2 ?k3 ?k4 ?kD ?k5 ?kA ?kF ?kK ?k6 ?k7 ?k8 ?k9 ?kB ?_ ?c2 ?c3 ?c4 ?c5; (case kA => exact rfl); (case kF => exact rfl); (case kK => assumption); (case k1 => k_asm); (case k2 => k_asm); (case k3 => k_asm); (case k4 => k_asm); (case kD => k_asm); (case k5 => k_asm); (case k6 => k_is); (case k7 => k_is); (case k8 => ktr_room); (case k9 => exact BindsTo.of_eq rfl); (case c5 => decide); (case kB => exact locs rfl); (case c2 => exact rfl); (case c3 => exact rfl); (case c4 => exact rfl); k_whole)
  intro _ _ _ _ _ _ _ _ _ l1
  (try k_lt l1)
  (try dsimp only)
  (try k_fold)
  k_steps
  (try k_unfold)
  (try dsimp only)
  refine' ⟨_, _, _, ?k1, ?k2, ?_⟩
  (case k1 => k_asm)
  (case k2 => k_asm)
  intro _ _ _
  (try dsimp only)
  exact ret _ _ _ _ (by assumption) (by assumption) (by assumption) ⟨rfl, rfl⟩

theorem erase_dead_meets (w : World) (led : List (Addr × Obj)) (S : StA) (nr gen : Int) (od : Obj) (kvs : List (Int × Value)) (k : Int) (kt : Tok) (r : RecA) (nx : Int)
    (h1 : sObj S ∈ led) (h2 : sDict w.params S nr gen ∈ led) (h3 : (S.rd, od) ∈ led) (hod : od.IsDictOf (PySem.intKind PySem.Challenge.rw_rh0068_01.row.prog w) kvs)
    (lo : (S.rd == sysModules) = false) (hk0 : valueAt kvs k = some (.ref r.a)) (r1 : rObj r ∈ led) (r2 : rDict w.params r nx ∈ led) (hdead : 0 ≤ r.c.death) :
    Meets w 155 [.ref S.a, .int k kt] 20 led (fun v tl => v = .bool false ∧ tl = led) := by
  w_on
  unfold Meets
  k_fill
  intro dp un gd cn cs a ccd cl outer A₀ base h₀ L m rest s mean mg mb Q E B F X N D T hk9 hdp hun ret
  refine wpAny_call ?_
  k_dflt (refine' code_frame ?k1 ?k2 ?k3 ?k4 ?kD ?k5 ?kA ?kF ?kK ?k6 ?k7 ?k8 ?k9 ?kB ?_ ?c2 ?c3 ?c4 ?c5; (case kA => exact rfl); (case kF => exact rfl); (case kK => assumption); (case k1 => k_asm); (case k2 => k_asm); (case k3 => k_asm); (case k4 => k_asm); (case kD => k_asm); (case k5 => k_asm); (case k6 => k_is); (case k7 => k_is); (case k8 => ktr_room); (case k9 => exact BindsTo.of_eq rfl); (case c5 => decide); (case kB => exact locs rfl); (case c2 => exact rfl); (case c3 => exact rfl); (case c4 => exact rfl); k_whole)
  intro _ _ _ _ _ _ _ _ _ l1
  (try k_lt l1)
  (try dsimp only)
  (try k_fold)
  k_steps
  (try k_unfold)
  (try dsimp only)
  refine' ⟨_, _, _, ?k1, ?k2, ?_⟩
  (case k1 => k_asm)
  (case k2 => k_asm)
  intro _ _ _
  (try dsimp only)
  exact ret _ _ _ _ (by assumption) (by assumption) (by assumption) ⟨rfl, rfl⟩

theorem erase_live_meets (w : World) (S : StA) (nr gen : Int) (od : Obj) (kvs : List (Int × Value)) (k : Int) (kt : Tok) (r : RecA) (nx : Int)
    (hod : od.IsDictOf (PySem.intKind PySem.Challenge.rw_rh0068_01.row.prog w) kvs)
    (lo : (S.rd == sysModules) = false) (hk0 : valueAt kvs k = some (.ref r.a)) (hlive : r.c.death < 0)
    (nd : NdA [sObj S, sDict w.params S nr gen, (S.rd, od), rObj r, rDict w.params r nx]) :
    Meets w 155 [.ref S.a, .int k kt] 20 [sObj S, sDict w.params S nr gen, (S.rd, od), rObj r, rDict w.params r nx]
      (fun v tl => v = .bool true ∧ ∃ gt dt, tl = [sObj S, sDict w.params { S with genT := gt } nr (gen + 1), (S.rd, od), rObj r, rDict w.params { r with deathT := dt, c := { r.c with death := gen + 1 } } nx]) := by
  w_on
  unfold Meets
  k_fill
  intro dp un gd cn cs a ccd cl outer A₀ base h₀ L m rest s mean mg mb Q E B F X N D T hk9 hdp hun ret
  refine wpAny_call ?_
  k_dflt (refine' code_frame ?k1 ?k2 ?k3 ?k4 ?kD ?k5 ?kA ?kF ?kK ?k6 ?k7 ?k8 ?k9 ?kB ?_ ?c2 ?c3 ?c4 ?c5; (case kA => exact rfl); (case kF => exact rfl); (case kK => assumption); (case k1 => k_asm); (case k2 => k_asm); (case k3 => k_asm); (case k4 => k_asm); (case kD => k_asm); (case k5 => k_asm); (case k6 => k_is); (case k7 => k_is); (case k8 => ktr_room); (case k9 => exact BindsTo.of_eq rfl); (case c5 => decide); (case kB => exact locs rfl); (case c2 => exact rfl); (case c3 => exact rfl); (case c4 => exact rfl); k_whole)
  intro _ _ _ _ _ _ _ _ _ l1
  (try k_lt l1)
  (try dsimp only)
  (try k_fold)
  (rename News _ _ _ _ => kN9)
  dsimp only [sObj, sDict, pObj, pDict, rObj, rDict] at kN9
  refine hideG fun G9 hG9 => ?_
  refine ndTo (R := fun a b => ¬ a = b) (fun _ _ h => h) nd ?_
  dsimp only [NdTo, NdOne]
  intro nd0 nd1 nd2 nd3 nd4 nd5 nd6 nd7 nd8 nd9
  refine hG9 ?_
  clear hG9
  k_steps
  (try k_unfold)
  (try dsimp only)
  refine' ⟨_, _, _, ?k1, ?k2, ?_⟩
  (case k1 => k_asm)
  (case k2 => k_asm)
  intro _ _ _
  (try dsimp only)
  refine' ret _ _ _ _ ?e1 ?e2 ?e3 ?e4
  (case e1 => assumption)
  (case e2 => assumption)
  (case e3 => assumption)
  refine' ⟨rfl, _, _, ?tl⟩
  case tl =>
    dsimp only [rObj, rDict, sObj, sDict, pObj, pDict, rEnt, sEnt, pEnt]
    rfl

end
section

local macro_rules | `(tactic| walk_at "call ref") => `(tactic| (k_here; k_dflt (refine' Meets.useA (C := chain_meets _ _ _ _ _ _ _ _ _ _ _ _ (by k_mem) (by k_mem) (by k_mem) (by with_reducible assumption) (by k_mem) (by k_mem) (by (intro _ hp; k_mem)) (by with_reducible assumption) (by with_reducible assumption) (by with_reducible assumption)) (ret := ?_)); k_whole; intro r9 tl9 h9 tk9 F9 N9 hp9; obtain ⟨l9, nn9, e9, e9', hne9⟩ := hp9; subst e9; subst e9'; (have hne8 := hne9); (try k_lt hne9); (try k_sweep); (try dsimp only); (try k_fold)))

/-- a record marked dead at g -/
noncomputable abbrev markA (g : Int) (t : Tok) (r : RecA) : RecA := { r with deathT := t, c := { r.c with death := g } }
/-- the first i visible ones marked -/
noncomputable def killF (g v : Int) (t : Tok) : Nat → List RecA → List RecA
  | _, [] => []
  | 0, r :: rs => r :: rs
  | i + 1, r :: rs => if visB r.c g = true then markA v t r :: killF g v t i rs else r :: killF g v t (i + 1) rs
/-- all visible ones marked -/
noncomputable def killAll (g v : Int) (t : Tok) (c : List RecA) : List RecA := c.map fun r => if visB r.c g = true then markA v t r else r
theorem killF_zero (g v : Int) (t : Tok) (c : List RecA) : killF g v t 0 c = c := by cases c <;> rfl
theorem killF_skip {g v : Int} {t : Tok} {i : Nat} {r : RecA} {rs : List RecA} (h : visB r.c g = false) : killF g v t i (r :: rs) = r :: killF g v t i rs := by
  cases i with
  | zero => rw [killF_zero, killF_zero]
  | succ i => simp only [killF, h, Bool.false_eq_true, if_false]
theorem killF_take {g v : Int} {t : Tok} {i : Nat} {r : RecA} {rs : List RecA} (h : visB r.c g = true) : killF g v t (i + 1) (r :: rs) = markA v t r :: killF g v t i rs := by
  simp only [killF, h, if_true]
theorem killF_all {g v : Int} {t : Tok} : ∀ {c : List RecA} {i : Nat}, (refsV g c).length ≤ i → killF g v t i c = killAll g v t c := by
  intro c
  induction c with
  | nil => intro i _; cases i <;> rfl
  | cons r rs ih =>
    intro i h
    cases hv : visB r.c g with
    | false =>
      rw [refsV_neg hv] at h
      rw [killF_skip hv, ih h]
      simp only [killAll, List.map_cons, hv, Bool.false_eq_true, if_false]
    | true =>
      rw [refsV_pos hv] at h
      cases i with
      | zero => simp at h
      | succ i =>
        rw [killF_take hv, ih (by simpa using h)]
        simp only [killAll, List.map_cons, hv, if_true]
theorem hk_killF (g v : Int) (t : Tok) (i : Nat) (c : List RecA) : hk (killF g v t i c) = hk c := by
  cases c with
  | nil => cases i <;> rfl
  | cons r rs =>
    cases i with
    | zero => rw [killF_zero]
    | succ i =>
      cases hv : visB r.c g with
      | false => rw [killF_skip hv]; rfl
      | true => rw [killF_take hv]; rfl
theorem chLed_killF_addr (P : Params) (g v : Int) (t : Tok) : ∀ (c : List RecA) (i : Nat), (chLed P (killF g v t i c)).map (·.1) = (chLed P c).map (·.1) := by
  intro c
  induction c with
  | nil => intro i; cases i <;> rfl
  | cons r rs ih =>
    intro i
    cases hv : visB r.c g with
    | false => rw [killF_skip hv]; simp only [chLed, List.map_cons, ih]
    | true =>
      cases i with
      | zero => rw [killF_zero]
      | succ i => rw [killF_take hv]; simp only [chLed, List.map_cons, ih]
theorem kill_split (P : Params) (g v : Int) (t : Tok) : ∀ (c : List RecA) (i : Nat) (u : Value), (refsV g c)[i]? = some u →
    ∃ r nx pre post, u = .ref r.a ∧ chLed P (killF g v t i c) = pre ++ rObj r :: rDict P r nx :: post ∧ chLed P (killF g v t (i + 1) c) = pre ++ rObj r :: rDict P (markA v t r) nx :: post := by
  intro c
  induction c with
  | nil => intro i u h; simp [refsV] at h
  | cons r rs ih =>
    intro i u h
    cases hv : visB r.c g with
    | false =>
      rw [refsV_neg hv] at h
      obtain ⟨r', nx, pre, post, e, e1, e2⟩ := ih i u h
      refine ⟨r', nx, rObj r :: rDict P r (hk rs) :: pre, post, e, ?_, ?_⟩
      · rw [killF_skip hv]; simp only [chLed, hk_killF, e1, List.cons_append]
      · rw [killF_skip hv]; simp only [chLed, hk_killF, e2, List.cons_append]
    | true =>
      rw [refsV_pos hv] at h
      cases i with
      | zero =>
        refine ⟨r, hk rs, [], chLed P rs, ?_, ?_, ?_⟩
        · simpa using h.symm
        · rw [killF_zero]; rfl
        · rw [killF_take hv, killF_zero]; rfl
      | succ i =>
        obtain ⟨r', nx, pre, post, e, e1, e2⟩ := ih i u (by simpa using h)
        refine ⟨r', nx, rObj (markA v t r) :: rDict P (markA v t r) (hk rs) :: pre, post, e, ?_, ?_⟩
        · rw [killF_take hv]; simp only [chLed, hk_killF, e1, List.cons_append]
        · rw [killF_take hv]; simp only [chLed, hk_killF, e2, List.cons_append]

theorem kill_all_meets (w : World) (S : StA) (nr gen : Int) (od : Obj) (kvs : List (Int × Value)) (P : PrA) (c : List RecA) (lk : Int)
    (hod : od.IsDictOf (PySem.intKind PySem.Challenge.rw_rh0068_01.row.prog w) kvs)
    (hv : ∀ r ∈ c, valueAt kvs r.c.key = some (.ref r.a)) (hpos : ∀ r ∈ c, 0 ≤ r.c.key) (hlen : c.length ≤ 1000)
    (nd : NdA ([sObj S, sDict w.params S nr gen, (S.rd, od), pObj P, pDict w.params P (hk c) lk] ++ chLed w.params c)) :
    Meets w 162 [.ref S.a, .ref P.a] 60 ([sObj S, sDict w.params S nr gen, (S.rd, od), pObj P, pDict w.params P (hk c) lk] ++ chLed w.params c)
      (fun v tl => v = .none ∧ ((refsV gen c = [] ∧ tl = [sObj S, sDict w.params S nr gen, (S.rd, od), pObj P, pDict w.params P (hk c) lk] ++ chLed w.params c) ∨
        (refsV gen c ≠ [] ∧ ∃ gt dt, tl = [sObj S, sDict w.params { S with genT := gt } nr (gen + 1), (S.rd, od), pObj P, pDict w.params P (hk c) lk] ++ chLed w.params (killAll gen (gen + 1) dt c)))) := by
  w_on
  unfold Meets
  k_fill
  intro dp un gd cn cs a ccd cl outer A₀ base h₀ L m rest s mean mg mb Q E B F X N D T hk9 hdp hun ret
  refine wpAny_call ?_
  k_dflt (refine' code_frame ?k1 ?k2 ?k3 ?k4 ?kD ?k5 ?kA ?kF ?kK ?k6 ?k7 ?k8 ?k9 ?kB ?_ ?c2 ?c3 ?c4 ?c5; (case kA => exact rfl); (case kF => exact rfl); (case kK => assumption); (case k1 => k_asm); (case k2 => k_asm); (case k3 => k_asm); (case k4 => k_asm); (case kD => k_asm); (case k5 => k_asm); (case k6 => k_is); (case k7 => k_is); (case k8 => ktr_room); (case k9 => exact BindsTo.of_eq rfl); (case c5 => decide); (case kB => exact locs rfl); (case c2 => exact rfl); (case c3 => exact rfl); (case c4 => exact rfl); k_whole)
  intro _ _ _ _ _ _ _ _ _ l1
  (try k_lt l1)
  (try dsimp only)
  (try k_fold)
  (rename News _ _ _ _ => kN9); (dsimp only [List.cons_append, List.nil_append] at kN9)
  (rename News _ _ _ _ => kN9)
  dsimp only [sObj, sDict, pObj, pDict, rObj, rDict] at kN9
  have ndL := nd
  obtain ⟨nd, nc, nx⟩ := ndA_append nd
  refine hideG fun G9 hG9 => ?_
  refine ndTo (R := fun a b => ¬ a = b) (fun _ _ h => h) nd ?_
  dsimp only [NdTo, NdOne]
  intro nd0 nd1 nd2 nd3 nd4 nd5 nd6 nd7 nd8 nd9
  refine hG9 ?_
  clear hG9
  have nc1 : ∀ p ∈ chLed w.params c, p.1 ≠ S.d := fun p hp => (nx (sDict w.params S nr gen) (.tail _ (.head _)) p hp).symm
  have hrl : (refsV gen c).length ≤ 1000 := Nat.le_trans (refsV_len gen c) hlen
  k_steps
  · -- some are living
    refine Halt.to ?_
    (rename Fr _ _ _ _ => lF'); (rename News _ _ _ _ => lN')
    have h0 : refsV gen c ≠ [] := by
      intro q
      have q2 := congrArg List.length q
      simp only [List.length_nil] at q2
      omega
    k_dflt (refine' for_list (vs := refsV gen c) (fun _ l nn m₀ i m₁ led₁ => (∀ y, y ≠ Str.ofString "record" → m₁ y = m₀ y) ∧ ∃ gt, led₁ = (l, listOf (refsV gen c).toArray nn) :: ([sObj S, sDict w.params { S with genT := gt } nr (gen + 1), (S.rd, od), pObj P, pDict w.params P (hk c) lk] ++ chLed w.params (killF gen (gen + 1) gt i c))) rfl lF' lN' mem_here ?hj ?hJ ?turn ?done)
    case hj =>
      refine' ⟨fun _ _ => rfl, _, ?tl⟩
      case tl => rw [killF_zero]; (dsimp only [rObj, rDict, sObj, sDict, pObj, pDict, rEnt, sEnt, pEnt]; rfl)
    case hJ => rintro _ _ _ ⟨_, _, rfl⟩; exact mem_here
    case turn =>
      intro s₂ i v m₁ led₁ h tk own hs8 hx hj8 hD F₁ N₁
      refine hidePost fun Q9 hQ9 => ?_
      obtain ⟨_, rfl⟩ := hs8
      refine hideG fun G9 hG9 => ?_
      obtain ⟨hm, gt, rfl⟩ := hj8 <;> (refine hG9 ?_; clear hG9)
      rw [map_eq hm] at F₁
      clear lF' lN' hm
      obtain ⟨r, nx, pr, po, rfl, e1, e2⟩ := kill_split w.params gen (gen + 1) gt c i v hx
      (rename ∀ p : Addr × Obj, p ∈ _ → p.1 < _ => hlt9)
      have hr9 : rDict w.params r nx ∈ chLed w.params (killF gen (gen + 1) gt i c) := by rw [e1]; simp
      have f8 := ltN (allLt_addr (fun p hp => hlt9 p (mem_tail (mem_tail (mem_tail (mem_tail (mem_tail hp)))))) (chLed_killF_addr w.params gen (gen + 1) gt c i) _ hr9)
      have ndk : NdA ([sObj S, sDict w.params { S with genT := gt } nr (gen + 1), (S.rd, od), pObj P, pDict w.params P (hk c) lk] ++ (pr ++ rObj r :: rDict w.params r nx :: po)) := by
        rw [← e1]
        refine ndA_congr ?_ ndL
        rw [List.map_append, List.map_append, chLed_killF_addr]
        rfl
      rw [e1] at N₁ hD
      have hD2 := hD
      obtain ⟨g1, g2, f2⟩ := nd_mid ndk
      have f1 : ∀ p ∈ pr ++ po ++ own, p.1 ≠ r.d := fun p hp => (List.mem_append.mp hp).elim (g2 p) fun hp => (hD (rDict w.params r nx) (by simp) p hp).symm
      have f3 : @Ne Nat S.a r.d := g1 (sObj S) (by simp)
      have f4 : @Ne Nat S.d r.d := g1 (S.d, _) (.tail _ (.head _))
      have f5 : @Ne Nat S.rd r.d := g1 (S.rd, od) (by simp)
      have f6 : @Ne Nat P.a r.d := g1 (pObj P) (by simp)
      have f7 : @Ne Nat P.d r.d := g1 (P.d, _) (.tail _ (.tail _ (.tail _ (.tail _ (.head _)))))
      dsimp only [rDict, rObj] at f2 f8
      replace N₁ := news_sub N₁ sub_in5
      dsimp only [sObj, sDict, pObj, pDict, rObj, rDict] at N₁
      k_steps
      refine hQ9 _ _ ?_
      refine FdPost.intro (by assumption) (news_sub (by assumption) sub_out5) ?_ ⟨fun _ y => by simp only [if_neg y], gt, by rw [e2]⟩
      exact disj_addr (by simp only [List.map_cons, List.map_append, List.map_nil]) hD2
    case done =>
      intro s₂ m₁ led₁ h tk hs8 hj8 F₁ N₁
      refine hideG fun G9 hG9 => ?_
      obtain ⟨_, rfl⟩ := hs8
      obtain ⟨hm, gt, rfl⟩ := hj8 <;> (refine hG9 ?_; clear hG9)
      replace N₁ := news_sub N₁ (fun _ hp => mem_tail hp)
      k_steps
      (try k_unfold)
      (try dsimp only)
      refine' ⟨_, _, _, ?k1, ?k2, ?_⟩
      (case k1 => k_asm)
      (case k2 => k_asm)
      intro _ _ _
      (try dsimp only)
      refine' ret _ _ _ _ ?e1 ?e2 ?e3 ?e4
      (case e1 => assumption)
      (case e2 => assumption)
      (case e3 => assumption)
      refine ⟨rfl, .inr ⟨h0, gt, gt, ?_⟩⟩
      rw [killF_all (Nat.le_refl _)]
  · -- none is living
    refine Halt.to ?_
    (rename Fr _ _ _ _ => lF'); (rename News _ _ _ _ => lN')
    have h0 : refsV gen c = [] := List.eq_nil_of_length_eq_zero (by omega)
    k_dflt (refine' for_list (vs := refsV gen c) (fun _ l nn _ _ m₁ led₁ => led₁ = (l, listOf (refsV gen c).toArray nn) :: ([sObj S, sDict w.params S nr gen, (S.rd, od), pObj P, pDict w.params P (hk c) lk] ++ chLed w.params c)) rfl lF' lN' mem_here rfl ?hJ ?turn ?done)
    case hJ => rintro _ _ _ rfl; exact mem_here
    case turn => intro s₂ i v m₁ led₁ h tk own _ hx; rw [h0] at hx; simp at hx
    case done =>
      intro s₂ m₁ led₁ h tk hs8 hj8 F₁ N₁
      refine hideG fun G9 hG9 => ?_
      obtain ⟨_, rfl⟩ := hs8
      subst hj8
      refine hG9 ?_
      clear hG9
      replace N₁ := news_sub N₁ (fun _ hp => mem_tail hp)
      k_steps
      (try k_unfold)
      (try dsimp only)
      refine' ⟨_, _, _, ?k1, ?k2, ?_⟩
      (case k1 => k_asm)
      (case k2 => k_asm)
      intro _ _ _
      (try dsimp only)
      exact ret _ _ _ _ (by assumption) (by assumption) (by assumption) ⟨rfl, .inl ⟨h0, rfl⟩⟩

end
section

theorem draw_meets (w : World) (l : Addr) (vs : List Value) (fs : List Int) (n : Nat) (k : Int) (kt : Tok) (hi : IntsAre vs fs) (hk0 : 0 < k) (hlen : vs.length ≤ 1000) :
    Meets w 190 [.ref l, .int k kt] 20 [(l, listOf vs.toArray n)]
      (fun v tl => ∃ d t vs' fs' n', v = .int d t ∧ 0 ≤ d ∧ d < k ∧ IntsAre vs' fs' ∧ vs'.length ≤ vs.length ∧ tl = [(l, listOf vs'.toArray n')]) := by
  w_on
  unfold Meets
  k_fill
  intro dp un gd cn cs a ccd cl outer A₀ base h₀ L m rest s mean mg mb Q E B F X N D T hk9 hdp hun ret
  refine wpAny_call ?_
  k_dflt (refine' code_frame ?k1 ?k2 ?k3 ?k4 ?kD ?k5 ?kA ?kF ?kK ?k6 ?k7 ?k8 ?k9 ?kB ?_ ?c2 ?c3 ?c4 ?c5; (case kA => exact rfl); (case kF => exact rfl); (case kK => assumption); (case k1 => k_asm); (case k2 => k_asm); (case k3 => k_asm); (case k4 => k_asm); (case kD => k_asm); (case k5 => k_asm); (case k6 => k_is); (case k7 => k_is); (case k8 => ktr_room); (case k9 => exact BindsTo.of_eq rfl); (case c5 => decide); (case kB => exact locs rfl); (case c2 => exact rfl); (case c3 => exact rfl); (case c4 => exact rfl); k_whole)
  intro _ _ _ _ _ _ _ _ _ l1
  (try k_lt l1)
  (try dsimp only)
  (try k_fold)
  k_steps
  · ((try k_unfold); (try dsimp only); refine' ⟨_, _, _, ?k1, ?k2, ?_⟩; (case k1 => k_asm); (case k2 => k_asm); intro _ _ _; (try dsimp only))
    (rename News _ _ _ _ => kN); (rename Disj _ _ => kD)
    refine' ret _ [(l, listOf vs.toArray n)] _ _ ?e1 ?e2 ?e3 ?e4
    (case e1 => assumption)
    (case e2 => exact news_sub kN (fun _ hp => mem_tail hp))
    (case e3 => exact Disj.left kD (fun _ hp => mem_tail hp))
    exact ⟨0, _, vs, fs, n, rfl, Int.le_refl 0, hk0, hi, Nat.le_refl _, rfl⟩
  · have hne : 0 < vs.length := by
      rw [hi.length]
      refine List.length_pos_iff.mpr fun e => ?_
      simp_all
    have hz : vs.length ≤ sizeLine := by rw [sizeLine_eq]; omega
    dsimp only
    k_dflt (refine' kpa_pop ?F ?N ?U hi hne hz ?_)
    (case F => k_asm)
    (case N => k_asm)
    (case U => k_upd)
    intro h' t' F' N' hI'
    k_steps
    (try k_unfold)
    (try dsimp only)
    refine' ⟨_, _, _, ?k1, ?k2, ?_⟩
    (case k1 => k_asm)
    (case k2 => k_asm)
    intro _ _ _
    (try dsimp only)
    (rename News _ _ _ _ => kN); (rename Disj _ _ => kD)
    refine' ret _ [(l, listOf vs.dropLast.toArray (n + 1))] _ _ ?f1 ?f2 ?f3 ?f4
    (case f1 => assumption)
    (case f2 => exact news_sub kN (fun _ hp => mem_tail hp))
    (case f3 => exact Disj.left kD (fun _ hp => mem_tail hp))
    refine ⟨_, _, _, _, _, rfl, ?_, ?_, hI', ?_, rfl⟩
    · first | exact Int.fmod_nonneg_of_pos _ hk0 | exact Int.emod_nonneg _ (by omega)
    · first | exact Int.fmod_lt_of_pos _ hk0 | exact Int.emod_lt_of_pos _ hk0
    · rw [List.length_dropLast]; omega

end
section
local macro_rules | `(tactic| walk_at "m_pad") => `(tactic| skip)

theorem figures_use {w : World}
    {dp un : Nat} {gd : Option (List Code)} {cn : Str} {cs : Scope} {a : Addr} {ccd : Value} {cl : List (Str × Addr)} {outer : List Env} {A₀ : Around} {base h₀ : Heap} {L : Addr} {m : Str → Option Value} {rest : List (Addr × Obj)} {s : Shared}
    {mean : ExcName → Option Value} {mg mb : Str → Option Value} {Q E : Value → Shared → Prop} {sl : Addr} {vs : List Value} {ns : List Int}
    (B : Below A₀ base outer h₀) (F : Fr h₀ L s.heap m) (X : (hd.heap_1 w.params).In h₀) (N0 : News h₀ L s.heap rest) (T : Top vw (looseW vw []) mean mg mb h₀) (hk9 : cs.kind = .function)
    (hdp : dp + 20 < recursionLimit) (hun : un + 8 * 20 + 64 < cLine) (hL : h₀.IsList sl vs.toArray) (hi : IntsAre vs ns) (hlen : vs.length ≤ 63)
    (ret : ∀ l vs' fs' n' h' tk', Fr h₀ L h' m → News h₀ L h' ((l, listOf vs'.toArray n') :: rest) → (∀ p ∈ rest, p.1 ≠ l) → IntsAre vs' fs' → vs'.length ≤ 90 → Q (.ref l) { s with heap := h', toks := tk' }) :
    wpAny (model PySem.Challenge.rw_rh0068_01.row.prog w) (ktrTop dp un gd cn cs L a ccd cl outer) (call (.ref 183) [.ref sl]) Q E s := by
  w_on
  revert X
  k_fill
  intro X
  have N : News h₀ L s.heap ([] ++ rest) := N0
  have D : Disj [] rest := fun _ hp => absurd hp List.not_mem_nil
  clear N0
  refine wpAny_call ?_
  k_dflt (refine' code_frame ?k1 ?k2 ?k3 ?k4 ?kD ?k5 ?kA ?kF ?kK ?k6 ?k7 ?k8 ?k9 ?kB ?_ ?c2 ?c3 ?c4 ?c5; (case kA => exact rfl); (case kF => exact rfl); (case kK => assumption); (case k1 => k_asm); (case k2 => k_asm); (case k3 => k_asm); (case k4 => k_asm); (case kD => k_asm); (case k5 => k_asm); (case k6 => k_is); (case k7 => k_is); (case k8 => ktr_room); (case k9 => exact BindsTo.of_eq rfl); (case c5 => decide); (case kB => exact locs rfl); (case c2 => exact rfl); (case c3 => exact rfl); (case c4 => exact rfl); k_whole)
  intro _ _ _ _ _ _ _ _ _ l1
  (try k_lt l1)
  (try dsimp only)
  (try k_fold)
  (rename Fr h₀ L _ m => kFG)
  have hL2 := stays_list kFG.keep hL
  clear hL
  k_steps
  refine Halt.to ?_
  (rename Fr _ _ _ _ => lF'); (rename News _ _ _ _ => lN'); (rename IntsAre _ _ => hW); (rename List Value => ws); (rename Addr => dl)
  k_dflt (refine' for_list (vs := ws) (fun _ l nn m₀ i m₁ led₁ => (∀ y, y ≠ Str.ofString "cell" → [Str.ofString "whole", Str.ofString "turn"].contains y = false → m₁ y = m₀ y) ∧
    ∃ lf gs us n', m₀ (Str.ofString "figures") = some (.ref lf) ∧ IntsAre us gs ∧ us.length ≤ 24 * i ∧ @LT.lt Nat _ lf l ∧ led₁ = [(l, listOf ws.toArray nn), (lf, listOf us.toArray n')]) rfl lF' lN' mem_here ?hj ?hJ ?turn ?done)
  case hj => exact ⟨fun _ _ _ => rfl, _, [], [], 0, rfl, .nil, Nat.zero_le _, by assumption, rfl⟩
  case hJ => rintro _ _ _ ⟨_, _, _, _, _, _, _, _, _, rfl⟩; exact mem_here
  case turn =>
    intro s₂ i v m₁ led₁ h tk own hs8 hx hj8 hD F₁ N₁
    refine hidePost fun Q9 hQ9 => ?_
    obtain ⟨_, rfl⟩ := hs8
    refine hideG fun G9 hG9 => ?_
    obtain ⟨hm, lf, gs, us, n', hf, hg, hul, hlt, rfl⟩ := hj8 <;> (refine hG9 ?_; clear hG9)
    rw [map_eq2 hm] at F₁
    have hf2 := Value.ref.inj (Option.some.inj (show some (Value.ref _) = some (Value.ref lf) from hf))
    have hf3 := hf2.symm
    subst hf3
    obtain ⟨k, t, rfl⟩ := ints_at hW hx
    clear lF' lN' hm hf
    have hi9 : i < 30 := by
      have h1 := (List.getElem?_eq_some_iff.mp hx).1
      rw [hW.length] at h1
      omega
    simp only [List.cons_append, List.nil_append] at N₁
    k_steps
    all_goals (
      refine Halt.to ?_
      (rename Fr _ _ _ _ => kF2); (rename News _ _ _ _ => kN2); (rename IsRange _ _ _ _ _ _ _ _ => hR)
      k_dflt (refine' for_range (n := 24) (fun m₀ j m₁ led₁ => (∀ y, y ≠ Str.ofString "turn" → [Str.ofString "whole"].contains y = false → m₁ y = m₀ y) ∧ (∃ k t, m₁ (Str.ofString "whole") = some (.int k t)) ∧
        ∃ gs us n', IntsAre us gs ∧ us.length ≤ 24 * i + j ∧ led₁ = (dl, listOf ws.toArray 0) :: (lf, listOf us.toArray n') :: own) rfl hR rfl rfl kF2 kN2 ?ij ?iturn ?idone)
      case ij => exact ⟨fun _ _ _ => rfl, ⟨_, _, rfl⟩, _, us, n', by assumption, hul, rfl⟩
      case iturn =>
        intro s₃ j t2 m₂ led₂ h2 tk2 own2 hs8 hj9 hj8 hD2 F₂ N₂
        refine hidePost fun Q8 hQ8 => ?_
        obtain ⟨_, rfl⟩ := hs8
        refine hideG fun G9 hG9 => ?_
        obtain ⟨hm2, ⟨k2, t3, hk2⟩, gs2, us2, n2, hg2, hul2, rfl⟩ := hj8 <;> (refine hG9 ?_; clear hG9)
        rw [map_eqz hm2 hk2] at F₂
        simp only [List.cons_append] at N₂
        have f1 : ∀ p ∈ own, p.1 ≠ lf := fun p hp => (hD (lf, _) (.tail _ (.head _)) p hp).symm
        have f2 : ∀ p ∈ own2, p.1 ≠ lf := fun p hp => (hD2 (lf, _) (.tail _ (.head _)) p hp).symm
        have f3 : ∀ p ∈ own ++ own2, p.1 ≠ lf := fun p hp => (List.mem_append.mp hp).elim (f1 p) (f2 p)
        have f4 : us2.toArray.size ≤ sizeLine := by rw [sizeLine_eq, List.size_toArray]; omega
        k_steps
        · -- break
          refine hQ8 _ _ ?_
          dsimp only [FdPost]
          k_steps
          (rename News _ _ _ _ => kN3)
          rw [List.push_toArray] at kN3
          refine hQ9 _ _ ?_
          refine FdPost.intro (led' := [(dl, listOf ws.toArray 0), (lf, listOf (us2 ++ [Value.int _ _]).toArray (n2 + 1))]) (by assumption) (news_sub kN3 sub_drop2) (by refine disj_addr ?_ hD; rfl) ⟨fun y y1 y2 => by simp only [y1, ne_of_two y2, y2, if_false, Bool.false_eq_true]; try rfl, lf, _, _, _, rfl, ints_snoc hg2 _ _, ?_, by assumption, rfl⟩
          rw [List.length_append]
          simp only [List.length_cons, List.length_nil]
          omega
        · (rename News _ _ _ _ => kN3)
          rw [List.push_toArray] at kN3
          refine hQ8 _ _ ?_
          refine FdPost.intro (led' := (dl, listOf ws.toArray 0) :: (lf, listOf (us2 ++ [Value.int _ _]).toArray (n2 + 1)) :: own) (by assumption) kN3 (by refine disj_addr ?_ hD2; rfl) ⟨fun y y1 y2 => by simp only [y1, ne_of_one y2, if_false]; try rfl, ⟨_, _, rfl⟩, _, _, _, ints_snoc hg2 _ _, ?_, rfl⟩
          rw [List.length_append]
          simp only [List.length_cons, List.length_nil]
          omega
      case idone =>
        intro s₃ m₂ led₂ h2 tk2 hs8 hj8 F₂ N₂
        refine hideG fun G9 hG9 => ?_
        obtain ⟨_, rfl⟩ := hs8
        obtain ⟨hm2, ⟨k2, t3, hk2⟩, gs2, us2, n2, hg2, hul2, rfl⟩ := hj8 <;> (refine hG9 ?_; clear hG9)
        k_steps
        refine hQ9 _ _ ?_
        refine FdPost.intro (led' := [(dl, listOf ws.toArray 0), (lf, listOf us2.toArray n2)]) (by assumption) N₂ (by refine disj_addr ?_ hD; rfl) ⟨fun y y1 y2 => by rw [hm2 y (ne_of_two y2).2 (one_of_ne (ne_of_two y2).1)]; simp only [y1, ne_of_two y2, y2, if_false, Bool.false_eq_true]; try rfl, lf, _, _, _, rfl, hg2, ?_, by assumption, rfl⟩
        omega)
  case done =>
    intro s₂ m₁ led₁ h tk hs8 hj8 F₁ N₁
    refine hideG fun G9 hG9 => ?_
    obtain ⟨_, rfl⟩ := hs8
    obtain ⟨hm, lf, gs, us, n', hf, hg, hul, hlt, rfl⟩ := hj8 <;> (refine hG9 ?_; clear hG9)
    have hf2 := Value.ref.inj (Option.some.inj (show some (Value.ref _) = some (Value.ref lf) from hf))
    have hf3 := hf2.symm
    subst hf3
    rw [map_eq4 hm] at F₁
    clear lF' lN' hm hf
    have hul3 : us.length ≤ 1000 := by rw [hW.length, List.length_take] at hul; omega
    k_steps
    (rename List Value => ws2); (rename IntsAre _ _ => hW2)
    have hl9 : ws2.length ≤ 90 := by rw [hW2.length, List.length_take]; omega
    dsimp only
    k_dflt (refine' kl_reverse (its := ws2.toArray) (l := ws2.reverse) ?F ?N ?e ?U ?z ?_)
    (case F => k_asm)
    (case N => k_asm)
    (case e => rfl)
    (case U => k_upd)
    (case z => show ws2.length ≤ _; rw [sizeLine_eq]; omega)
    intro h' F' N'
    k_steps
    (try k_unfold)
    (try dsimp only)
    refine' ⟨_, _, _, ?k1, ?k2, ?_⟩
    (case k1 => k_asm)
    (case k2 => k_asm)
    intro _ _ _
    (try dsimp only)
    (rename News _ _ _ _ => kN3); (rename Fr _ _ _ _ => kF3); (rename Disj _ _ => kD3)
    exact ret _ ws2.reverse _ _ _ _ kF3 (news_sub kN3 sub_head) (fun p hp => (kD3 (_, _) (.head _) p hp).symm) (hW2.reverse) (by rw [List.length_reverse]; exact hl9)

end
section

local macro_rules | `(tactic| walk_at "call ref") => `(tactic| (k_here; k_dflt (refine' Meets.useA (C := first_live_meets _ _ _ _ _ _ _ _ _ _ _ _ _ _ (by k_mem) (by k_mem) (by k_mem) (by with_reducible assumption) (by k_mem) (by k_mem) (by (first | assumption | (refine in_mono (by assumption) ?_; walk_at "m_sub"))) (by assumption) (by assumption) (by (first | assumption | (refine word_mono (by assumption) ?_; walk_at "m_sub"))) (by (first | assumption | (refine dat_mono (by assumption) ?_; walk_at "m_sub"))) (by assumption)) (ret := ?_)); k_whole; intro r9 tl9 h9 tk9 F9 N9 hp9; obtain ⟨⟨t9, e9⟩, e9'⟩ := hp9; subst e9; subst e9'; (try k_sweep); (try dsimp only); (try k_fold)))
local macro_rules | `(tactic| walk_at "call ref") => `(tactic| (k_here; k_dflt (refine' Meets.useA (C := next_live_meets _ _ _ _ _ _ _ _ _ _ _ _ _ _ (by k_mem) (by k_mem) (by k_mem) (by with_reducible assumption) (by k_mem) (by k_mem) (by with_reducible assumption) (by (first | assumption | (refine in_mono (by assumption) ?_; walk_at "m_sub"))) (by assumption) (by assumption) (by (first | assumption | (refine word_mono (by assumption) ?_; walk_at "m_sub"))) (by (first | assumption | (refine dat_mono (by assumption) ?_; walk_at "m_sub"))) (by assumption)) (ret := ?_)); k_whole; intro r9 tl9 h9 tk9 F9 N9 hp9; obtain ⟨⟨t9, e9⟩, e9'⟩ := hp9; subst e9; subst e9'; (try k_sweep); (try dsimp only); (try k_fold)))

/-- the keys that a call meets -/
noncomputable def matchK (g : Int) (cd : Dat) (c : List Rc) : List Int := (c.filter fun r => visB r g && matchB r.word cd).map (·.key)
theorem matchK_len (g : Int) (cd : Dat) (c : List Rc) : (matchK g cd c).length ≤ c.length := by
  unfold matchK; rw [List.length_map]; exact List.length_filter_le _ _
theorem liveF_split (g : Int) (cd : Dat) : ∀ c : List RecA, (liveF g cd (c.map (·.c)) = -1 ∧ matchK g cd (c.map (·.c)) = []) ∨
    ∃ pre r rs, c = pre ++ r :: rs ∧ liveF g cd (c.map (·.c)) = r.c.key ∧ matchK g cd (c.map (·.c)) = r.c.key :: matchK g cd (rs.map (·.c)) := by
  intro c
  induction c with
  | nil => exact .inl ⟨rfl, rfl⟩
  | cons r rs ih =>
    cases hv : visB r.c g && matchB r.c.word cd with
    | true =>
      refine .inr ⟨[], r, rs, rfl, ?_, ?_⟩
      · simp only [Bool.and_eq_true] at hv
        simp only [List.map_cons, liveF, hv, if_true]
      · simp only [matchK, List.map_cons, List.filter_cons, hv, if_true]
    | false =>
      have e1 : liveF g cd ((r :: rs).map (·.c)) = liveF g cd (rs.map (·.c)) := by
        simp only [Bool.and_eq_false_iff] at hv
        rcases hv with hv | hv
        · simp only [List.map_cons, liveF, hv, Bool.false_eq_true, if_false]
        · simp only [List.map_cons, liveF, hv, Bool.false_eq_true, if_false, ite_self]
      have e2 : matchK g cd ((r :: rs).map (·.c)) = matchK g cd (rs.map (·.c)) := by
        simp only [matchK, List.map_cons, List.filter_cons, hv, Bool.false_eq_true, if_false]
      rw [e1, e2]
      rcases ih with ih | ⟨pre, r', rs', e, h1, h2⟩
      · exact .inl ih
      · exact .inr ⟨r :: pre, r', rs', by rw [e]; rfl, h1, h2⟩
theorem led_meets (w : World) (led : List (Addr × Obj)) (S : StA) (nr gen : Int) (od : Obj) (kvs : List (Int × Value)) (P : PrA) (c : List RecA) (g lk : Int) (gt : Tok) (cell : Addr) (cd : Dat)
    (h1 : sObj S ∈ led) (h2 : sDict w.params S nr gen ∈ led) (h3 : (S.rd, od) ∈ led) (hod : od.IsDictOf (PySem.intKind PySem.Challenge.rw_rh0068_01.row.prog w) kvs)
    (p1 : pObj P ∈ led) (p2 : pDict w.params P (hk c) lk ∈ led)
    (hc : ∀ p ∈ chLed w.params c, p ∈ led) (hv : ∀ r ∈ c, valueAt kvs r.c.key = some (.ref r.a)) (hpos : ∀ r ∈ c, 0 ≤ r.c.key) (hw : ∀ r ∈ c, WordOk led r) (hcell : DatIn led (.ref cell) cd) (hcok : kqdOk 8 cd = true) (hlen : c.length ≤ 19) :
    Meets w 211 [.ref S.a, .ref P.a, .int g gt, .ref cell] 60 led (fun v tl => ∃ l its nn, v = .ref l ∧ tl = (l, listOf its.toArray nn) :: led ∧ IntsAre its (matchK g cd (c.map (·.c))) ∧ ∀ p ∈ led, p.1 < l) := by
  w_on
  unfold Meets
  k_fill
  intro dp un gd cn cs a ccd cl outer A₀ base h₀ L m rest s mean mg mb Q E B F X N D T hk9 hdp hun ret
  refine wpAny_call ?_
  k_dflt (refine' code_frame ?k1 ?k2 ?k3 ?k4 ?kD ?k5 ?kA ?kF ?kK ?k6 ?k7 ?k8 ?k9 ?kB ?_ ?c2 ?c3 ?c4 ?c5; (case kA => exact rfl); (case kF => exact rfl); (case kK => assumption); (case k1 => k_asm); (case k2 => k_asm); (case k3 => k_asm); (case k4 => k_asm); (case kD => k_asm); (case k5 => k_asm); (case k6 => k_is); (case k7 => k_is); (case k8 => ktr_room); (case k9 => exact BindsTo.of_eq rfl); (case c5 => decide); (case kB => exact locs rfl); (case c2 => exact rfl); (case c3 => exact rfl); (case c4 => exact rfl); k_whole)
  intro _ _ _ _ _ _ _ _ _ l1
  (try k_lt l1)
  (try dsimp only)
  (try k_fold)
  k_steps
  refine Halt.to ?_
  rename_i l _ hlt _ _ _ _ _ lF' lN'
  have hne : ∀ p ∈ led, p.1 ≠ l := fun p hp => Nat.ne_of_lt (hlt p hp)
  k_dflt (refine' while_d (fun (c' : List RecA) v led' => (∃ t, v = .int (liveF g cd (c'.map (·.c))) t) ∧ (∃ pre, c = pre ++ c') ∧
    ∃ its ks nn, led' = (l, listOf its.toArray nn) :: led ∧ IntsAre its ks ∧ ks ++ matchK g cd (c'.map (·.c)) = matchK g cd (c.map (·.c))) (y := Str.ofString "spot") (d₀ := c) [] List.length lF' lN' ?hy ?rel ?turn ?hE)
  case hy => rfl
  case rel => exact ⟨⟨_, rfl⟩, ⟨[], rfl⟩, [], [], _, rfl, .nil, rfl⟩
  case hE => first | passes_own | with_unfolding_all passes_own
  case turn =>
    rintro v' d' led' u' h' tk' ⟨⟨t', rfl⟩, ⟨pre, hpre⟩, its, ks, nn, rfl, hI, hits⟩ F' N'
    clear lF' lN'
    have hle := congrArg List.length hits
    rw [List.length_append] at hle
    have hle2 := matchK_len g cd (c.map (·.c))
    rw [List.length_map] at hle2
    have hz9 : its.length ≤ 1000 := by rw [hI.length]; omega
    have hz8 : its.toArray.size ≤ sizeLine := by rw [sizeLine_eq, List.size_toArray]; omega
    have hz7 : its.length < 20 := by rw [hI.length]; omega
    rcases liveF_split g cd d' with ⟨e1, e2⟩ | ⟨pre', r, rs, rfl, e1, e2⟩
    · rw [e1] at F'
      rw [e2, List.append_nil] at hits
      subst hits
      k_steps
      (try k_unfold)
      (try dsimp only)
      refine' ⟨_, _, _, ?k1, ?k2, ?_⟩
      (case k1 => k_asm)
      (case k2 => k_asm)
      intro _ _ _
      (try dsimp only)
      refine' ret _ _ _ _ ?g1 ?g2 ?g3 ?g4
      (case g1 => assumption)
      (case g2 => assumption)
      (case g3 => assumption)
      exact ⟨l, its, nn, rfl, rfl, hI, hlt⟩
    · rw [e1] at F'
      rw [e2] at hits
      have hrc : r ∈ c := by rw [hpre]; simp
      have hsub : ∀ x ∈ rs, x ∈ c := fun x hx => by rw [hpre]; simp [hx]
      have a1 : ∀ p ∈ chLed w.params (r :: rs), p ∈ led := fun p hp => hc p (by rw [hpre, ← List.append_assoc]; exact chLed_suffix _ _ p hp)
      have a2 : rObj r ∈ led := a1 _ (.head _)
      have a3 : rDict w.params r (hk rs) ∈ led := a1 _ (.tail _ (.head _))
      have a4 : ∀ p ∈ chLed w.params rs, p ∈ led := fun p hp => a1 p (.tail _ (.tail _ hp))
      have a5 : ∀ r ∈ rs, valueAt kvs r.c.key = some (.ref r.a) := fun x hx => hv x (hsub x hx)
      have a6 : ∀ r ∈ rs, 0 ≤ r.c.key := fun x hx => hpos x (hsub x hx)
      have a7 : ∀ r ∈ rs, WordOk led r := fun x hx => hw x (hsub x hx)
      have a8 := hv r hrc
      have a9 := hpos r hrc
      k_steps
      refine ⟨_, _, _, _, _, rs, rfl, by assumption, by assumption, by with_unfolding_all rfl, ⟨⟨_, rfl⟩, ⟨pre ++ (pre' ++ [r]), by rw [hpre]; simp⟩, its ++ [.int r.c.key _], ks ++ [r.c.key], nn + 1, by rw [List.push_toArray], ints_snoc hI _ _, ?_⟩, ?_, fun z z1 _ => by simp only [z1, if_false]; try rfl⟩
      · rw [← hits, List.append_assoc]; rfl
      · simp only [List.length_append, List.length_cons]; omega

end
section

local macro_rules | `(tactic| walk_at "call ref") => `(tactic| (k_here; k_dflt (refine' Meets.useA (C := chain_meets _ _ _ _ _ _ _ _ _ _ _ _ (by k_mem) (by k_mem) (by k_mem) (by with_reducible assumption) (by k_mem) (by k_mem) (by (first | assumption | (refine in_mono (by assumption) ?_; walk_at "m_sub"))) (by with_reducible assumption) (by with_reducible assumption) (by with_reducible assumption)) (ret := ?_)); k_whole; intro r9 tl9 h9 tk9 F9 N9 hp9; obtain ⟨l9, nn9, e9, e9', hne9⟩ := hp9; subst e9; subst e9'; (have hne8 := hne9); (try k_lt hne9); (try k_sweep); (try dsimp only); (try k_fold)))

noncomputable abbrev rowD (r : Rc) : Dat := .tuple [.int r.key, .int r.fn, r.term, r.word, .int r.entry, .int r.birth, .int r.death]
/-- what is shown of a chain -/
noncomputable def shownD (g : Int) (c : List Rc) : List Dat := (c.filter fun r => visB r g).map rowD
theorem refs_get (g : Int) (c : List RecA) : ∀ {i : Nat} {v : Value}, (refsV g c)[i]? = some v → ∃ r pre post, c = pre ++ r :: post ∧ v = .ref r.a ∧ (shownD g (c.map (·.c)))[i]? = some (rowD r.c) := by
  induction c with
  | nil => intro i v h; simp [refsV] at h
  | cons r rs ih =>
    intro i v h
    cases hv : visB r.c g with
    | false =>
      rw [refsV_neg hv] at h
      obtain ⟨r', pre, post, e, e1, e2⟩ := ih h
      refine ⟨r', r :: pre, post, by rw [e]; rfl, e1, ?_⟩
      rw [← e2]; simp only [shownD, List.map_cons, List.filter_cons, hv, Bool.false_eq_true, if_false]
    | true =>
      rw [refsV_pos hv] at h
      have e3 : shownD g ((r :: rs).map (·.c)) = rowD r.c :: shownD g (rs.map (·.c)) := by simp only [shownD, List.map_cons, List.filter_cons, hv, if_true]
      rw [e3]
      cases i with
      | zero => exact ⟨r, [], rs, rfl, by simpa using h.symm, by simp⟩
      | succ i =>
        obtain ⟨r', pre, post, e, e1, e2⟩ := ih (i := i) (by simpa using h)
        exact ⟨r', r :: pre, post, by rw [e]; rfl, e1, by simpa using e2⟩
theorem refs_shown_len (g : Int) (c : List RecA) : (refsV g c).length = (shownD g (c.map (·.c))).length := by
  induction c with
  | nil => rfl
  | cons r rs ih =>
    cases hv : visB r.c g with
    | false => rw [refsV_neg hv, ih]; simp only [shownD, List.map_cons, List.filter_cons, hv, Bool.false_eq_true, if_false]
    | true => rw [refsV_pos hv, List.length_cons, ih]; simp only [shownD, List.map_cons, List.filter_cons, hv, if_true, List.length_cons]
theorem chLed_mid (P : Params) {r : RecA} {post : List RecA} (pre : List RecA) : rObj r ∈ chLed P (pre ++ r :: post) ∧ rDict P r (hk post) ∈ chLed P (pre ++ r :: post) :=
  ⟨chLed_suffix P pre _ (.head _), chLed_suffix P pre _ (.tail _ (.head _))⟩

theorem sub_shown {α : Type} {a b d : α} {E own TL : List α} (b4 : ∀ p ∈ E, p ∈ TL) (b5 : ∀ p ∈ own, p ∈ TL) : ∀ p ∈ (a :: b :: (d :: E)) ++ own, p ∈ d :: a :: b :: TL := by
  intro p hp
  have h4 := b4 p
  have h5 := b5 p
  simp only [List.cons_append, List.mem_cons, List.mem_append] at hp ⊢
  grind
theorem disj_shown {a a' b d : Addr × Obj} {E own : List (Addr × Obj)} (e : a'.1 = a.1) (D : Disj (a :: b :: E) own) (h : ∀ q ∈ own, q.1 < d.1) : Disj (a' :: b :: (d :: E)) own := by
  intro p hp q hq
  rcases List.mem_cons.mp hp with rfl | hp
  · rw [e]; exact D a (.head _) q hq
  rcases List.mem_cons.mp hp with rfl | hp
  · exact D p (.tail _ (.head _)) q hq
  rcases List.mem_cons.mp hp with rfl | hp
  · exact Nat.ne_of_gt (h q hq)
  · exact D p (.tail _ (.tail _ hp)) q hq
theorem sub_skip {α : Type} {a b : α} {E r : List α} : ∀ p ∈ (a :: E) ++ r, p ∈ (a :: b :: E) ++ r := by
  intro p hp
  simp only [List.cons_append, List.mem_cons, List.mem_append] at hp ⊢
  grind

theorem shown_meets (w : World) (led : List (Addr × Obj)) (S : StA) (nr gen : Int) (od : Obj) (kvs : List (Int × Value)) (P : PrA) (c : List RecA) (g lk : Int) (gt : Tok)
    (h1 : sObj S ∈ led) (h2 : sDict w.params S nr gen ∈ led) (h3 : (S.rd, od) ∈ led) (hod : od.IsDictOf (PySem.intKind PySem.Challenge.rw_rh0068_01.row.prog w) kvs)
    (p1 : pObj P ∈ led) (p2 : pDict w.params P (hk c) lk ∈ led)
    (hc : ∀ p ∈ chLed w.params c, p ∈ led) (hv : ∀ r ∈ c, valueAt kvs r.c.key = some (.ref r.a)) (hpos : ∀ r ∈ c, 0 ≤ r.c.key) (hlen : c.length ≤ 1000) (ht : ∀ r ∈ c, TermOk led r) :
    Meets w 204 [.ref S.a, .ref P.a, .int g gt] 60 led (fun v tl => ∃ l its nn ex, v = .ref l ∧ tl = (l, listOf its.toArray nn) :: (ex ++ led) ∧ DatAll (ex ++ led) its (shownD g (c.map (·.c))) ∧ ∀ p ∈ ex ++ led, p.1 ≠ l) := by
  w_on
  unfold Meets
  k_fill
  intro dp un gd cn cs a ccd cl outer A₀ base h₀ L m rest s mean mg mb Q E B F X N D T hk9 hdp hun ret
  refine wpAny_call ?_
  k_dflt (refine' code_frame ?k1 ?k2 ?k3 ?k4 ?kD ?k5 ?kA ?kF ?kK ?k6 ?k7 ?k8 ?k9 ?kB ?_ ?c2 ?c3 ?c4 ?c5; (case kA => exact rfl); (case kF => exact rfl); (case kK => assumption); (case k1 => k_asm); (case k2 => k_asm); (case k3 => k_asm); (case k4 => k_asm); (case kD => k_asm); (case k5 => k_asm); (case k6 => k_is); (case k7 => k_is); (case k8 => ktr_room); (case k9 => exact BindsTo.of_eq rfl); (case c5 => decide); (case kB => exact locs rfl); (case c2 => exact rfl); (case c3 => exact rfl); (case c4 => exact rfl); k_whole)
  intro _ _ _ _ _ _ _ _ _ l1
  (try k_lt l1)
  (try dsimp only)
  (try k_fold)
  k_steps
  refine Halt.to ?_
  rename_i lr _ hlr _ _ _ lF' lq nq lN' hq8 hq9
  k_dflt (refine' for_list (vs := refsV g c) (fun _ l nn m₀ i m₁ led₁ => (∀ y, y ≠ Str.ofString "record" → m₁ y = m₀ y) ∧
    ∃ its nr ex, led₁ = (lr, listOf its.toArray nr) :: ((l, listOf (refsV g c).toArray nn) :: (ex ++ led)) ∧ DatAll (ex ++ led) its ((shownD g (c.map (·.c))).take i) ∧ ∀ p ∈ ex ++ led, p.1 ≠ lr) rfl lF' (news_sub lN' (l' := (lr, listOf #[] 0) :: (lq, listOf (refsV g c).toArray nq) :: led) (fun p hp => by simp only [List.mem_cons] at hp ⊢; grind)) (mem_tail mem_here) ?hj ?hJ ?turn ?done)
  case hj => exact ⟨fun _ _ => rfl, [], _, [], rfl, by rw [List.take_zero]; exact .nil, fun p hp => Nat.ne_of_lt (hlr p hp)⟩
  case hJ => rintro _ _ _ ⟨_, _, _, _, rfl, _⟩; exact mem_tail mem_here
  case turn =>
    intro s₂ i v m₁ led₁ h tk own hs8 hx hj8 hD F₁ N₁
    refine hidePost fun Q9 hQ9 => ?_
    obtain ⟨_, rfl⟩ := hs8
    refine hideG fun G9 hG9 => ?_
    obtain ⟨hm, its, nr, ex, rfl, hdat, hnr⟩ := hj8 <;> (refine hG9 ?_; clear hG9)
    rw [map_eq hm] at F₁
    clear lF' lN' hm
    obtain ⟨r, pr, po, hcs, rfl, hsh⟩ := refs_get g c hx
    have hrc : r ∈ c := by rw [hcs]; simp
    obtain ⟨m1, m2⟩ := chLed_mid w.params (r := r) (post := po) pr
    rw [← hcs] at m1 m2
    obtain ⟨d1, d2, d3, d4⟩ := ht r hrc
    have hil : its.length ≤ 1000 := by
      rw [hdat.length, List.length_take]
      have := refsV_len g c
      rw [refs_shown_len] at this
      omega
    have hsz : its.toArray.size ≤ sizeLine := by rw [sizeLine_eq, List.size_toArray]; omega
    have b1 : rObj r ∈ ex ++ led ++ own := List.mem_append_left _ (List.mem_append_right _ (hc _ m1))
    have b2 : rDict w.params r (hk po) ∈ ex ++ led ++ own := List.mem_append_left _ (List.mem_append_right _ (hc _ m2))
    have b3 : ∀ p ∈ ex ++ led ++ own, p.1 ≠ lr := fun p hp => (List.mem_append.mp hp).elim (hnr p) fun hp => (hD (lr, _) (.head _) p hp).symm
    have b4 : ∀ p ∈ ex ++ led, p ∈ ex ++ led ++ own := fun p hp => List.mem_append_left _ hp
    have b5 : ∀ p ∈ own, p ∈ ex ++ led ++ own := fun p hp => List.mem_append_right _ hp
    have b6 := ltN hq9.1
    simp only [List.cons_append] at N₁
    generalize ex ++ led ++ own = TL at N₁ b1 b2 b3 b4 b5
    k_steps
    rename_i D9 _ l19 _ kF3 kN3
    rw [List.push_toArray] at kN3
    have hlt9 := allLt_lt l19.2.2
    refine hQ9 _ _ ?_
    refine FdPost.intro (led' := (lr, listOf (its ++ [Value.ref D9]).toArray (nr + 1)) :: ((lq, listOf (refsV g c).toArray nq) :: ((_ :: ex) ++ led))) kF3 (news_sub kN3 (sub_shown b4 b5)) (disj_shown (a := (lr, listOf its.toArray nr)) rfl hD fun q hq => hlt9 q (b5 q hq)) ⟨fun y y1 => by simp only [y1, if_false], its ++ [Value.ref D9], nr + 1, _ :: ex, rfl, ?_, ?_⟩
    · rw [List.take_add_one, hsh, Option.toList_some]
      refine DatAll.append (hdat.mono fun p hp => .tail _ hp) (DatAll.one (.tuple (n := 0) (vs := [_, _, _, _, _, _, _]) (.head _) (.cons (.int _ _) (.cons (.int _ _) (.cons (d1.mono fun p hp => .tail _ (List.mem_append_right _ hp)) (.cons (d3.mono fun p hp => .tail _ (List.mem_append_right _ hp)) (.cons (.int _ _) (.cons (.int _ _) (.cons (.int _ _) .nil)))))))))
    · intro p hp
      rcases List.mem_cons.mp hp with rfl | hp
      · exact Nat.ne_of_gt l19.1
      · exact hnr p hp
  case done =>
    intro s₂ m₁ led₁ h tk hs8 hj8 F₁ N₁
    refine hideG fun G9 hG9 => ?_
    obtain ⟨_, rfl⟩ := hs8
    obtain ⟨hm, its, nr, ex, rfl, hdat, hnr⟩ := hj8 <;> (refine hG9 ?_; clear hG9)
    rw [refs_shown_len, List.take_length] at hdat
    rw [map_eq4 (stored := []) (fun y h _ => hm y h)] at F₁
    clear lF' lN' hm
    k_steps
    (try k_unfold)
    (try dsimp only)
    refine' ⟨_, _, _, ?k1, ?k2, ?_⟩
    (case k1 => k_asm)
    (case k2 => k_asm)
    intro _ _ _
    (try dsimp only)
    rename_i kF3 kN3 kD3
    exact ret _ ((lr, listOf its.toArray nr) :: (ex ++ led)) _ _ kF3 (news_sub kN3 sub_skip) (kD3.left fun p hp => (List.mem_cons.mp hp).elim (fun e => e ▸ .head _) fun hp => .tail _ (.tail _ hp)) ⟨lr, its, nr, ex, rfl, rfl, hdat, hnr⟩

end
section

local macro_rules | `(tactic| walk_at "call ref") => `(tactic| (k_here; k_dflt (refine' Meets.useA (C := shown_meets _ _ _ _ _ _ _ _ _ _ _ _ (by k_mem) (by k_mem) (by k_mem) (by with_reducible assumption) (by k_mem) (by k_mem) (by (first | assumption | (refine in_mono (by assumption) ?_; walk_at "m_sub"))) (by with_reducible assumption) (by with_reducible assumption) (by with_reducible assumption) (by (first | assumption | (refine term_mono (by assumption) ?_; walk_at "m_sub")))) (ret := ?_)); k_whole; intro r9 tl9 h9 tk9 F9 N9 hp9; obtain ⟨l9, its9, nn9, ex9, e9, e9', hda9, hnl9⟩ := hp9; subst e9; subst e9'; (try k_sweep); (try dsimp only); (try k_fold)))
local macro_rules | `(tactic| walk_at "call ref") => `(tactic| (k_here; k_dflt (refine' Meets.useA (C := led_meets _ _ _ _ _ _ _ _ _ _ _ _ _ _ (by k_mem) (by k_mem) (by k_mem) (by with_reducible assumption) (by k_mem) (by k_mem) (by (first | assumption | (refine in_mono (by assumption) ?_; walk_at "m_sub"))) (by with_reducible assumption) (by with_reducible assumption) (by (first | assumption | (refine word_mono (by assumption) ?_; walk_at "m_sub"))) (by (first | assumption | (refine dat_mono (by assumption) ?_; walk_at "m_sub"))) (by with_reducible assumption) (by with_reducible assumption)) (ret := ?_)); k_whole; intro r9 tl9 h9 tk9 F9 N9 hp9; obtain ⟨l9, its9, nn9, e9, e9', hint9, hnl9⟩ := hp9; subst e9; subst e9'; (try k_sweep); (try dsimp only); (try k_fold)))

theorem shown_ok {led : List (Addr × Obj)} {c : List RecA} (g : Int) (h : ∀ r ∈ c, TermOk led r) : ∀ d ∈ shownD g (c.map (·.c)), kqdOk 8 d = true := by
  intro d hd
  obtain ⟨r, hr, rfl⟩ := List.mem_map.mp hd
  obtain ⟨a, ha, rfl⟩ := List.mem_map.mp (List.mem_filter.mp hr).1
  obtain ⟨_, h2, _, h4⟩ := h a ha
  simp only [rowD, kqdOk, List.all_cons, List.all_nil, h2, h4, Bool.and_self, Bool.and_true]
section
variable {prog : Program} {w : World} {A : Around} {E : Value → Shared → Prop} {s : Shared} {h₀ : Heap} {L a b : Addr} {news n₁ n₂ : List (Addr × Obj)} {xs ys : List Value} {ka kb : Nat} {ds : List Dat} {Q : Value → Shared → Prop}
theorem ne_shown (N : News h₀ L s.heap news) (ma : (a, listOf xs.toArray ka) ∈ news) (mb : (b, listOf ys.toArray kb) ∈ news) {es : List Dat} (Da : DatAll n₁ xs ds) (Db : DatAll n₂ ys es) (sa : ∀ p ∈ n₁, p ∈ news) (sb : ∀ p ∈ n₂, p ∈ news)
    (he : ds = es) (ha : ∀ d ∈ ds, kqdOk 8 d = true) (hu : A.units + 64 < cLine) (h : Q (.bool false) s) : wpAny (model prog w) A (compareOp .NotEq (.ref a) (.ref b)) Q E s := by
  subst he
  refine kqd_ne N ma rfl rfl Da sa mb rfl rfl Db sb ha ha hu ?_
  simpa using h
theorem ne_led {ns ms : List Int} (N : News h₀ L s.heap news) (ma : (a, listOf xs.toArray ka) ∈ news) (mb : (b, listOf ys.toArray kb) ∈ news) (hi : IntsAre xs ns) (hj : IntsAre ys ms) (he : ns = ms) (hu : A.units + 64 < cLine)
    (h : Q (.bool false) s) : wpAny (model prog w) A (compareOp .NotEq (.ref a) (.ref b)) Q E s := by
  subst he
  refine ke_ne_ints ⟨_, (N _ ma).1, rfl, ka, rfl⟩ ⟨_, (N _ mb).1, rfl, kb, rfl⟩ hi hj hu ?_
  simpa using h
end

section
local macro_rules | `(tactic| walk_at "compareOp NotEq ref ref") => `(tactic| (refine Halt.of ?_))
theorem alike_meets (w : World) (led : List (Addr × Obj)) (S F : StA) (nr gen nr' gen' : Int) (od od' : Obj) (kvs kvs' : List (Int × Value)) (pd pd' : Addr) (po po' : Obj) (P4 P9 R4 R9 : PrA) (c4 c9 d4 d9 : List RecA) (l4 l9 m4 m9 : Int) (g : Int) (gt : Tok) (cell : Addr) (cd : Dat)
    (I : StIn w led S nr gen od kvs pd po P4 P9 c4 c9 l4 l9) (J : StIn w led F nr' gen' od' kvs' pd' po' R4 R9 d4 d9 m4 m9) (hcell : DatIn led (.ref cell) cd) (hcok : kqdOk 8 cd = true)
    (e4 : shownD g (c4.map (·.c)) = shownD g (d4.map (·.c))) (e9 : shownD g (c9.map (·.c)) = shownD g (d9.map (·.c)))
    (f4 : matchK g cd (c4.map (·.c)) = matchK g cd (d4.map (·.c))) (f9 : matchK g cd (c9.map (·.c)) = matchK g cd (d9.map (·.c))) :
    Meets w 218 [.ref S.a, .ref F.a, .ref pd, .ref pd', .int g gt, .ref cell] 100 led (fun v tl => v = .bool true ∧ tl = led) := by
  w_on
  unfold Meets
  k_fill
  intro dp un gd cn cs a ccd cl outer A₀ base h₀ L m rest s mean mg mb Q E B F₀ X N D T hk9 hdp hun ret
  refine wpAny_call ?_
  k_dflt (refine' code_frame ?k1 ?k2 ?k3 ?k4 ?kD ?k5 ?kA ?kF ?kK ?k6 ?k7 ?k8 ?k9 ?kB ?_ ?c2 ?c3 ?c4 ?c5; (case kA => exact rfl); (case kF => exact rfl); (case kK => assumption); (case k1 => k_asm); (case k2 => k_asm); (case k3 => k_asm); (case k4 => k_asm); (case kD => k_asm); (case k5 => k_asm); (case k6 => k_is); (case k7 => k_is); (case k8 => ktr_room); (case k9 => exact BindsTo.of_eq rfl); (case c5 => decide); (case kB => exact locs rfl); (case c2 => exact rfl); (case c3 => exact rfl); (case c4 => exact rfl); k_whole)
  intro _ _ _ _ _ _ _ _ _ l1
  (try k_lt l1)
  (try dsimp only)
  (try k_fold)
  k_steps
  refine Halt.to ?_
  rename_i lq _ lF' lN' hlq
  obtain ⟨ta, tb, lN2⟩ : ∃ ta tb, News _ _ _ ((lq, listOf [Value.int 4 ta, Value.int 9 tb].toArray 0) :: led) := ⟨_, _, lN'⟩
  clear lN'
  k_dflt (refine' for_list (fun vs l nn m₀ i m₁ led₁ => (∀ y, y ≠ Str.ofString "who" → m₁ y = m₀ y) ∧ led₁ = (l, listOf vs.toArray nn) :: led) rfl lF' lN2 mem_here ?hj ?hJ ?turn ?done)
  case hj => exact ⟨fun _ _ => rfl, rfl⟩
  case hJ => rintro _ _ _ ⟨_, rfl⟩; exact mem_here
  case turn =>
    rintro s₂ i v m₁ led₁ h tk own ⟨_, rfl⟩ hx ⟨hm, rfl⟩ hD F₁ N₁
    rw [map_eq hm] at F₁
    clear lF' lN2 hm
    obtain ⟨TL, hs0, N₂⟩ : ∃ TL, (∀ p ∈ (lq, listOf [Value.int 4 ta, Value.int 9 tb].toArray 0) :: led ++ own, p ∈ TL) ∧ News _ _ _ TL := ⟨_, fun _ h => h, N₁⟩
    clear N₁
    have hs : ∀ p ∈ led, p ∈ TL := fun p hp => hs0 p (List.mem_append_left _ (mem_tail hp))
    have hcell' := dat_mono hcell hs
    obtain ⟨h1, h2, h3, hod, g1, g2, p4, q4, p9, q9, i4, i9, v4, v9, k4, k9, n4, n9, t4, t9⟩ := I.mono hs
    obtain ⟨h1', h2', h3', hod', g1', g2', p4', q4', p9', q9', i4', i9', v4', v9', k4', k9', n4', n9', t4', t9'⟩ := J.mono hs
    have w4 := word_of_term t4
    have w9 := word_of_term t9
    have w4' := word_of_term t4'
    have w9' := word_of_term t9'
    have o4 := shown_ok g t4
    have o9 := shown_ok g t9
    have z1 : c4.length ≤ 1000 := by omega
    have z2 : c9.length ≤ 1000 := by omega
    have z3 : d4.length ≤ 1000 := by omega
    have z4 : d9.length ≤ 1000 := by omega
    have y1 : valueAt [((4 : Int), Value.ref P4.a), (9, .ref P9.a)] 4 = some (.ref P4.a) := rfl
    have y2 : valueAt [((4 : Int), Value.ref P4.a), (9, .ref P9.a)] 9 = some (.ref P9.a) := rfl
    have y3 : valueAt [((4 : Int), Value.ref R4.a), (9, .ref R9.a)] 4 = some (.ref R4.a) := rfl
    have y4 : valueAt [((4 : Int), Value.ref R4.a), (9, .ref R9.a)] 9 = some (.ref R9.a) := rfl
    clear hcell
    match i, hx with
    | 0, hx =>
      have hx2 := Option.some.inj hx
      subst hx2
      k_steps
      refine Halt.to ?_
      rename_i la ia na xa da fa _ _ kF lb ib nb xb db fb kN
      k_dflt (refine' ne_shown kN ?ma ?mb da db ?s1 ?s2 e4 o4 ?u ?_)
      (case ma => exact mem_tail (List.mem_append_right _ mem_here))
      (case mb => exact mem_here)
      (case s1 => exact fun p hp => mem_tail (List.mem_append_right _ (mem_tail hp)))
      (case s2 => exact fun p hp => mem_tail hp)
      (case u => ktr_units)
      replace kN := news_sub kN (l' := TL) (fun p hp => mem_tail (List.mem_append_right _ (mem_tail (List.mem_append_right _ hp))))
      clear da db fa fb
      k_steps
      refine Halt.to ?_
      rename_i la ia na da fa _ _ kF2 lb ib nb db fb kN2
      k_dflt (refine' ne_led kN2 ?mc ?md da db f4 ?u2 ?_)
      (case mc => exact mem_tail mem_here)
      (case md => exact mem_here)
      (case u2 => ktr_units)
      replace kN2 := news_sub kN2 (l' := TL) (fun p hp => mem_tail (mem_tail hp))
      clear da db fa fb
      k_steps
      refine FdPost.intro (by assumption) (news_sub (by assumption) hs0) hD ⟨fun y y1 => by simp only [y1, if_false], rfl⟩
    | 1, hx =>
      have hx2 := Option.some.inj hx
      subst hx2
      k_steps
      refine Halt.to ?_
      rename_i la ia na xa da fa _ _ kF lb ib nb xb db fb kN
      k_dflt (refine' ne_shown kN ?xa ?xb da db ?x1 ?x2 e9 o9 ?xu ?_)
      (case xa => exact mem_tail (List.mem_append_right _ mem_here))
      (case xb => exact mem_here)
      (case x1 => exact fun p hp => mem_tail (List.mem_append_right _ (mem_tail hp)))
      (case x2 => exact fun p hp => mem_tail hp)
      (case xu => ktr_units)
      replace kN := news_sub kN (l' := TL) (fun p hp => mem_tail (List.mem_append_right _ (mem_tail (List.mem_append_right _ hp))))
      clear da db fa fb
      k_steps
      refine Halt.to ?_
      rename_i la ia na da fa _ _ kF2 lb ib nb db fb kN2
      k_dflt (refine' ne_led kN2 ?xc ?xd da db f9 ?xu2 ?_)
      (case xc => exact mem_tail mem_here)
      (case xd => exact mem_here)
      (case xu2 => ktr_units)
      replace kN2 := news_sub kN2 (l' := TL) (fun p hp => mem_tail (mem_tail hp))
      clear da db fa fb
      k_steps
      refine FdPost.intro (by assumption) (news_sub (by assumption) hs0) hD ⟨fun y y1 => by simp only [y1, if_false], rfl⟩
    | i + 2, hx => simp at hx
  case done =>
    rintro s₂ m₁ led₁ h tk ⟨_, rfl⟩ ⟨hm, rfl⟩ F₁ N₁
    rw [map_eq4 (stored := []) (fun y h _ => hm y h)] at F₁
    clear lF' lN2 hm
    k_steps
    (try k_unfold)
    (try dsimp only)
    refine' ⟨_, _, _, ?k1, ?k2, ?_⟩
    (case k1 => k_asm)
    (case k2 => k_asm)
    intro _ _ _
    (try dsimp only)
    rename_i kF3 kN3 kD3
    exact ret _ led _ _ kF3 (news_sub kN3 (fun _ hp => mem_tail hp)) (kD3.left fun p hp => mem_tail hp) ⟨rfl, rfl⟩
end

end
section

/-- the last key of a chain -/
noncomputable def lastK (c : List RecA) : Int := (c.getLast?.map (·.c.key)).getD (-1)
theorem lastK_nil : lastK [] = -1 := rfl
theorem lastK_snoc (c : List RecA) (r : RecA) : lastK (c ++ [r]) = r.c.key := by simp [lastK]

theorem hk_snoc (P : RecA) (c : List RecA) (z z' : RecA) (h : z'.c.key = z.c.key) : hk (c ++ [z']) = hk (c ++ [z]) := by
  cases c with
  | nil => exact h
  | cons r rs => rfl
/-- a chain with its last record apart -/
theorem chLed_snoc (P : Params) (z : RecA) : ∀ c : List RecA, ∃ X, (∀ z', z'.c.key = z.c.key → chLed P (c ++ [z']) = X ++ [rObj z', rDict P z' (-1)]) ∧
    (∀ z' r, z'.c.key = z.c.key → chLed P (c ++ [z', r]) = X ++ [rObj z', rDict P z' r.c.key, rObj r, rDict P r (-1)]) := by
  intro c
  induction c with
  | nil => exact ⟨[], fun _ _ => rfl, fun _ _ _ => rfl⟩
  | cons r rs ih =>
    obtain ⟨X, h1, h2⟩ := ih
    refine ⟨rObj r :: rDict P r (hk (rs ++ [z])) :: X, fun z' hz => ?_, fun z' r' hz => ?_⟩
    · show rObj r :: rDict P r (hk (rs ++ [z'])) :: chLed P (rs ++ [z']) = _
      rw [h1 z' hz, hk_snoc r rs z z' hz]; rfl
    · show rObj r :: rDict P r (hk (rs ++ [z', r'])) :: chLed P (rs ++ [z', r']) = _
      rw [h2 z' r' hz]
      have : hk (rs ++ [z', r']) = hk (rs ++ [z]) := by
        cases rs with
        | nil => exact hz
        | cons a b => rfl
      rw [this]; rfl

/-- the living of a chain, each with the next key that it bears -/
noncomputable def tagL (g : Int) : List RecA → List (RecA × Int)
  | [] => []
  | r :: rs => if visB r.c g = true then (r, hk rs) :: tagL g rs else tagL g rs
noncomputable def looseLed (P : Params) : List (RecA × Int) → List (Addr × Obj)
  | [] => []
  | x :: xs => rObj x.1 :: rDict P x.1 x.2 :: looseLed P xs
theorem tagL_refs (g : Int) : ∀ c : List RecA, refsV g c = (tagL g c).map fun x => Value.ref x.1.a := by
  intro c
  induction c with
  | nil => rfl
  | cons r rs ih =>
    cases h : visB r.c g with
    | false => rw [refsV_neg h, ih]; simp only [tagL, h, Bool.false_eq_true, if_false]
    | true => rw [refsV_pos h, ih]; simp only [tagL, h, if_true, List.map_cons]
theorem tagL_c (g : Int) : ∀ c : List RecA, (tagL g c).map (·.1.c) = (c.map (·.c)).filter fun r => visB r g := by
  intro c
  induction c with
  | nil => rfl
  | cons r rs ih =>
    cases h : visB r.c g with
    | false => simp only [tagL, h, Bool.false_eq_true, if_false, List.map_cons, List.filter_cons, ih]
    | true => simp only [tagL, h, if_true, List.map_cons, List.filter_cons, ih]
theorem loose_sub (P : Params) (g : Int) : ∀ c : List RecA, (looseLed P (tagL g c)).Sublist (chLed P c) := by
  intro c
  induction c with
  | nil => exact .slnil
  | cons r rs ih =>
    cases h : visB r.c g with
    | false => simp only [tagL, h, Bool.false_eq_true, if_false, chLed]; exact .cons _ (.cons _ ih)
    | true => simp only [tagL, h, if_true, chLed, looseLed]; exact .cons₂ _ (.cons₂ _ ih)
theorem tagL_mem (g : Int) : ∀ c : List RecA, ∀ x ∈ tagL g c, x.1 ∈ c ∧ visB x.1.c g = true := by
  intro c
  induction c with
  | nil => intro x hx; simp [tagL] at hx
  | cons r rs ih =>
    intro x hx
    cases h : visB r.c g with
    | false =>
      simp only [tagL, h, Bool.false_eq_true, if_false] at hx
      exact ⟨.tail _ (ih x hx).1, (ih x hx).2⟩
    | true =>
      simp only [tagL, h, if_true, List.mem_cons] at hx
      rcases hx with rfl | hx
      · exact ⟨.head _, h⟩
      · exact ⟨.tail _ (ih x hx).1, (ih x hx).2⟩
theorem ndA_sub {a b : List (Addr × Obj)} (h : a.Sublist b) (n : NdA b) : NdA a := by
  unfold NdA at *
  exact List.Nodup.sublist (h.map _) n
theorem looseLed_append (P : Params) (a b : List (RecA × Int)) : looseLed P (a ++ b) = looseLed P a ++ looseLed P b := by
  induction a with
  | nil => rfl
  | cons x xs ih => simp only [List.cons_append, looseLed, ih]

section
variable {prog : Program} {w : World} {A : Around} {E : Value → Shared → Prop} {Q : Flow → Shared → Prop} {s : Shared} {env : Env} {h₀ : Heap} {L : Addr}
theorem for_dict {x : Str} {body : List Stmt} {d : Addr} {od : Obj} {kvs : List (Int × Value)} {m₀ : Str → Option Value} {led : List (Addr × Obj)} (J : (Str → Option Value) → Nat → (Str → Option Value) → List (Addr × Obj) → Prop)
    (hh : A.handled = none) (F : Fr h₀ env.locals s.heap m₀) (N : News h₀ env.locals s.heap led) (hl : (d, od) ∈ led) (hd : od.IsDictOf (PySem.intKind prog w) kvs) (lo : (d == sysModules) = false) (hj : J m₀ 0 m₀ led) (hJ : ∀ i m led, J m₀ i m led → (d, od) ∈ led)
    (turn : ∀ s₂ i k u t m₁ led₁ h tk own, (∃ h, s₂ = { s with heap := h }) → kvs[i]? = some (k, u) → J m₀ i m₁ led₁ → Disj led₁ own → Fr h₀ env.locals h (fun y => if y = x then some (.int k t) else m₁ y) → News h₀ env.locals h (led₁ ++ own) →
      wpAny (model prog w) A (execs body env) (FdPost h₀ env.locals s₂ (J m₀ (i + 1)) own Q) E { s₂ with heap := h, toks := tk })
    (done : ∀ s₂ m₁ led₁ h tk, (∃ h, s₂ = { s with heap := h }) → J m₀ kvs.length m₁ led₁ → Fr h₀ env.locals h m₁ → News h₀ env.locals h led₁ → Q .next { s₂ with heap := h, toks := tk }) :
    wpAny (model prog w) A (pyIter (.ref d)) (fun it s₂ => LoopAtV prog w A h₀ env x body Q E it s₂) E s := by
  obtain ⟨ep, hat⟩ := (kda_dict N hl hd).dictAt
  have hlL : d ≠ env.locals := (N _ hl).2.1
  have hne : d ≠ s.heap.objs.size := Nat.ne_of_lt hat.lt_size
  refine wpAny_pyIter_dict lo hat ?_
  have W := Walks.dictKeys (knd := PySem.intKind prog w) hh s.heap.objs.size d hne kvs ep
  refine for_core (J m₀) (held := [(d, od)]) W (next_is_new F) (fun e => absurd F.ns.lt (e ▸ Nat.lt_irrefl _)) (fun p hp e => absurd (Heap.lt_size (N p hp).1) (e ▸ Nat.lt_irrefl _)) ?_ ?_ ?_ ?_ (F.push _) (fun p hp => ⟨Heap.get?_push_of_some _ (N p hp).1, (N p hp).2⟩) hj ?_ ?_ ?_
  · intro b hb
    rw [List.mem_singleton.mp hb]; exact hlL
  · intro b hb
    rw [List.mem_singleton.mp hb]; exact ⟨_, .head _⟩
  · exact ⟨⟨_, Heap.get?_push_size _ rfl, rfl, rfl⟩, hat.push _⟩
  · rintro i h ⟨⟨o, ho, _⟩, _⟩
    exact ⟨o, ho⟩
  · intro i m l' h p hp
    rw [List.mem_singleton.mp hp]; exact hJ i m l' h
  · rintro i v m₁ led₁ h tk own _ ⟨k, u, hx, hk⟩ hJ' D F₁ N₁
    have hv : ∃ t, v = .int k t := Value.isInt_shape hk
    obtain ⟨t, rfl⟩ := hv
    exact turn _ i k u t m₁ led₁ h tk own ⟨_, rfl⟩ hx hJ' D F₁ N₁
  · intro m₁ led₁ h tk
    exact done _ m₁ led₁ h tk ⟨_, rfl⟩
end

theorem valueAt_mem {prog : Program} {w : World} {knd : KeyKind prog w Int} {o : Obj} {kvs : List (Int × Value)} {k : Int} {v : Value} (hd : o.IsDictOf knd kvs) (hm : (k, v) ∈ kvs) : valueAt kvs k = some v := by
  obtain ⟨_, _, _, _, _, _, hn⟩ := hd
  obtain ⟨i, hi, e⟩ := List.mem_iff_getElem.mp hm
  exact valueAt_of_get hn (List.getElem?_eq_some_iff.mpr ⟨hi, e⟩)
theorem valueAt_none {kvs : List (Int × Value)} {k : Int} (h : ∀ p ∈ kvs, p.1 ≠ k) : valueAt kvs k = none := by
  unfold valueAt
  rw [List.find?_eq_none.mpr (fun p hp => by simpa using h p hp)]
  rfl
theorem chLed_snoc_addr (P : Params) (r : RecA) : ∀ c : List RecA, (chLed P (c ++ [r])).map (·.1) = (chLed P c).map (·.1) ++ [r.a, r.d] := by
  intro c
  induction c with
  | nil => rfl
  | cons x xs ih => simp only [List.cons_append, chLed, List.map_cons, ih]

end
section
local macro_rules | `(tactic| walk_at "m_pad") => `(tactic| skip)

theorem snoc_cases {α : Type} (l : List α) : l = [] ∨ ∃ l' b, l = l' ++ [b] := by
  rcases List.eq_nil_or_concat l with h | ⟨l', b, h⟩
  · exact .inl h
  · exact .inr ⟨l', b, by rw [h, List.concat_eq_append]⟩
theorem ndA_cons {x : Addr × Obj} {l : List (Addr × Obj)} (h : ∀ p ∈ l, p.1 ≠ x.1) (n : NdA l) : NdA (x :: l) := by
  unfold NdA at *
  rw [List.map_cons, List.nodup_cons]
  refine ⟨fun q => ?_, n⟩
  obtain ⟨p, hp, e⟩ := List.mem_map.mp q
  exact h p hp e
theorem sub_split {led A B own own2 led2 : List (Addr × Obj)} (hp : led.Perm (A ++ B)) (n : NdA led) (d : Disj led own) (d2 : Disj led2 own2) (h2 : ∀ p ∈ A, p ∈ led2) : NdA A ∧ ∀ a ∈ A, ∀ p ∈ B ++ own ++ own2, p.1 ≠ a.1 := by
  obtain ⟨n1, _, n3⟩ := ndA_append (ndA_perm hp n)
  refine ⟨n1, fun a ha p hq => ?_⟩
  rcases List.mem_append.mp hq with hq | hq
  · rcases List.mem_append.mp hq with hq | hq
    · exact (n3 a ha p hq).symm
    · exact (d a (hp.symm.subset (List.mem_append_left _ ha)) p hq).symm
  · exact (d2 a (h2 a ha) p hq).symm
theorem tag_at {g : Int} {c : List RecA} {i : Nat} {v : Value} (h : (refsV g c)[i]? = some v) :
    ∃ x, v = .ref x.1.a ∧ (tagL g c)[i]? = some x ∧ (tagL g c).drop i = x :: (tagL g c).drop (i + 1) ∧ (tagL g c).take (i + 1) = (tagL g c).take i ++ [x] := by
  rw [tagL_refs, List.getElem?_map] at h
  cases hx : (tagL g c)[i]? with
  | none => rw [hx] at h; cases h
  | some x =>
    rw [hx] at h
    refine ⟨x, (Option.some.inj h).symm, rfl, ?_, ?_⟩
    · obtain ⟨hi, e⟩ := List.getElem?_eq_some_iff.mp hx
      rw [List.drop_eq_getElem_cons hi, e]
    · rw [List.take_succ, hx]; rfl
theorem tag_all (g : Int) (c : List RecA) : (tagL g c).drop (refsV g c).length = [] ∧ (tagL g c).take (refsV g c).length = tagL g c := by
  have : (refsV g c).length = (tagL g c).length := by rw [tagL_refs, List.length_map]
  rw [this]
  exact ⟨List.drop_length, List.take_length⟩
theorem tag_sub (g : Int) : ∀ c : List RecA, ((tagL g c).map (·.1)).Sublist c := by
  intro c
  induction c with
  | nil => exact .slnil
  | cons r rs ih =>
    cases h : visB r.c g with
    | false => simp only [tagL, h, Bool.false_eq_true, if_false]; exact .cons _ ih
    | true => simp only [tagL, h, if_true, List.map_cons]; exact .cons₂ _ ih

noncomputable abbrev core (r : RecA) : Addr × Addr × Addr × Addr × Rc := (r.a, r.d, r.tm, r.ik, r.c)
noncomputable def kvOf (c : List RecA) : List (Int × Value) := c.map fun r => (r.c.key, Value.ref r.a)
theorem kvOf_append (a b : List RecA) : kvOf (a ++ b) = kvOf a ++ kvOf b := by simp only [kvOf, List.map_append]
theorem kvOf_length (a : List RecA) : (kvOf a).length = a.length := by simp only [kvOf, List.length_map]
theorem core_keys {D : List RecA} {T : List (RecA × Int)} (h : D.map core = T.map fun x => core x.1) : D.map (·.c.key) = T.map (·.1.c.key) := by
  have := congrArg (List.map (fun t : Addr × Addr × Addr × Addr × Rc => t.2.2.2.2.key)) h
  simpa only [List.map_map, Function.comp_def] using this
theorem core_len {D : List RecA} {T : List (RecA × Int)} (h : D.map core = T.map fun x => core x.1) : D.length = T.length := by
  have := congrArg List.length h
  simpa only [List.length_map] using this
theorem sw_fresh {g : Int} {c D : List RecA} {i : Nat} {x : RecA × Int} (hn : (c.map (·.c.key)).Nodup) (e2 : (tagL g c).take (i + 1) = (tagL g c).take i ++ [x])
    (hD : D.map core = ((tagL g c).take i).map fun x => core x.1) : ∀ r ∈ D, r.c.key ≠ x.1.c.key := by
  have h1 : ((tagL g c).map (·.1.c.key)).Nodup := by
    have := List.Nodup.sublist ((tag_sub g c).map (·.c.key)) hn
    simpa only [List.map_map, Function.comp_def] using this
  have h2 : (((tagL g c).take (i + 1)).map (·.1.c.key)).Nodup := List.Nodup.sublist ((List.take_sublist _ _).map _) h1
  rw [e2, List.map_append, ← core_keys hD, List.nodup_append] at h2
  intro r hr
  exact h2.2.2 _ (List.mem_map_of_mem (f := fun r : RecA => r.c.key) hr) _ (by simp)
theorem sw_mem {D : List RecA} {T : List (RecA × Int)} (h : D.map core = T.map fun x => core x.1) : ∀ r ∈ D, ∃ y ∈ T, core r = core y.1 := by
  intro r hr
  have h1 : core r ∈ T.map fun x => core x.1 := h ▸ List.mem_map_of_mem hr
  obtain ⟨y, hy, e⟩ := List.mem_map.mp h1
  exact ⟨y, hy, e.symm⟩
theorem sw_key {g : Int} {c D : List RecA} {i : Nat} (hD : D.map core = ((tagL g c).take i).map fun x => core x.1) (k : ∀ r ∈ c, 0 ≤ r.c.key) : ∀ r ∈ D, 0 ≤ r.c.key := by
  intro r hr
  obtain ⟨y, hy, e⟩ := sw_mem hD r hr
  have e2 : r.c = y.1.c := congrArg (fun t : Addr × Addr × Addr × Addr × Rc => t.2.2.2.2) e
  rw [e2]
  exact k _ (tagL_mem g c y (List.take_subset _ _ hy)).1
theorem tag_len (g : Int) (c : List RecA) : (tagL g c).length ≤ c.length := by
  have := (tag_sub g c).length_le
  simpa only [List.length_map] using this
theorem kv_none {D : List RecA} {k : Int} (h : ∀ r ∈ D, r.c.key ≠ k) : valueAt (kvOf D) k = none := by
  refine valueAt_none fun p hp => ?_
  obtain ⟨r, hr, rfl⟩ := List.mem_map.mp hp
  exact h r hr
theorem kv_mem {D : List RecA} {r : RecA} (h : r ∈ D) : (r.c.key, Value.ref r.a) ∈ kvOf D := List.mem_map_of_mem (f := fun r : RecA => (r.c.key, Value.ref r.a)) h

section
variable {α : Type} {k s sd rd pd p4 d4 p9 d9 x xd z zd : α} {A B R X own own2 : List α}
theorem sw_perm4 : (k :: s :: sd :: rd :: pd :: p4 :: d4 :: p9 :: d9 :: (A ++ B)).Perm (k :: p4 :: d4 :: (A ++ (s :: sd :: rd :: pd :: p9 :: d9 :: B))) := by
  classical
  rw [List.perm_iff_count]; intro y
  simp only [List.count_cons, List.count_append]; omega
theorem sw_perm9 : (k :: s :: sd :: rd :: pd :: p4 :: d4 :: p9 :: d9 :: (A ++ B)).Perm (k :: p9 :: d9 :: (B ++ (s :: sd :: rd :: pd :: p4 :: d4 :: A))) := by
  classical
  rw [List.perm_iff_count]; intro y
  simp only [List.count_cons, List.count_append]; omega
/-- the inner ledger, the first record taken -/
theorem sw_perm0 : (k :: s :: sd :: rd :: ([] ++ (x :: xd :: R ++ X))).Perm ([x, xd, s, sd, rd] ++ (k :: (R ++ X))) := by
  classical
  rw [List.perm_iff_count]; intro y
  simp only [List.count_cons, List.count_append, List.count_nil]; omega
theorem sw_perm1 : (k :: s :: sd :: rd :: ((A ++ [z, zd]) ++ (x :: xd :: R ++ X))).Perm ([x, xd, z, zd, s, sd, rd] ++ (k :: (A ++ (R ++ X)))) := by
  classical
  rw [List.perm_iff_count]; intro y
  simp only [List.count_cons, List.count_append, List.count_nil]; omega
theorem sw_in0 : ∀ p ∈ x :: xd :: s :: sd :: rd :: ((k :: (R ++ X)) ++ own ++ own2), p ∈ (k :: s :: sd :: rd :: ([] ++ (x :: xd :: R ++ (X ++ own)))) ++ own2 := by
  intro p hp
  simp only [List.mem_append, List.mem_cons, List.not_mem_nil, false_or] at hp ⊢
  grind
theorem sw_in1 : ∀ p ∈ x :: xd :: z :: zd :: s :: sd :: rd :: ((k :: (A ++ (R ++ X))) ++ own ++ own2), p ∈ (k :: s :: sd :: rd :: ((A ++ [z, zd]) ++ (x :: xd :: R ++ (X ++ own)))) ++ own2 := by
  intro p hp
  simp only [List.mem_append, List.mem_cons, List.not_mem_nil, or_false] at hp ⊢
  grind
theorem sw_out0 : ∀ p ∈ (k :: s :: sd :: rd :: ([x, xd] ++ (R ++ (X ++ own)))) ++ own2, p ∈ x :: xd :: s :: sd :: rd :: ((k :: (R ++ X)) ++ own ++ own2) := by
  intro p hp
  simp only [List.mem_append, List.mem_cons, List.not_mem_nil, or_false] at hp ⊢
  grind
theorem sw_out1 : ∀ p ∈ (k :: s :: sd :: rd :: ((A ++ [z, zd, x, xd]) ++ (R ++ (X ++ own)))) ++ own2, p ∈ x :: xd :: z :: zd :: s :: sd :: rd :: ((k :: (A ++ (R ++ X))) ++ own ++ own2) := by
  intro p hp
  simp only [List.mem_append, List.mem_cons, List.not_mem_nil, or_false] at hp ⊢
  grind
end
theorem sw_addr (P : Params) {D D' : List RecA} {x : RecA × Int} {R : List (RecA × Int)} {l : Addr} {o o' : Obj} {kd : Addr} {ok ok' : Obj} {p p' : PrA} {a b a' b' : Int} {X : List (Addr × Obj)}
    (hD : (chLed P D').map (·.1) = (chLed P D).map (·.1) ++ [x.1.a, x.1.d]) (hp : p'.a = p.a) (hq : p'.d = p.d) :
    ((l, o') :: (kd, ok') :: pObj p' :: pDict P p' a' b' :: (chLed P D' ++ (looseLed P R ++ X))).map (·.1) = ((l, o) :: (kd, ok) :: pObj p :: pDict P p a b :: (chLed P D ++ (looseLed P (x :: R) ++ X))).map (·.1) := by
  simp only [List.map_cons, List.map_append, hD, looseLed, List.append_assoc, List.cons_append, List.nil_append, hp, hq]
theorem chLed_turn (P : Params) (D0 : List RecA) (z z' x : RecA) (ha : z'.a = z.a) (hd : z'.d = z.d) : (chLed P (D0 ++ [z', x])).map (·.1) = (chLed P (D0 ++ [z])).map (·.1) ++ [x.a, x.d] := by
  have e : D0 ++ [z', x] = (D0 ++ [z']) ++ [x] := by simp
  rw [e, chLed_snoc_addr, chLed_snoc_addr, chLed_snoc_addr, ha, hd]
theorem ne_addr {a b : List (Addr × Obj)} {d : Addr} (e : b.map (·.1) = a.map (·.1)) (h : ∀ p ∈ a, p.1 ≠ d) : ∀ p ∈ b, p.1 ≠ d := by
  intro p hp
  have h1 : p.1 ∈ a.map (·.1) := e ▸ List.mem_map_of_mem hp
  obtain ⟨q, hq, e2⟩ := List.mem_map.mp h1
  exact e2 ▸ h q hq
section
variable {α : Type} {k l s sd rd pd p4 d4 p9 d9 : α} {A A' B X own TL : List α}
theorem sw_mono3 (h : ∀ p ∈ A', p ∈ A) : ∀ p ∈ k :: p4 :: d4 :: ([] ++ (A' ++ X)), p ∈ k :: p4 :: d4 :: (A ++ X) := by
  intro p hp
  simp only [List.mem_append, List.mem_cons, List.not_mem_nil, false_or] at hp ⊢
  grind
theorem sw_in4 (h : ∀ p ∈ A', p ∈ A) : ∀ p ∈ k :: p4 :: d4 :: ([] ++ (A' ++ (s :: sd :: rd :: pd :: p9 :: d9 :: B))), p ∈ k :: s :: sd :: rd :: pd :: p4 :: d4 :: p9 :: d9 :: (A ++ B) :=
  fun p hp => sw_perm4.symm.subset (sw_mono3 h p hp)
theorem sw_in9i (h : ∀ p ∈ A', p ∈ A) : ∀ p ∈ k :: p9 :: d9 :: ([] ++ (A' ++ (s :: sd :: rd :: pd :: p4 :: d4 :: B))), p ∈ k :: s :: sd :: rd :: pd :: p4 :: d4 :: p9 :: d9 :: (B ++ A) :=
  fun p hp => sw_perm9.symm.subset (sw_mono3 h p hp)
theorem sw_pre {P : List α} (h : ∀ p ∈ X, p ∈ TL) : ∀ p ∈ P ++ X, p ∈ P ++ TL := fun p hp => (List.mem_append.mp hp).elim (List.mem_append_left _) fun hp => List.mem_append_right _ (h p hp)
theorem sw_in9 (s4 : ∀ p ∈ A, p ∈ TL) (s9 : ∀ p ∈ B, p ∈ TL) (so : ∀ p ∈ own, p ∈ TL) : ∀ p ∈ (k :: s :: sd :: rd :: pd :: p4 :: d4 :: p9 :: d9 :: (A ++ B)) ++ own, p ∈ k :: s :: sd :: rd :: pd :: p4 :: d4 :: p9 :: d9 :: TL := by
  refine sw_pre (P := [k, s, sd, rd, pd, p4, d4, p9, d9]) (X := (A ++ B) ++ own) fun p hp => ?_
  rcases List.mem_append.mp hp with hp | hp
  · exact (List.mem_append.mp hp).elim (s4 p) (s9 p)
  · exact so p hp
theorem sw_own (h : ∀ p ∈ k :: p4 :: d4 :: ([] ++ (A ++ X)), p ∈ B) (so : ∀ p ∈ own, p ∈ B) : ∀ p ∈ l :: k :: p4 :: d4 :: ([] ++ (A ++ (X ++ own))), p ∈ l :: B := by
  intro p hp
  rcases List.mem_cons.mp hp with rfl | hp
  · exact .head _
  refine .tail _ ?_
  have e : k :: p4 :: d4 :: ([] ++ (A ++ (X ++ own))) = (k :: p4 :: d4 :: ([] ++ (A ++ X))) ++ own := by simp
  rw [e] at hp
  exact (List.mem_append.mp hp).elim (h p) (so p)
theorem sw_in4n (h : ∀ p ∈ A', p ∈ A) (s4 : ∀ p ∈ A, p ∈ TL) (s9 : ∀ p ∈ B, p ∈ TL) (so : ∀ p ∈ own, p ∈ TL) : ∀ p ∈ l :: k :: p4 :: d4 :: ([] ++ (A' ++ ((s :: sd :: rd :: pd :: p9 :: d9 :: B) ++ own))), p ∈ l :: k :: s :: sd :: rd :: pd :: p4 :: d4 :: p9 :: d9 :: TL :=
  sw_own (X := s :: sd :: rd :: pd :: p9 :: d9 :: B) (fun p hp => sw_in9 s4 s9 so p (List.mem_append_left _ (sw_in4 h p hp))) fun p hp => sw_in9 s4 s9 so p (List.mem_append_right _ hp)
theorem sw_in9n (h : ∀ p ∈ A', p ∈ A) (s9 : ∀ p ∈ A, p ∈ TL) (s4 : ∀ p ∈ B, p ∈ TL) (so : ∀ p ∈ own, p ∈ TL) : ∀ p ∈ l :: k :: p9 :: d9 :: ([] ++ (A' ++ ((s :: sd :: rd :: pd :: p4 :: d4 :: B) ++ own))), p ∈ l :: k :: s :: sd :: rd :: pd :: p4 :: d4 :: p9 :: d9 :: TL :=
  sw_own (X := s :: sd :: rd :: pd :: p4 :: d4 :: B) (fun p hp => sw_in9 s4 s9 so p (List.mem_append_left _ (sw_in9i h p hp))) fun p hp => sw_in9 s4 s9 so p (List.mem_append_right _ hp)
end
theorem hk_turn (D0 : List RecA) (z z' x : RecA) (h : z'.c.key = z.c.key) : hk (D0 ++ [z', x]) = hk (D0 ++ [z]) := by
  cases D0 with
  | nil => exact h
  | cons a b => rfl
theorem lastK_turn (D0 : List RecA) (z x : RecA) : lastK (D0 ++ [z, x]) = x.c.key := by
  rw [show D0 ++ [z, x] = (D0 ++ [z]) ++ [x] by simp, lastK_snoc]
section
variable {α : Type} {k l s sd rd pd p4 d4 p9 d9 : α} {A A' B X own TL : List α}
theorem sw_back4p : (l :: k :: p4 :: d4 :: (A ++ ([] ++ (s :: sd :: rd :: pd :: p9 :: d9 :: B)))).Perm (l :: k :: s :: sd :: rd :: pd :: p4 :: d4 :: p9 :: d9 :: (A ++ B)) := by
  rw [List.nil_append]
  exact (sw_perm4 (A := A) (B := B)).symm.cons _
theorem sw_back4 : ∀ p ∈ k :: s :: sd :: rd :: pd :: p4 :: d4 :: p9 :: d9 :: (A ++ B), p ∈ l :: k :: p4 :: d4 :: (A ++ ([] ++ (s :: sd :: rd :: pd :: p9 :: d9 :: B))) := fun p hp => sw_back4p.symm.subset (.tail _ hp)
theorem sw_back4o : ∀ p ∈ (k :: s :: sd :: rd :: pd :: p4 :: d4 :: p9 :: d9 :: (A ++ B)) ++ own, p ∈ l :: k :: p4 :: d4 :: (A ++ ([] ++ ((s :: sd :: rd :: pd :: p9 :: d9 :: B) ++ own))) := by
  intro p hp
  have e : l :: k :: p4 :: d4 :: (A ++ ([] ++ ((s :: sd :: rd :: pd :: p9 :: d9 :: B) ++ own))) = (l :: k :: p4 :: d4 :: (A ++ ([] ++ (s :: sd :: rd :: pd :: p9 :: d9 :: B)))) ++ own := by simp
  rw [e]
  exact (List.mem_append.mp hp).elim (fun h => List.mem_append_left _ (sw_back4 p h)) fun h => List.mem_append_right _ h
theorem sw_back9p : (l :: k :: p9 :: d9 :: (A ++ ([] ++ (s :: sd :: rd :: pd :: p4 :: d4 :: B)))).Perm (l :: k :: s :: sd :: rd :: pd :: p4 :: d4 :: p9 :: d9 :: (B ++ A)) := by
  rw [List.nil_append]
  exact (sw_perm9 (A := B) (B := A)).symm.cons _
theorem sw_back9 : ∀ p ∈ k :: s :: sd :: rd :: pd :: p4 :: d4 :: p9 :: d9 :: (B ++ A), p ∈ l :: k :: p9 :: d9 :: (A ++ ([] ++ (s :: sd :: rd :: pd :: p4 :: d4 :: B))) := fun p hp => sw_back9p.symm.subset (.tail _ hp)
theorem sw_back9o : ∀ p ∈ (k :: s :: sd :: rd :: pd :: p4 :: d4 :: p9 :: d9 :: (B ++ A)) ++ own, p ∈ l :: k :: p9 :: d9 :: (A ++ ([] ++ ((s :: sd :: rd :: pd :: p4 :: d4 :: B) ++ own))) := by
  intro p hp
  have e : l :: k :: p9 :: d9 :: (A ++ ([] ++ ((s :: sd :: rd :: pd :: p4 :: d4 :: B) ++ own))) = (l :: k :: p9 :: d9 :: (A ++ ([] ++ (s :: sd :: rd :: pd :: p4 :: d4 :: B)))) ++ own := by simp
  rw [e]
  exact (List.mem_append.mp hp).elim (fun h => List.mem_append_left _ (sw_back9 p h)) fun h => List.mem_append_right _ h
end
theorem sw_three {a b c y : Str} (h : [a, b, c].contains y = false) : y ≠ a ∧ y ≠ b ∧ y ≠ c := by
  refine ⟨?_, ?_, ?_⟩ <;> rintro rfl <;> simp at h
theorem Disj.addr {a b r : List (Addr × Obj)} (D : Disj a r) (e : b.map (·.1) = a.map (·.1)) : Disj b r := disj_addr e D
theorem Disj.cons {x : Addr × Obj} {l r : List (Addr × Obj)} (h : ∀ q ∈ r, q.1 ≠ x.1) (D : Disj l r) : Disj (x :: l) r := by
  intro p hp q hq
  rcases List.mem_cons.mp hp with e | hp
  · rw [e]; exact (h q hq).symm
  · exact D p hp q hq
section
variable {α : Type} {k s sd rd x xd z zd : α} {A R X : List α}
theorem sw_mem0 : ∀ p ∈ [x, xd, s, sd, rd], p ∈ k :: s :: sd :: rd :: ([] ++ (x :: xd :: R ++ X)) := fun _ hp => sw_perm0.symm.subset (List.mem_append_left _ hp)
theorem sw_mem1 : ∀ p ∈ [x, xd, z, zd, s, sd, rd], p ∈ k :: s :: sd :: rd :: ((A ++ [z, zd]) ++ (x :: xd :: R ++ X)) := fun _ hp => sw_perm1.symm.subset (List.mem_append_left _ hp)
end
theorem NdA.addr {a b : List (Addr × Obj)} (n : NdA a) (e : b.map (·.1) = a.map (·.1)) : NdA b := ndA_congr e.symm n
/-- two addresses are apart; a word that omega does not see -/
noncomputable def Ap (a b : Nat) : Prop := a ≠ b
theorem Ap.ne {a b : Nat} (h : Ap a b) : a ≠ b := h
theorem ap_iff {a b : Nat} : (¬ a = b) ↔ Ap a b := Iff.rfl
theorem kv_none2 {B D : List RecA} {k : Int} (hb : ∀ r ∈ B, r.c.key ≠ k) (h : ∀ r ∈ D, r.c.key ≠ k) : valueAt (kvOf B ++ kvOf D) k = none := by
  rw [← kvOf_append]
  exact kv_none fun r hr => (List.mem_append.mp hr).elim (hb r) (h r)
theorem sw_base {g : Int} {c4 c9 d4 : List RecA} {x : RecA} (q4 : d4.map core = (tagL g c4).map fun x => core x.1) (hn : ((c4 ++ c9).map (·.c.key)).Nodup) (hx : x ∈ c9) : ∀ r ∈ d4, r.c.key ≠ x.c.key := by
  intro r hr
  obtain ⟨y, hy, e⟩ := sw_mem q4 r hr
  have e2 : r.c = y.1.c := congrArg (fun t : Addr × Addr × Addr × Addr × Rc => t.2.2.2.2) e
  rw [List.map_append, List.nodup_append] at hn
  rw [e2]
  exact hn.2.2 _ (List.mem_map_of_mem (f := fun r : RecA => r.c.key) (tagL_mem g c4 y hy).1) _ (List.mem_map_of_mem (f := fun r : RecA => r.c.key) hx)
section
variable {α : Type} {k s sd sd' rd : α} {R rest : List α}
theorem sw_fin : ∀ p ∈ s :: sd :: k :: R, p ∈ k :: s :: sd :: rd :: R := by
  intro p hp
  simp only [List.mem_cons] at hp ⊢
  rcases hp with h | h | h | h <;> simp [h]
theorem sw_finr (h : ∀ p ∈ s :: sd :: k :: R, p ∈ k :: s :: sd :: rd :: R) : ∀ p ∈ (s :: sd :: k :: R) ++ rest, p ∈ (k :: s :: sd :: rd :: R) ++ rest := fun p hp => (List.mem_append.mp hp).elim (fun q => List.mem_append_left _ (h p q)) (List.mem_append_right _)
theorem sw_finS : (k :: s :: sd :: R).Sublist (k :: s :: sd :: rd :: R) := .cons₂ _ (.cons₂ _ (.cons₂ _ (.cons _ (List.Sublist.refl _))))
theorem sw_finP : (k :: s :: sd :: R).Perm (s :: sd :: k :: R) := (List.Perm.swap s k _).trans ((List.Perm.swap sd k _).cons s)
end

end
section

local macro_rules | `(tactic| walk_at "call ref") => `(tactic| (k_here; k_dflt (refine' Meets.useA (C := chain_meets _ _ _ _ _ _ _ _ _ _ _ _ (by k_mem) (by k_mem) (by k_mem) (by with_reducible assumption) (by k_mem) (by k_mem) (by (first | assumption | (refine in_mono (by assumption) ?_; walk_at "m_sub"))) (by with_reducible assumption) (by with_reducible assumption) (by with_reducible assumption)) (ret := ?_)); k_whole; intro r9 tl9 h9 tk9 F9 N9 hp9; obtain ⟨l9, nn9, e9, e9', hne9⟩ := hp9; subst e9; subst e9'; (have hne8 := hne9); (try k_lt hne9); (try k_sweep); (try dsimp only); (try k_fold)))

noncomputable abbrev swLed (P : Params) (S : StA) (nr gen : Int) (od : Obj) (pd : Addr) (po : Obj) (kd : Addr) (ok : Obj) (P4 : PrA) (a4 b4 : Int) (P9 : PrA) (a9 b9 : Int) (X : List (Addr × Obj)) : List (Addr × Obj) :=
  (kd, ok) :: sObj S :: sDict P S nr gen :: (S.rd, od) :: (pd, po) :: pObj P4 :: pDict P P4 a4 b4 :: pObj P9 :: pDict P P9 a9 b9 :: X

noncomputable abbrev inLed (P : Params) (l : Addr) (vs : List Value) (nn : Nat) (kd : Addr) (ok : Obj) (p : PrA) (a b : Int) (D : List RecA) (rest : List (RecA × Int)) (X : List (Addr × Obj)) : List (Addr × Obj) :=
  (l, listOf vs.toArray nn) :: (kd, ok) :: pObj p :: pDict P p a b :: (chLed P D ++ (looseLed P rest ++ X))

local macro_rules | `(tactic| k_ne) => `(tactic| (refine neN ?_; (try dsimp only); first | (refine Ap.ne ?_; with_reducible assumption) | (refine Ne.symm (Ap.ne ?_); with_reducible assumption)))
local macro_rules | `(tactic| walk_at "call builtin:len") => `(tactic| (refine Halt.of ?_))
theorem sweep_meets (w : World) (S : StA) (nr gen : Int) (od po : Obj) (kvs : List (Int × Value)) (pd : Addr) (P4 P9 : PrA) (c4 c9 : List RecA) (l4 l9 : Int)
    (hod : od.IsDictOf (PySem.intKind PySem.Challenge.rw_rh0068_01.row.prog w) kvs) (hpo : po.IsDictOf (PySem.intKind PySem.Challenge.rw_rh0068_01.row.prog w) [(4, .ref P4.a), (9, .ref P9.a)])
    (lo : (S.rd == sysModules) = false) (lo2 : (pd == sysModules) = false) (hkv : kvs.length ≤ 1000)
    (v4 : ∀ r ∈ c4, valueAt kvs r.c.key = some (.ref r.a)) (v9 : ∀ r ∈ c9, valueAt kvs r.c.key = some (.ref r.a)) (k4 : ∀ r ∈ c4, 0 ≤ r.c.key) (k9 : ∀ r ∈ c9, 0 ≤ r.c.key) (n4 : c4.length ≤ 19) (n9 : c9.length ≤ 19)
    (hkeys : ((c4 ++ c9).map (·.c.key)).Nodup)
    (nd : NdA ([sObj S, sDict w.params S nr gen, (S.rd, od), (pd, po), pObj P4, pDict w.params P4 (hk c4) l4, pObj P9, pDict w.params P9 (hk c9) l9] ++ (chLed w.params c4 ++ chLed w.params c9))) :
    Meets w 176 [.ref S.a, .ref pd] 60 ([sObj S, sDict w.params S nr gen, (S.rd, od), (pd, po), pObj P4, pDict w.params P4 (hk c4) l4, pObj P9, pDict w.params P9 (hk c9) l9] ++ (chLed w.params c4 ++ chLed w.params c9))
      (fun v tl => ∃ t d4 d9 kd od' rt f4 g4 f9 g9, v = .int ((kvs.length : Int) - ((tagL gen c4).length + (tagL gen c9).length)) t ∧
        d4.map core = (tagL gen c4).map (fun x => core x.1) ∧ d9.map core = (tagL gen c9).map (fun x => core x.1) ∧ (kd == sysModules) = false ∧
        od'.IsDictOf (PySem.intKind PySem.Challenge.rw_rh0068_01.row.prog w) (kvOf d4 ++ kvOf d9) ∧
        tl = [sObj S, sDict w.params { S with rd := kd, t1 := rt } nr gen, (kd, od'), (pd, po), pObj P4, pDict w.params { P4 with fT := f4, lT := g4 } (hk d4) (lastK d4), pObj P9, pDict w.params { P9 with fT := f9, lT := g9 } (hk d9) (lastK d9)] ++ (chLed w.params d4 ++ chLed w.params d9) ∧ NdA tl) := by
  w_on
  unfold Meets
  k_fill
  intro dp un gd cn cs a ccd cl outer A₀ base h₀ L m rest s mean mg mb Q E B F X N D T hk9 hdp hun ret
  refine wpAny_call ?_
  k_dflt (refine' code_frame ?k1 ?k2 ?k3 ?k4 ?kD ?k5 ?kA ?kF ?kK ?k6 ?k7 ?k8 ?k9 ?kB ?_ ?c2 ?c3 ?c4 ?c5; (case kA => exact rfl); (case kF => exact rfl); (case kK => assumption); (case k1 => k_asm); (case k2 => k_asm); (case k3 => k_asm); (case k4 => k_asm); (case kD => k_asm); (case k5 => k_asm); (case k6 => k_is); (case k7 => k_is); (case k8 => ktr_room); (case k9 => exact BindsTo.of_eq rfl); (case c5 => decide); (case kB => exact locs rfl); (case c2 => exact rfl); (case c3 => exact rfl); (case c4 => exact rfl); k_whole)
  intro _ _ _ _ _ _ _ _ _ l1
  (try k_lt l1)
  (try dsimp only)
  (try k_fold)
  (rename News _ _ _ _ => kN9); (dsimp only [List.cons_append, List.nil_append] at kN9)
  (rename News _ _ _ _ => kN9)
  dsimp only [sObj, sDict, pObj, pDict, rObj, rDict] at kN9
  k_steps
  refine Halt.to ?_
  rename_i kd _ ok klo khs kfs khi kfi kl1 _ kF kN
  clear khs kfs kfi
  have n4' : (c4.map (·.c.key)).Nodup := by
    rw [List.map_append, List.nodup_append] at hkeys; exact hkeys.1
  have n9' : (c9.map (·.c.key)).Nodup := by
    rw [List.map_append, List.nodup_append] at hkeys; exact hkeys.2.1
  have ndk : NdA (swLed w.params S nr gen od pd po kd ok P4 (hk c4) l4 P9 (hk c9) l9 (chLed w.params c4 ++ chLed w.params c9)) := by
    refine ndA_cons ?_ nd
    exact allLt_ne (l := sObj S :: sDict w.params S nr gen :: (S.rd, od) :: (pd, po) :: pObj P4 :: pDict w.params P4 (hk c4) l4 :: pObj P9 :: pDict w.params P9 (hk c9) l9 :: (chLed w.params c4 ++ chLed w.params c9)) kl1
  k_dflt (refine' for_dict (fun m₀ i m₁ led₁ => (∀ y, y ≠ Str.ofString "f" → [Str.ofString "proc", Str.ofString "living", Str.ofString "record"].contains y = false → m₁ y = m₀ y) ∧ NdA led₁ ∧
    ((i = 0 ∧ led₁ = swLed w.params S nr gen od pd po kd ok P4 (hk c4) l4 P9 (hk c9) l9 (chLed w.params c4 ++ chLed w.params c9)) ∨
     (i = 1 ∧ ∃ d4 ok' f4 g4, d4.map core = (tagL gen c4).map (fun x => core x.1) ∧ ok'.IsDictOf (PySem.intKind PySem.Challenge.rw_rh0068_01.row.prog w) (kvOf d4) ∧
        led₁ = swLed w.params S nr gen od pd po kd ok' { P4 with fT := f4, lT := g4 } (hk d4) (lastK d4) P9 (hk c9) l9 (chLed w.params d4 ++ chLed w.params c9)) ∨
     (i = 2 ∧ ∃ d4 d9 ok' f4 g4 f9 g9, d4.map core = (tagL gen c4).map (fun x => core x.1) ∧ d9.map core = (tagL gen c9).map (fun x => core x.1) ∧ ok'.IsDictOf (PySem.intKind PySem.Challenge.rw_rh0068_01.row.prog w) (kvOf d4 ++ kvOf d9) ∧
        led₁ = swLed w.params S nr gen od pd po kd ok' { P4 with fT := f4, lT := g4 } (hk d4) (lastK d4) { P9 with fT := f9, lT := g9 } (hk d9) (lastK d9) (chLed w.params d4 ++ chLed w.params d9)))) rfl kF kN ?hl hpo lo2 ?hj ?hJ ?turn ?done)
  case hl => k_mem
  case hj => exact ⟨fun _ _ _ => rfl, ndk, .inl ⟨rfl, rfl⟩⟩
  case hJ =>
    rintro _ _ _ ⟨_, _, h | h | h⟩
    · obtain ⟨_, rfl⟩ := h; simp [swLed]
    · obtain ⟨_, _, _, _, _, _, _, rfl⟩ := h; simp [swLed]
    · obtain ⟨_, _, _, _, _, _, _, _, _, _, _, rfl⟩ := h; simp [swLed]
  case turn =>
    intro s₂ i k u t m₁ led₁ h tk own hs8 hx hj8 hD F₁ N₁
    refine hidePost fun Q9 hQ9 => ?_
    obtain ⟨_, rfl⟩ := hs8
    refine hideG fun G9 hG9 => ?_
    obtain ⟨hm, ndl, h | h | h⟩ := hj8 <;> (refine hG9 ?_; clear hG9)
    · obtain ⟨rfl, rfl⟩ := h
      have hx2 := Option.some.inj hx
      obtain ⟨rfl, rfl⟩ := Prod.mk.inj hx2
      rw [map_eq2 hm] at F₁
      clear kF kN hm
      obtain ⟨na, nb, nc⟩ := ndA_append (a := [(kd, ok), sObj S, sDict w.params S nr gen, (S.rd, od), (pd, po), pObj P4, pDict w.params P4 (hk c4) l4, pObj P9, pDict w.params P9 (hk c9) l9]) ndl
      refine hideG fun G9 hG9 => ?_
      refine ndTo (R := Ap) (fun _ _ h => h) na ?_
      dsimp only [NdTo, NdOne]
      intro na0 na1 na2 na3 na4 na5 na6 na7 na8 na9 na10 na11 na12 na13 na14 na15 na16 na17 na18 na19 na20 na21 na22 na23 na24 na25 na26 na27 na28 na29 na30 na31 na32 na33 na34 na35
      refine hG9 ?_
      clear hG9
      obtain ⟨TL, s4, s9, so, sx, N₂⟩ : ∃ TL, (∀ p ∈ chLed w.params c4, p ∈ TL) ∧ (∀ p ∈ chLed w.params c9, p ∈ TL) ∧ (∀ p ∈ own, p ∈ TL) ∧ (∀ p ∈ TL, p.1 ≠ P4.d) ∧
          News _ _ h ((kd, ok) :: (S.a, instObj 165 S.d) :: (S.d, dictOf (sEnt w.params S nr gen) 3) :: (S.rd, od) :: (pd, po) :: (P4.a, instObj 74 P4.d) :: (P4.d, dictOf (pEnt w.params P4 (hk c4) l4) 10) :: (P9.a, instObj 74 P9.d) :: (P9.d, dictOf (pEnt w.params P9 (hk c9) l9) 10) :: TL) :=
        ⟨(chLed w.params c4 ++ chLed w.params c9) ++ own, fun p hp => List.mem_append_left _ (List.mem_append_left _ hp), fun p hp => List.mem_append_left _ (List.mem_append_right _ hp), fun p hp => List.mem_append_right _ hp,
          fun p hp => (List.mem_append.mp hp).elim (fun hp => (nc (pDict w.params P4 (hk c4) l4) (by simp) p hp).symm) (fun hp => (hD (pDict w.params P4 (hk c4) l4) (by simp [swLed]) p hp).symm), N₁⟩
      clear N₁
      have z4 : c4.length ≤ 1000 := by omega
      have y1 : valueAt [((4 : Int), Value.ref P4.a), (9, .ref P9.a)] 4 = some (.ref P4.a) := rfl
      k_steps
      refine Halt.to ?_
      rename_i lq nq hq8 hq9 _ _ _ kF kN
      obtain ⟨f5, g5, kN2⟩ : ∃ f5 g5, News _ _ _ ((lq, listOf (refsV gen c4).toArray nq) :: (kd, ok) :: (S.a, instObj 165 S.d) :: (S.d, dictOf (sEnt w.params S nr gen) 3) :: (S.rd, od) :: (pd, po) :: (P4.a, instObj 74 P4.d) :: (P4.d, dictOf (pEnt w.params { P4 with fT := f5, lT := g5 } (-1) (-1)) 10) :: (P9.a, instObj 74 P9.d) :: (P9.d, dictOf (pEnt w.params P9 (hk c9) l9) 10) :: TL) := by
        refine' ⟨_, _, ?kk⟩
        case kk => dsimp only [pEnt]; exact kN
      clear kN
      have nl9 : ∀ p ∈ swLed w.params S nr gen od pd po kd ok P4 (hk c4) l4 P9 (hk c9) l9 (chLed w.params c4 ++ chLed w.params c9) ++ own, p.1 ≠ lq := by
        have hal : ∀ p ∈ (kd, ok) :: sObj S :: sDict w.params S nr gen :: (S.rd, od) :: (pd, po) :: pObj P4 :: pDict w.params P4 (hk c4) l4 :: pObj P9 :: pDict w.params P9 (hk c9) l9 :: TL, p.1 ≠ lq := allLt_ne hq9
        exact fun p hp => hal p (sw_in9 s4 s9 so p hp)
      have ndi : NdA (inLed w.params lq (refsV gen c4) nq kd ok { P4 with fT := f5, lT := g5 } (-1) (-1) [] (tagL gen c4) (sObj S :: sDict w.params S nr gen :: (S.rd, od) :: (pd, po) :: pObj P9 :: pDict w.params P9 (hk c9) l9 :: chLed w.params c9)) := by
        refine ndA_cons ?_ ?_
        · exact ne_addr (a := (kd, ok) :: pObj P4 :: pDict w.params P4 (hk c4) l4 :: ([] ++ (looseLed w.params (tagL gen c4) ++ (sObj S :: sDict w.params S nr gen :: (S.rd, od) :: (pd, po) :: pObj P9 :: pDict w.params P9 (hk c9) l9 :: chLed w.params c9)))) rfl fun p hp => nl9 _ (List.mem_append_left _ (sw_in4 (loose_sub w.params gen c4).subset p hp))
        · exact ndA_sub (((loose_sub w.params gen c4).append (List.Sublist.refl _)).cons₂ _ |>.cons₂ _ |>.cons₂ _) (ndA_perm sw_perm4 ndl)
      have dio : Disj (inLed w.params lq (refsV gen c4) nq kd ok { P4 with fT := f5, lT := g5 } (-1) (-1) [] (tagL gen c4) (sObj S :: sDict w.params S nr gen :: (S.rd, od) :: (pd, po) :: pObj P9 :: pDict w.params P9 (hk c9) l9 :: chLed w.params c9)) own := by
        have hd1 : Disj ((kd, ok) :: pObj P4 :: pDict w.params P4 (hk c4) l4 :: ([] ++ (looseLed w.params (tagL gen c4) ++ (sObj S :: sDict w.params S nr gen :: (S.rd, od) :: (pd, po) :: pObj P9 :: pDict w.params P9 (hk c9) l9 :: chLed w.params c9)))) own := hD.left (sw_in4 (loose_sub w.params gen c4).subset)
        exact Disj.cons (fun q hq => nl9 q (List.mem_append_right _ hq)) (hd1.addr rfl)
      replace kN2 := news_sub kN2 (l' := inLed w.params lq (refsV gen c4) nq kd ok { P4 with fT := f5, lT := g5 } (-1) (-1) [] (tagL gen c4) ((sObj S :: sDict w.params S nr gen :: (S.rd, od) :: (pd, po) :: pObj P9 :: pDict w.params P9 (hk c9) l9 :: chLed w.params c9) ++ own)) (sw_in4n (loose_sub w.params gen c4).subset s4 s9 so)
      generalize hX0 : (sObj S :: sDict w.params S nr gen :: (S.rd, od) :: (pd, po) :: pObj P9 :: pDict w.params P9 (hk c9) l9 :: chLed w.params c9) = X0 at ndi dio kN2
      clear na0 na1 na2 na3 na4 na5 na6 na7 na8 na9 na10 na11 na12 na13 na14 na15 na16 na17 na18 na19 na20 na21 na22 na23 na24 na25 na26 na27 na28 na29 na30 na31 na32 na33 na34 na35 nb nc hq9 s4 s9 so sx
      k_dflt (refine' for_list (vs := refsV gen c4) (fun vs l nn m₀ i m₁ led₁ => (∀ y, y ≠ Str.ofString "record" → m₁ y = m₀ y) ∧ ∃ D ok' f4 g4, D.map core = ((tagL gen c4).take i).map (fun x => core x.1) ∧ ok'.IsDictOf (PySem.intKind PySem.Challenge.rw_rh0068_01.row.prog w) (kvOf [] ++ kvOf D) ∧
        NdA (inLed w.params l vs nn kd ok' { P4 with fT := f4, lT := g4 } (hk D) (lastK D) D ((tagL gen c4).drop i) X0) ∧ Disj (inLed w.params l vs nn kd ok' { P4 with fT := f4, lT := g4 } (hk D) (lastK D) D ((tagL gen c4).drop i) X0) own ∧
        led₁ = inLed w.params l vs nn kd ok' { P4 with fT := f4, lT := g4 } (hk D) (lastK D) D ((tagL gen c4).drop i) (X0 ++ own)) rfl kF kN2 mem_here ?xj4 ?xJ4 ?xturn4 ?xdone4)
      case xj4 => exact ⟨fun _ _ => rfl, [], ok, f5, g5, rfl, khi, ndi, dio, rfl⟩
      case xJ4 => rintro _ _ _ ⟨_, _, _, _, _, _, _, _, _, rfl⟩; exact mem_here
      case xturn4 =>
        intro s₃ i v m₂ led₂ h2 tk2 own2 hs8 hx hj8 hD2 F₂ N₂
        refine hidePost fun Q9 hQ9 => ?_
        obtain ⟨_, rfl⟩ := hs8
        refine hideG fun G9 hG9 => ?_
        obtain ⟨hm2, D, ok', f5, g5, hD1, hok, ndD, dD, rfl⟩ := hj8 <;> (refine hG9 ?_; clear hG9)
        rw [map_eq hm2] at F₂
        clear kF kN2 hm2
        obtain ⟨x, rfl, hx2, e1, e2⟩ := tag_at hx
        rw [e1] at ndD dD N₂ hD2
        have xmem := (tagL_mem gen c4 x (List.mem_of_getElem? hx2)).1
        have kx : 0 ≤ x.1.c.key := k4 _ xmem
        have hb : ∀ r ∈ ([] : List RecA), r.c.key ≠ x.1.c.key := by intro r hr; exact absurd hr List.not_mem_nil
        have hbl : ([] : List RecA).length ≤ 19 := by simp
        have kf : valueAt (kvOf [] ++ kvOf D) x.1.c.key = none := kv_none2 hb (sw_fresh n4' e2 hD1)
        have kD := sw_key hD1 k4
        have ksz : (kvOf [] ++ kvOf D).length ≤ sizeLine := by
          rw [List.length_append, kvOf_length, kvOf_length, core_len hD1]
          have := tag_len gen c4
          have h2 := List.length_take_le' i (tagL gen c4)
          have h3 : (1000 : Nat) ≤ sizeLine := by decide
          omega
        rcases snoc_cases D with rfl | ⟨D0, z, rfl⟩
        · obtain ⟨nD, cD⟩ := sub_split (A := [rObj x.1, rDict w.params x.1 x.2, (kd, ok'), pObj { P4 with fT := f5, lT := g5 }, pDict w.params { P4 with fT := f5, lT := g5 } (-1) (-1)]) sw_perm0 ndD dD hD2 sw_mem0
          replace N₂ := news_sub N₂ sw_in0
          have q1 := cD (rDict w.params x.1 x.2) (by simp)
          have q2 := cD (kd, ok') (by simp)
          have q3 := cD (pDict w.params { P4 with fT := f5, lT := g5 } (-1) (-1)) (by simp)
          refine hideG fun G9 hG9 => ?_
          refine ndTo (R := Ap) (fun _ _ h => h) nD ?_
          dsimp only [NdTo, NdOne]
          intro nD0 nD1 nD2 nD3 nD4 nD5 nD6 nD7 nD8 nD9
          refine hG9 ?_
          clear hG9
          dsimp only [rDict, rObj, pDict, pObj] at N₂ q1 q2 q3
          k_steps
          rename_i o2 kF3 kN3 kh3
          obtain ⟨t1, t2, t3, N₃⟩ : ∃ t1 t2 t3, News _ _ _ (rObj { x.1 with nxT := t1 } :: rDict w.params { x.1 with nxT := t1 } (-1) :: (kd, o2) :: pObj { P4 with fT := t2, lT := t3 } :: pDict w.params { P4 with fT := t2, lT := t3 } x.1.c.key x.1.c.key ::
              (((lq, listOf (refsV gen c4).toArray nq) :: (looseLed w.params ((tagL gen c4).drop (i + 1)) ++ X0)) ++ own ++ own2)) := by
            refine' ⟨_, _, _, ?kk⟩
            case kk => dsimp only [rObj, rDict, rEnt, pObj, pDict, pEnt]; exact kN3
          rw [stored_absent kf, List.append_assoc] at kh3
          refine hQ9 _ _ ?_
          refine FdPost.intro kF3 (news_sub N₃ sw_out0) ?_ ⟨fun y y1 => by simp only [y1, if_false], [{ x.1 with nxT := t1 }], o2, t2, t3, ?_, kh3, ?_, ?_, rfl⟩
          · exact hD2.addr (sw_addr w.params (D := []) (D' := [{ x.1 with nxT := t1 }]) (x := x) (R := (tagL gen c4).drop (i + 1)) rfl rfl rfl)
          · rw [e2, List.map_append, ← hD1]; rfl
          · exact ndD.addr (sw_addr w.params (D := []) (D' := [{ x.1 with nxT := t1 }]) (x := x) (R := (tagL gen c4).drop (i + 1)) rfl rfl rfl)
          · exact dD.addr (sw_addr w.params (D := []) (D' := [{ x.1 with nxT := t1 }]) (x := x) (R := (tagL gen c4).drop (i + 1)) rfl rfl rfl)
        · obtain ⟨X, hX1, hX2⟩ := chLed_snoc w.params z D0
          have ndD0 := ndD
          have dD0 := dD
          have hD20 := hD2
          dsimp only [inLed] at ndD dD N₂ hD2
          rw [hX1 z rfl, lastK_snoc] at ndD dD N₂ hD2
          have kz : 0 ≤ z.c.key := kD z (by simp)
          have kh0 : 0 ≤ hk (D0 ++ [z]) := by
            cases D0 with
            | nil => exact kz
            | cons a b => exact kD a (by simp)
          have kv : valueAt (kvOf [] ++ kvOf (D0 ++ [z])) z.c.key = some (.ref z.a) := valueAt_mem hok (List.mem_append_right _ (kv_mem (by simp)))
          obtain ⟨nD, cD⟩ := sub_split (A := [rObj x.1, rDict w.params x.1 x.2, rObj z, rDict w.params z (-1), (kd, ok'), pObj { P4 with fT := f5, lT := g5 }, pDict w.params { P4 with fT := f5, lT := g5 } (hk (D0 ++ [z])) z.c.key]) sw_perm1 ndD dD hD2 sw_mem1
          replace N₂ := news_sub N₂ sw_in1
          have q1 := cD (rDict w.params x.1 x.2) (by simp)
          have q2 := cD (kd, ok') (by simp)
          have q3 := cD (pDict w.params { P4 with fT := f5, lT := g5 } (hk (D0 ++ [z])) z.c.key) (by simp)
          have q4 := cD (rDict w.params z (-1)) (by simp)
          refine hideG fun G9 hG9 => ?_
          refine ndTo (R := Ap) (fun _ _ h => h) nD ?_
          dsimp only [NdTo, NdOne]
          intro nD0 nD1 nD2 nD3 nD4 nD5 nD6 nD7 nD8 nD9 nD10 nD11 nD12 nD13 nD14 nD15 nD16 nD17 nD18 nD19 nD20
          refine hG9 ?_
          clear hG9
          dsimp only [rDict, rObj, pDict, pObj] at N₂ q1 q2 q3 q4
          k_steps
          rename_i o2 kF3 kN3 kh3
          obtain ⟨t1, t2, t3, t4, N₃⟩ : ∃ t1 t2 t3 t4, News _ _ _ (rObj { x.1 with nxT := t1 } :: rDict w.params { x.1 with nxT := t1 } (-1) :: rObj { z with nxT := t4 } :: rDict w.params { z with nxT := t4 } x.1.c.key :: (kd, o2) ::
              pObj { P4 with fT := t2, lT := t3 } :: pDict w.params { P4 with fT := t2, lT := t3 } (hk (D0 ++ [z])) x.1.c.key ::
              (((lq, listOf (refsV gen c4).toArray nq) :: (X ++ (looseLed w.params ((tagL gen c4).drop (i + 1)) ++ X0))) ++ own ++ own2)) := by
            refine' ⟨_, _, _, _, ?kk⟩
            case kk => dsimp only [rObj, rDict, rEnt, pObj, pDict, pEnt]; exact kN3
          rw [stored_absent kf] at kh3
          have hT := chLed_turn w.params D0 z { z with nxT := t4 } { x.1 with nxT := t1 } rfl rfl
          refine hQ9 _ _ ?_
          refine FdPost.intro (led' := inLed w.params lq (refsV gen c4) nq kd o2 { P4 with fT := t2, lT := t3 } (hk (D0 ++ [{ z with nxT := t4 }, { x.1 with nxT := t1 }])) (lastK (D0 ++ [{ z with nxT := t4 }, { x.1 with nxT := t1 }])) (D0 ++ [{ z with nxT := t4 }, { x.1 with nxT := t1 }]) ((tagL gen c4).drop (i + 1)) (X0 ++ own)) kF3 ?_ ?_ ⟨fun y y1 => by simp only [y1, if_false], D0 ++ [{ z with nxT := t4 }, { x.1 with nxT := t1 }], o2, t2, t3, ?_, ?_, ?_, ?_, rfl⟩
          · dsimp only [inLed]
            rw [hX2 { z with nxT := t4 } { x.1 with nxT := t1 } rfl, hk_turn D0 z { z with nxT := t4 } { x.1 with nxT := t1 } rfl, lastK_turn]
            exact news_sub N₃ sw_out1
          · exact hD20.addr (sw_addr w.params (x := x) (R := (tagL gen c4).drop (i + 1)) hT rfl rfl)
          · have e8 : List.map core (D0 ++ [{ z with nxT := t4 }, { x.1 with nxT := t1 }]) = List.map core (D0 ++ [z]) ++ [core x.1] := by rw [List.map_append, List.map_append, List.append_assoc]; rfl
            rw [e8, hD1, e2, List.map_append]; rfl
          · have e7 : kvOf [] ++ kvOf (D0 ++ [z]) ++ [(x.1.c.key, Value.ref x.1.a)] = kvOf [] ++ kvOf (D0 ++ [{ z with nxT := t4 }, { x.1 with nxT := t1 }]) := by
              rw [kvOf_append, kvOf_append, List.append_assoc, List.append_assoc]; rfl
            rw [e7] at kh3
            exact kh3
          · exact ndD0.addr (sw_addr w.params (x := x) (R := (tagL gen c4).drop (i + 1)) hT rfl rfl)
          · exact dD0.addr (sw_addr w.params (x := x) (R := (tagL gen c4).drop (i + 1)) hT rfl rfl)
      case xdone4 =>
        intro s₃ m₂ led₂ h2 tk2 hs8 hj8 F₂ N₂
        refine hideG fun G9 hG9 => ?_
        obtain ⟨_, rfl⟩ := hs8
        obtain ⟨hm2, D, ok', f5, g5, hD1, hok, ndD, dD, rfl⟩ := hj8 <;> (refine hG9 ?_; clear hG9)
        rw [(tag_all gen c4).1] at N₂ ndD dD
        rw [(tag_all gen c4).2] at hD1
        subst hX0
        clear kF kN2
        k_steps
        refine hQ9 _ _ ?_
        refine FdPost.intro (led' := swLed w.params S nr gen od pd po kd ok' { P4 with fT := f5, lT := g5 } (hk D) (lastK D) P9 (hk c9) l9 (chLed w.params D ++ chLed w.params c9)) F₂ (news_sub N₂ sw_back4o) (dD.left sw_back4) ⟨fun y y1 y2 => ?_, ndA_sub (List.sublist_cons_self _ _) (ndA_perm sw_back4p ndD), ?_⟩
        · have y3 := sw_three y2
          rw [hm2 y y3.2.2]
          simp only [y1, y2, y3, if_false, Bool.false_eq_true]
        · exact .inr (.inl ⟨rfl, D, ok', f5, g5, hD1, hok, rfl⟩)
    · obtain ⟨rfl, d4, ok1, f6, g6, q4, hok4, hl6⟩ := h
      generalize hQ4 : ({ P4 with fT := f6, lT := g6 } : PrA) = Q4 at hl6
      subst hl6
      have hx2 := Option.some.inj hx
      obtain ⟨rfl, rfl⟩ := Prod.mk.inj hx2
      rw [map_eq2 hm] at F₁
      clear kF kN hm
      obtain ⟨na, nb, nc⟩ := ndA_append (a := [(kd, ok1), sObj S, sDict w.params S nr gen, (S.rd, od), (pd, po), pObj Q4, pDict w.params Q4 (hk d4) (lastK d4), pObj P9, pDict w.params P9 (hk c9) l9]) ndl
      refine hideG fun G9 hG9 => ?_
      refine ndTo (R := Ap) (fun _ _ h => h) na ?_
      dsimp only [NdTo, NdOne]
      intro na0 na1 na2 na3 na4 na5 na6 na7 na8 na9 na10 na11 na12 na13 na14 na15 na16 na17 na18 na19 na20 na21 na22 na23 na24 na25 na26 na27 na28 na29 na30 na31 na32 na33 na34 na35
      refine hG9 ?_
      clear hG9
      obtain ⟨TL, s4, s9, so, sx, N₂⟩ : ∃ TL, (∀ p ∈ chLed w.params d4, p ∈ TL) ∧ (∀ p ∈ chLed w.params c9, p ∈ TL) ∧ (∀ p ∈ own, p ∈ TL) ∧ (∀ p ∈ TL, p.1 ≠ P9.d) ∧
          News _ _ h ((kd, ok1) :: (S.a, instObj 165 S.d) :: (S.d, dictOf (sEnt w.params S nr gen) 3) :: (S.rd, od) :: (pd, po) :: (Q4.a, instObj 74 Q4.d) :: (Q4.d, dictOf (pEnt w.params Q4 (hk d4) (lastK d4)) 10) :: (P9.a, instObj 74 P9.d) :: (P9.d, dictOf (pEnt w.params P9 (hk c9) l9) 10) :: TL) :=
        ⟨(chLed w.params d4 ++ chLed w.params c9) ++ own, fun p hp => List.mem_append_left _ (List.mem_append_left _ hp), fun p hp => List.mem_append_left _ (List.mem_append_right _ hp), fun p hp => List.mem_append_right _ hp,
          fun p hp => (List.mem_append.mp hp).elim (fun hp => (nc (pDict w.params P9 (hk c9) l9) (by simp) p hp).symm) (fun hp => (hD (pDict w.params P9 (hk c9) l9) (by simp [swLed]) p hp).symm), N₁⟩
      clear N₁
      have z4 : c9.length ≤ 1000 := by omega
      have y1 : valueAt [((4 : Int), Value.ref P4.a), (9, .ref P9.a)] 9 = some (.ref P9.a) := rfl
      k_steps
      refine Halt.to ?_
      rename_i lq nq hq8 hq9 _ _ _ kF kN
      obtain ⟨f5, g5, kN2⟩ : ∃ f5 g5, News _ _ _ ((lq, listOf (refsV gen c9).toArray nq) :: (kd, ok1) :: (S.a, instObj 165 S.d) :: (S.d, dictOf (sEnt w.params S nr gen) 3) :: (S.rd, od) :: (pd, po) :: (Q4.a, instObj 74 Q4.d) :: (Q4.d, dictOf (pEnt w.params Q4 (hk d4) (lastK d4)) 10) :: (P9.a, instObj 74 P9.d) :: (P9.d, dictOf (pEnt w.params { P9 with fT := f5, lT := g5 } (-1) (-1)) 10) :: TL) := by
        refine' ⟨_, _, ?kk⟩
        case kk => dsimp only [pEnt]; exact kN
      clear kN
      have nl9 : ∀ p ∈ swLed w.params S nr gen od pd po kd ok1 Q4 (hk d4) (lastK d4) P9 (hk c9) l9 (chLed w.params d4 ++ chLed w.params c9) ++ own, p.1 ≠ lq := by
        have hal : ∀ p ∈ (kd, ok1) :: sObj S :: sDict w.params S nr gen :: (S.rd, od) :: (pd, po) :: pObj Q4 :: pDict w.params Q4 (hk d4) (lastK d4) :: pObj P9 :: pDict w.params P9 (hk c9) l9 :: TL, p.1 ≠ lq := allLt_ne hq9
        exact fun p hp => hal p (sw_in9 s4 s9 so p hp)
      have ndi : NdA (inLed w.params lq (refsV gen c9) nq kd ok1 { P9 with fT := f5, lT := g5 } (-1) (-1) [] (tagL gen c9) (sObj S :: sDict w.params S nr gen :: (S.rd, od) :: (pd, po) :: pObj Q4 :: pDict w.params Q4 (hk d4) (lastK d4) :: chLed w.params d4)) := by
        refine ndA_cons ?_ ?_
        · exact ne_addr (a := (kd, ok1) :: pObj P9 :: pDict w.params P9 (hk c9) l9 :: ([] ++ (looseLed w.params (tagL gen c9) ++ (sObj S :: sDict w.params S nr gen :: (S.rd, od) :: (pd, po) :: pObj Q4 :: pDict w.params Q4 (hk d4) (lastK d4) :: chLed w.params d4)))) rfl fun p hp => nl9 _ (List.mem_append_left _ (sw_in9i (loose_sub w.params gen c9).subset p hp))
        · exact ndA_sub (((loose_sub w.params gen c9).append (List.Sublist.refl _)).cons₂ _ |>.cons₂ _ |>.cons₂ _) (ndA_perm sw_perm9 ndl)
      have dio : Disj (inLed w.params lq (refsV gen c9) nq kd ok1 { P9 with fT := f5, lT := g5 } (-1) (-1) [] (tagL gen c9) (sObj S :: sDict w.params S nr gen :: (S.rd, od) :: (pd, po) :: pObj Q4 :: pDict w.params Q4 (hk d4) (lastK d4) :: chLed w.params d4)) own := by
        have hd1 : Disj ((kd, ok1) :: pObj P9 :: pDict w.params P9 (hk c9) l9 :: ([] ++ (looseLed w.params (tagL gen c9) ++ (sObj S :: sDict w.params S nr gen :: (S.rd, od) :: (pd, po) :: pObj Q4 :: pDict w.params Q4 (hk d4) (lastK d4) :: chLed w.params d4)))) own := hD.left (sw_in9i (loose_sub w.params gen c9).subset)
        exact Disj.cons (fun q hq => nl9 q (List.mem_append_right _ hq)) (hd1.addr rfl)
      replace kN2 := news_sub kN2 (l' := inLed w.params lq (refsV gen c9) nq kd ok1 { P9 with fT := f5, lT := g5 } (-1) (-1) [] (tagL gen c9) ((sObj S :: sDict w.params S nr gen :: (S.rd, od) :: (pd, po) :: pObj Q4 :: pDict w.params Q4 (hk d4) (lastK d4) :: chLed w.params d4) ++ own)) (sw_in9n (loose_sub w.params gen c9).subset s9 s4 so)
      generalize hX0 : (sObj S :: sDict w.params S nr gen :: (S.rd, od) :: (pd, po) :: pObj Q4 :: pDict w.params Q4 (hk d4) (lastK d4) :: chLed w.params d4) = X0 at ndi dio kN2
      clear na0 na1 na2 na3 na4 na5 na6 na7 na8 na9 na10 na11 na12 na13 na14 na15 na16 na17 na18 na19 na20 na21 na22 na23 na24 na25 na26 na27 na28 na29 na30 na31 na32 na33 na34 na35 nb nc hq9 s4 s9 so sx
      k_dflt (refine' for_list (vs := refsV gen c9) (fun vs l nn m₀ i m₁ led₁ => (∀ y, y ≠ Str.ofString "record" → m₁ y = m₀ y) ∧ ∃ D ok' f4 g4, D.map core = ((tagL gen c9).take i).map (fun x => core x.1) ∧ ok'.IsDictOf (PySem.intKind PySem.Challenge.rw_rh0068_01.row.prog w) (kvOf d4 ++ kvOf D) ∧
        NdA (inLed w.params l vs nn kd ok' { P9 with fT := f4, lT := g4 } (hk D) (lastK D) D ((tagL gen c9).drop i) X0) ∧ Disj (inLed w.params l vs nn kd ok' { P9 with fT := f4, lT := g4 } (hk D) (lastK D) D ((tagL gen c9).drop i) X0) own ∧
        led₁ = inLed w.params l vs nn kd ok' { P9 with fT := f4, lT := g4 } (hk D) (lastK D) D ((tagL gen c9).drop i) (X0 ++ own)) rfl kF kN2 mem_here ?xj9 ?xJ9 ?xturn9 ?xdone9)
      case xj9 => exact ⟨fun _ _ => rfl, [], ok1, f5, g5, rfl, (by rw [show kvOf d4 ++ kvOf [] = kvOf d4 from List.append_nil _]; exact hok4), ndi, dio, rfl⟩
      case xJ9 => rintro _ _ _ ⟨_, _, _, _, _, _, _, _, _, rfl⟩; exact mem_here
      case xturn9 =>
        intro s₃ i v m₂ led₂ h2 tk2 own2 hs8 hx hj8 hD2 F₂ N₂
        refine hidePost fun Q9 hQ9 => ?_
        obtain ⟨_, rfl⟩ := hs8
        refine hideG fun G9 hG9 => ?_
        obtain ⟨hm2, D, ok', f5, g5, hD1, hok, ndD, dD, rfl⟩ := hj8 <;> (refine hG9 ?_; clear hG9)
        rw [map_eq hm2] at F₂
        clear kF kN2 hm2
        obtain ⟨x, rfl, hx2, e1, e2⟩ := tag_at hx
        rw [e1] at ndD dD N₂ hD2
        have xmem := (tagL_mem gen c9 x (List.mem_of_getElem? hx2)).1
        have kx : 0 ≤ x.1.c.key := k9 _ xmem
        have hb : ∀ r ∈ (d4 : List RecA), r.c.key ≠ x.1.c.key := sw_base q4 hkeys xmem
        have hbl : (d4 : List RecA).length ≤ 19 := by have := core_len q4; have := tag_len gen c4; omega
        have kf : valueAt (kvOf d4 ++ kvOf D) x.1.c.key = none := kv_none2 hb (sw_fresh n9' e2 hD1)
        have kD := sw_key hD1 k9
        have ksz : (kvOf d4 ++ kvOf D).length ≤ sizeLine := by
          rw [List.length_append, kvOf_length, kvOf_length, core_len hD1]
          have := tag_len gen c9
          have h2 := List.length_take_le' i (tagL gen c9)
          have h3 : (1000 : Nat) ≤ sizeLine := by decide
          omega
        rcases snoc_cases D with rfl | ⟨D0, z, rfl⟩
        · obtain ⟨nD, cD⟩ := sub_split (A := [rObj x.1, rDict w.params x.1 x.2, (kd, ok'), pObj { P9 with fT := f5, lT := g5 }, pDict w.params { P9 with fT := f5, lT := g5 } (-1) (-1)]) sw_perm0 ndD dD hD2 sw_mem0
          replace N₂ := news_sub N₂ sw_in0
          have q1 := cD (rDict w.params x.1 x.2) (by simp)
          have q2 := cD (kd, ok') (by simp)
          have q3 := cD (pDict w.params { P9 with fT := f5, lT := g5 } (-1) (-1)) (by simp)
          refine hideG fun G9 hG9 => ?_
          refine ndTo (R := Ap) (fun _ _ h => h) nD ?_
          dsimp only [NdTo, NdOne]
          intro nD0 nD1 nD2 nD3 nD4 nD5 nD6 nD7 nD8 nD9
          refine hG9 ?_
          clear hG9
          dsimp only [rDict, rObj, pDict, pObj] at N₂ q1 q2 q3
          k_steps
          rename_i o2 kF3 kN3 kh3
          obtain ⟨t1, t2, t3, N₃⟩ : ∃ t1 t2 t3, News _ _ _ (rObj { x.1 with nxT := t1 } :: rDict w.params { x.1 with nxT := t1 } (-1) :: (kd, o2) :: pObj { P9 with fT := t2, lT := t3 } :: pDict w.params { P9 with fT := t2, lT := t3 } x.1.c.key x.1.c.key ::
              (((lq, listOf (refsV gen c9).toArray nq) :: (looseLed w.params ((tagL gen c9).drop (i + 1)) ++ X0)) ++ own ++ own2)) := by
            refine' ⟨_, _, _, ?kk⟩
            case kk => dsimp only [rObj, rDict, rEnt, pObj, pDict, pEnt]; exact kN3
          rw [stored_absent kf, List.append_assoc] at kh3
          refine hQ9 _ _ ?_
          refine FdPost.intro kF3 (news_sub N₃ sw_out0) ?_ ⟨fun y y1 => by simp only [y1, if_false], [{ x.1 with nxT := t1 }], o2, t2, t3, ?_, kh3, ?_, ?_, rfl⟩
          · exact hD2.addr (sw_addr w.params (D := []) (D' := [{ x.1 with nxT := t1 }]) (x := x) (R := (tagL gen c9).drop (i + 1)) rfl rfl rfl)
          · rw [e2, List.map_append, ← hD1]; rfl
          · exact ndD.addr (sw_addr w.params (D := []) (D' := [{ x.1 with nxT := t1 }]) (x := x) (R := (tagL gen c9).drop (i + 1)) rfl rfl rfl)
          · exact dD.addr (sw_addr w.params (D := []) (D' := [{ x.1 with nxT := t1 }]) (x := x) (R := (tagL gen c9).drop (i + 1)) rfl rfl rfl)
        · obtain ⟨X, hX1, hX2⟩ := chLed_snoc w.params z D0
          have ndD0 := ndD
          have dD0 := dD
          have hD20 := hD2
          dsimp only [inLed] at ndD dD N₂ hD2
          rw [hX1 z rfl, lastK_snoc] at ndD dD N₂ hD2
          have kz : 0 ≤ z.c.key := kD z (by simp)
          have kh0 : 0 ≤ hk (D0 ++ [z]) := by
            cases D0 with
            | nil => exact kz
            | cons a b => exact kD a (by simp)
          have kv : valueAt (kvOf d4 ++ kvOf (D0 ++ [z])) z.c.key = some (.ref z.a) := valueAt_mem hok (List.mem_append_right _ (kv_mem (by simp)))
          obtain ⟨nD, cD⟩ := sub_split (A := [rObj x.1, rDict w.params x.1 x.2, rObj z, rDict w.params z (-1), (kd, ok'), pObj { P9 with fT := f5, lT := g5 }, pDict w.params { P9 with fT := f5, lT := g5 } (hk (D0 ++ [z])) z.c.key]) sw_perm1 ndD dD hD2 sw_mem1
          replace N₂ := news_sub N₂ sw_in1
          have q1 := cD (rDict w.params x.1 x.2) (by simp)
          have q2 := cD (kd, ok') (by simp)
          have q3 := cD (pDict w.params { P9 with fT := f5, lT := g5 } (hk (D0 ++ [z])) z.c.key) (by simp)
          have q4 := cD (rDict w.params z (-1)) (by simp)
          refine hideG fun G9 hG9 => ?_
          refine ndTo (R := Ap) (fun _ _ h => h) nD ?_
          dsimp only [NdTo, NdOne]
          intro nD0 nD1 nD2 nD3 nD4 nD5 nD6 nD7 nD8 nD9 nD10 nD11 nD12 nD13 nD14 nD15 nD16 nD17 nD18 nD19 nD20
          refine hG9 ?_
          clear hG9
          dsimp only [rDict, rObj, pDict, pObj] at N₂ q1 q2 q3 q4
          k_steps
          rename_i o2 kF3 kN3 kh3
          obtain ⟨t1, t2, t3, t4, N₃⟩ : ∃ t1 t2 t3 t4, News _ _ _ (rObj { x.1 with nxT := t1 } :: rDict w.params { x.1 with nxT := t1 } (-1) :: rObj { z with nxT := t4 } :: rDict w.params { z with nxT := t4 } x.1.c.key :: (kd, o2) ::
              pObj { P9 with fT := t2, lT := t3 } :: pDict w.params { P9 with fT := t2, lT := t3 } (hk (D0 ++ [z])) x.1.c.key ::
              (((lq, listOf (refsV gen c9).toArray nq) :: (X ++ (looseLed w.params ((tagL gen c9).drop (i + 1)) ++ X0))) ++ own ++ own2)) := by
            refine' ⟨_, _, _, _, ?kk⟩
            case kk => dsimp only [rObj, rDict, rEnt, pObj, pDict, pEnt]; exact kN3
          rw [stored_absent kf] at kh3
          have hT := chLed_turn w.params D0 z { z with nxT := t4 } { x.1 with nxT := t1 } rfl rfl
          refine hQ9 _ _ ?_
          refine FdPost.intro (led' := inLed w.params lq (refsV gen c9) nq kd o2 { P9 with fT := t2, lT := t3 } (hk (D0 ++ [{ z with nxT := t4 }, { x.1 with nxT := t1 }])) (lastK (D0 ++ [{ z with nxT := t4 }, { x.1 with nxT := t1 }])) (D0 ++ [{ z with nxT := t4 }, { x.1 with nxT := t1 }]) ((tagL gen c9).drop (i + 1)) (X0 ++ own)) kF3 ?_ ?_ ⟨fun y y1 => by simp only [y1, if_false], D0 ++ [{ z with nxT := t4 }, { x.1 with nxT := t1 }], o2, t2, t3, ?_, ?_, ?_, ?_, rfl⟩
          · dsimp only [inLed]
            rw [hX2 { z with nxT := t4 } { x.1 with nxT := t1 } rfl, hk_turn D0 z { z with nxT := t4 } { x.1 with nxT := t1 } rfl, lastK_turn]
            exact news_sub N₃ sw_out1
          · exact hD20.addr (sw_addr w.params (x := x) (R := (tagL gen c9).drop (i + 1)) hT rfl rfl)
          · have e8 : List.map core (D0 ++ [{ z with nxT := t4 }, { x.1 with nxT := t1 }]) = List.map core (D0 ++ [z]) ++ [core x.1] := by rw [List.map_append, List.map_append, List.append_assoc]; rfl
            rw [e8, hD1, e2, List.map_append]; rfl
          · have e7 : kvOf d4 ++ kvOf (D0 ++ [z]) ++ [(x.1.c.key, Value.ref x.1.a)] = kvOf d4 ++ kvOf (D0 ++ [{ z with nxT := t4 }, { x.1 with nxT := t1 }]) := by
              rw [kvOf_append, kvOf_append, List.append_assoc, List.append_assoc]; rfl
            rw [e7] at kh3
            exact kh3
          · exact ndD0.addr (sw_addr w.params (x := x) (R := (tagL gen c9).drop (i + 1)) hT rfl rfl)
          · exact dD0.addr (sw_addr w.params (x := x) (R := (tagL gen c9).drop (i + 1)) hT rfl rfl)
      case xdone9 =>
        intro s₃ m₂ led₂ h2 tk2 hs8 hj8 F₂ N₂
        refine hideG fun G9 hG9 => ?_
        obtain ⟨_, rfl⟩ := hs8
        obtain ⟨hm2, D, ok', f5, g5, hD1, hok, ndD, dD, rfl⟩ := hj8 <;> (refine hG9 ?_; clear hG9)
        rw [(tag_all gen c9).1] at N₂ ndD dD
        rw [(tag_all gen c9).2] at hD1
        subst hX0
        clear kF kN2
        k_steps
        refine hQ9 _ _ ?_
        refine FdPost.intro (led' := swLed w.params S nr gen od pd po kd ok' Q4 (hk d4) (lastK d4) { P9 with fT := f5, lT := g5 } (hk D) (lastK D) (chLed w.params d4 ++ chLed w.params D)) F₂ (news_sub N₂ sw_back9o) (dD.left sw_back9) ⟨fun y y1 y2 => ?_, ndA_sub (List.sublist_cons_self _ _) (ndA_perm sw_back9p ndD), ?_⟩
        · have y3 := sw_three y2
          rw [hm2 y y3.2.2]
          simp only [y1, y2, y3, if_false, Bool.false_eq_true]
        · subst hQ4; exact .inr (.inr ⟨rfl, d4, D, ok', f6, g6, f5, g5, q4, hD1, hok, rfl⟩)
    · obtain ⟨rfl, _⟩ := h
      simp at hx
  case done =>
    intro s₂ m₁ led₁ h tk hs8 hj8 F₁ N₁
    refine hideG fun G9 hG9 => ?_
    obtain ⟨_, rfl⟩ := hs8
    obtain ⟨hm, ndl, h | h | h⟩ := hj8 <;> (refine hG9 ?_; clear hG9)
    · exact absurd h.1 (by simp)
    · exact absurd h.1 (by simp)
    · obtain ⟨_, d4, d9, ok', f4, g4, f9, g9, q4, q9, hok, rfl⟩ := h
      rw [map_eq4 hm] at F₁
      clear kF kN hm
      obtain ⟨na, nb, nc⟩ := ndA_append (a := [(kd, ok'), sObj S, sDict w.params S nr gen, (S.rd, od), (pd, po), pObj { P4 with fT := f4, lT := g4 }, pDict w.params { P4 with fT := f4, lT := g4 } (hk d4) (lastK d4), pObj { P9 with fT := f9, lT := g9 }, pDict w.params { P9 with fT := f9, lT := g9 } (hk d9) (lastK d9)]) ndl
      have q1 : ∀ p ∈ chLed w.params d4 ++ chLed w.params d9, p.1 ≠ S.d := fun p hp => (nc (sDict w.params S nr gen) (by simp) p hp).symm
      have zz : (kvOf d4 ++ kvOf d9).length = (tagL gen c4).length + (tagL gen c9).length := by
        rw [List.length_append, kvOf_length, kvOf_length, core_len q4, core_len q9]
      have z2 : (kvOf d4 ++ kvOf d9).length ≤ 1000 := by
        have := tag_len gen c4
        have := tag_len gen c9
        omega
      have z3 : kvs.length ≤ 16777216 := by omega
      have z4 : (kvOf d4 ++ kvOf d9).length ≤ 16777216 := by omega
      refine hideG fun G9 hG9 => ?_
      refine ndTo (R := Ap) (fun _ _ h => h) na ?_
      dsimp only [NdTo, NdOne]
      intro na0 na1 na2 na3 na4 na5 na6 na7 na8 na9 na10 na11 na12 na13 na14 na15 na16 na17 na18 na19 na20 na21 na22 na23 na24 na25 na26 na27 na28 na29 na30 na31 na32 na33 na34 na35
      refine hG9 ?_
      clear hG9
      dsimp only [swLed, sObj, sDict, pObj, pDict] at N₁ q1
      k_steps
      refine Halt.to ?_
      k_dflt (refine' kda_len (knd := PySem.intKind _ _) ?aN ?am ?ad ?alo ?az ?_)
      (case aN => k_asm)
      (case am => k_mem)
      (case ad => with_reducible assumption)
      (case alo => with_reducible assumption)
      (case az => with_reducible assumption)
      k_steps
      refine Halt.to ?_
      k_dflt (refine' kda_len (knd := PySem.intKind _ _) ?bN ?bm ?bd ?blo ?bz ?_)
      (case bN => k_asm)
      (case bm => k_mem)
      (case bd => with_reducible assumption)
      (case blo => with_reducible assumption)
      (case bz => with_reducible assumption)
      k_steps
      (try k_unfold)
      (try dsimp only)
      refine' ⟨_, _, _, ?k1, ?k2, ?_⟩
      (case k1 => k_asm)
      (case k2 => k_asm)
      intro _ _ _
      (try dsimp only)
      rename_i kF kN kD
      refine' ret _ ([sObj S, sDict w.params { S with rd := kd } nr gen, (kd, ok'), (pd, po), pObj P4, pDict w.params { P4 with fT := f4, lT := g4 } (hk d4) (lastK d4), pObj P9, pDict w.params { P9 with fT := f9, lT := g9 } (hk d9) (lastK d9)] ++ (chLed w.params d4 ++ chLed w.params d9)) _ _ kF ?rN ?rD ⟨_, d4, d9, kd, ok', S.t1, f4, g4, f9, g9, ?rv, q4, q9, ?rlo, hok, rfl, ?rnd⟩
      case rN => exact news_sub kN (sw_finr sw_fin)
      case rD => exact kD.left sw_fin
      case rv => rw [zz]; rfl
      case rlo => exact klo
      case rnd => exact (ndA_perm sw_finP (ndA_sub sw_finS ndl)).addr rfl

end
section

theorem Meets.frame {w : World} {f : Addr} {args : List Value} {need : Nat} {pre X : List (Addr × Obj)} {post : Value → List (Addr × Obj) → Prop} (C : Meets w f args need pre post) (hX : Disj pre X) :
    Meets w f args need (pre ++ X) (fun v tl => ∃ tl', post v tl' ∧ tl = tl' ++ X ∧ Disj tl' X) := by
  intro dp un gd cn cs a ccd cl outer A₀ base h₀ L m rest s mean mg mb Q E B F K N D T hk hd hu ret
  refine C dp un gd cn cs a ccd cl outer A₀ base h₀ L m (X ++ rest) s mean mg mb Q E B F K (by rw [← List.append_assoc]; exact N) ?_ T hk hd hu fun r tl h' tk' F' N' D' hp => ret r (tl ++ X) h' tk' F' (by rw [List.append_assoc]; exact N') ?_ ⟨tl, hp, rfl, fun p hp q hq => D' p hp q (List.mem_append_left _ hq)⟩
  · intro p hp q hq
    rcases List.mem_append.mp hq with hq | hq
    · exact hX p hp q hq
    · exact D p (List.mem_append_left _ hp) q hq
  · intro p hp q hq
    rcases List.mem_append.mp hp with hp | hp
    · exact D' p hp q (List.mem_append_right _ hq)
    · exact D p (List.mem_append_right _ hp) q hq
theorem Meets.conv {w : World} {f : Addr} {args : List Value} {need : Nat} {pre pre' : List (Addr × Obj)} {post post' : Value → List (Addr × Obj) → Prop} (C : Meets w f args need pre post)
    (h1 : ∀ p ∈ pre, p ∈ pre') (h2 : ∀ v tl, post v tl → ∃ tl', (∀ p ∈ tl', p ∈ tl) ∧ post' v tl') : Meets w f args need pre' post' := by
  intro dp un gd cn cs a ccd cl outer A₀ base h₀ L m rest s mean mg mb Q E B F K N D T hk hd hu ret
  refine C dp un gd cn cs a ccd cl outer A₀ base h₀ L m rest s mean mg mb Q E B F K (news_sub N fun p hp => ?_) (D.left h1) T hk hd hu fun r tl h' tk' F' N' D' hp => ?_
  · exact (List.mem_append.mp hp).elim (fun h => List.mem_append_left _ (h1 p h)) (List.mem_append_right _)
  · obtain ⟨tl', hs, hp'⟩ := h2 r tl hp
    exact ret r tl' h' tk' F' (news_sub N' fun p hq => (List.mem_append.mp hq).elim (fun h => List.mem_append_left _ (hs p h)) (List.mem_append_right _)) (D'.left hs) hp'
theorem ndA_join {a b : List (Addr × Obj)} (ha : NdA a) (hb : NdA b) (d : Disj a b) : NdA (a ++ b) := ndA_of ha hb d
theorem ndA_disj {a b : List (Addr × Obj)} (h : NdA (a ++ b)) : Disj a b := (ndA_append h).2.2

section
variable {α : Type} {s sd rd p pd z zd r rdd : α} {X : List α}
theorem ap_perm1 : ([s, sd, rd, p, pd] ++ (X ++ [z, zd])).Perm ([s, sd, rd, p, pd, z, zd] ++ X) := by
  classical
  rw [List.perm_iff_count]; intro y
  simp only [List.count_cons, List.count_append, List.count_nil]; omega
theorem ap_perm2 : ([r, rdd, s, sd, rd, p, pd, z, zd] ++ X).Perm ([s, sd, rd, p, pd] ++ (X ++ [z, zd, r, rdd])) := by
  classical
  rw [List.perm_iff_count]; intro y
  simp only [List.count_cons, List.count_append, List.count_nil]; omega
theorem ap_perm3 : ([r, rdd, s, sd, rd, p, pd] ++ X).Perm ([s, sd, rd, p, pd] ++ (r :: rdd :: X)) := by
  classical
  rw [List.perm_iff_count]; intro y
  simp only [List.count_cons, List.count_append, List.count_nil]; omega
end

/-- a store with one of its procedures -/
noncomputable abbrev oneLed (P : Params) (S : StA) (nr gen : Int) (od : Obj) (p : PrA) (c : List RecA) : List (Addr × Obj) := [sObj S, sDict P S nr gen, (S.rd, od), pObj p, pDict P p (hk c) (lastK c)] ++ chLed P c
/-- what a new record brings -/
noncomputable def NewPost (w : World) (S : StA) (nr gen : Int) (kvs : List (Int × Value)) (P : PrA) (tm ik : Addr) (e : Int) (tD wD : Dat) (new : RecA → List RecA → Prop) (v : Value) (tl : List (Addr × Obj)) : Prop :=
  ∃ (r : RecA) (c' : List RecA) (nx : Int) (nt gt ft lt : Tok) (od' : Obj), v = .ref r.a ∧ r.c = ⟨nr, P.fn, gen + 1, -1, e, tD, wD⟩ ∧ r.tm = tm ∧ r.ik = ik ∧ new r c' ∧ rObj r ∈ tl ∧ rDict w.params r nx ∈ tl ∧
    od'.IsDictOf (PySem.intKind PySem.Challenge.rw_rh0068_01.row.prog w) (stored kvs nr (.ref r.a)) ∧
    tl = oneLed w.params { S with nrT := nt, genT := gt } (nr + 1) (gen + 1) od' { P with fT := ft, lT := lt } c' ∧ NdA tl
theorem append_meets (w : World) (S : StA) (nr gen : Int) (od : Obj) (kvs : List (Int × Value)) (P : PrA) (c : List RecA) (e : Int) (tm ik : Addr) (et : Tok) (tD wD : Dat)
    (hod : od.IsDictOf (PySem.intKind PySem.Challenge.rw_rh0068_01.row.prog w) kvs) (hsz : kvs.length ≤ sizeLine) (hv : ∀ r ∈ c, valueAt kvs r.c.key = some (.ref r.a)) (hpos : ∀ r ∈ c, 0 ≤ r.c.key) (hnr : ∀ r ∈ c, r.c.key ≠ nr)
    (nd : NdA (oneLed w.params S nr gen od P c)) :
    Meets w 106 [.ref S.a, .ref P.a, .ref tm, .ref ik, .int e et] 40 (oneLed w.params S nr gen od P c) (NewPost w S nr gen kvs P tm ik e tD wD fun r c' => c'.map core = c.map core ++ [core r]) := by
  rcases snoc_cases c with rfl | ⟨D0, z, rfl⟩
  · refine (append_nil_meets w S nr gen od kvs P (-1) e tm ik et tD wD hod hsz nd).conv (fun p hp => hp) ?_
    rintro v tl ⟨r, nt, gt, ft, lt, od', rfl, hr, h1, h2, hd', rfl, nt'⟩
    have hkr : r.c.key = nr := by rw [hr]
    refine ⟨oneLed w.params { S with nrT := nt, genT := gt } (nr + 1) (gen + 1) od' { P with fT := ft, lT := lt } [r], ?_, r, [r], -1, nt, gt, ft, lt, od', rfl, hr, h1, h2, rfl, ?_, ?_, hd', rfl, ?_⟩
    · intro p hp
      have := (ap_perm3 (X := [])).symm.subset hp
      rw [show hk [r] = nr from hkr, show lastK [r] = nr from hkr] at this
      exact this
    · exact List.mem_append_right _ (.head _)
    · exact List.mem_append_right _ (.tail _ (.head _))
    · exact (ndA_perm (ap_perm3 (X := [])) nt').addr rfl
  · obtain ⟨X, hX1, hX2⟩ := chLed_snoc w.params z D0
    unfold oneLed at nd ⊢
    rw [hX1 z rfl, lastK_snoc] at nd ⊢
    have nd2 := ndA_perm ap_perm1 nd
    have hf : 0 ≤ hk (D0 ++ [z]) := by
      cases D0 with
      | nil => exact hpos z (by simp)
      | cons a b => exact hpos a (by simp)
    refine ((append_last_meets w S nr gen od kvs P z (hk (D0 ++ [z])) e tm ik et tD wD hod hsz hf (hv z (by simp)) (hnr z (by simp)) (ndA_append nd2).1).frame (ndA_disj nd2)).conv ap_perm1.symm.subset ?_
    rintro v tl ⟨tl', ⟨r, nt, gt, lt, zt, od', rfl, hr, h1, h2, hd', rfl, nt'⟩, rfl, hdj⟩
    have hkr : r.c.key = nr := by rw [hr]
    have e1 : oneLed w.params { S with nrT := nt, genT := gt } (nr + 1) (gen + 1) od' { P with fT := P.fT, lT := lt } (D0 ++ [{ z with nxT := zt }, r]) =
        [sObj S, sDict w.params { S with nrT := nt, genT := gt } (nr + 1) (gen + 1), (S.rd, od'), pObj P, pDict w.params { P with lT := lt } (hk (D0 ++ [z])) nr] ++ (X ++ [rObj z, rDict w.params { z with nxT := zt } nr, rObj r, rDict w.params r (-1)]) := by
      unfold oneLed
      rw [hX2 { z with nxT := zt } r rfl, hk_turn D0 z { z with nxT := zt } r rfl, lastK_turn, hkr]
    refine ⟨_, ?_, r, D0 ++ [{ z with nxT := zt }, r], -1, nt, gt, P.fT, lt, od', rfl, hr, h1, h2, ?_, ?_, ?_, hd', rfl, ?_⟩
    · rw [e1]; exact ap_perm2.symm.subset
    · show List.map core (D0 ++ [{ z with nxT := zt }, r]) = List.map core (D0 ++ [z]) ++ [core r]
      rw [List.map_append, List.map_append, List.append_assoc]; rfl
    · rw [e1]; simp
    · rw [e1]; simp
    · rw [e1]; exact ndA_perm ap_perm2 (ndA_join nt' (ndA_append nd2).2.1 hdj)
theorem prepend_meets (w : World) (S : StA) (nr gen : Int) (od : Obj) (kvs : List (Int × Value)) (P : PrA) (c : List RecA) (e : Int) (tm ik : Addr) (et : Tok) (tD wD : Dat)
    (hod : od.IsDictOf (PySem.intKind PySem.Challenge.rw_rh0068_01.row.prog w) kvs) (hsz : kvs.length ≤ sizeLine) (hpos : ∀ r ∈ c, 0 ≤ r.c.key)
    (nd : NdA (oneLed w.params S nr gen od P c)) :
    Meets w 113 [.ref S.a, .ref P.a, .ref tm, .ref ik, .int e et] 40 (oneLed w.params S nr gen od P c) (NewPost w S nr gen kvs P tm ik e tD wD fun r c' => c' = r :: c) := by
  cases c with
  | nil =>
    refine (prepend_nil_meets w S nr gen od kvs P (-1) e tm ik et tD wD hod hsz nd).conv (fun p hp => hp) ?_
    rintro v tl ⟨r, nt, gt, ft, lt, od', rfl, hr, h1, h2, hd', rfl, nt'⟩
    have hkr : r.c.key = nr := by rw [hr]
    refine ⟨oneLed w.params { S with nrT := nt, genT := gt } (nr + 1) (gen + 1) od' { P with fT := ft, lT := lt } [r], ?_, r, [r], -1, nt, gt, ft, lt, od', rfl, hr, h1, h2, rfl, ?_, ?_, hd', rfl, ?_⟩
    · intro p hp
      have := (ap_perm3 (X := [])).symm.subset hp
      rw [show hk [r] = nr from hkr, show lastK [r] = nr from hkr] at this
      exact this
    · exact List.mem_append_right _ (.head _)
    · exact List.mem_append_right _ (.tail _ (.head _))
    · exact (ndA_perm (ap_perm3 (X := [])) nt').addr rfl
  | cons x xs =>
    have hf : 0 ≤ hk (x :: xs) := hpos x (.head _)
    refine ((prepend_cons_meets w S nr gen od kvs P (hk (x :: xs)) (lastK (x :: xs)) e tm ik et tD wD hod hsz hf (ndA_append nd).1).frame (ndA_disj nd)).conv (fun p hp => hp) ?_
    rintro v tl ⟨tl', ⟨r, nt, gt, ft, od', rfl, hr, h1, h2, hd', rfl, nt'⟩, rfl, hdj⟩
    have hkr : r.c.key = nr := by rw [hr]
    have e1 : oneLed w.params { S with nrT := nt, genT := gt } (nr + 1) (gen + 1) od' { P with fT := ft, lT := P.lT } (r :: x :: xs) =
        [sObj S, sDict w.params { S with nrT := nt, genT := gt } (nr + 1) (gen + 1), (S.rd, od'), pObj P, pDict w.params { P with fT := ft } nr (lastK (x :: xs))] ++ (rObj r :: rDict w.params r (hk (x :: xs)) :: chLed w.params (x :: xs)) := by
      unfold oneLed
      rw [show hk (r :: x :: xs) = nr from hkr]; rfl
    refine ⟨_, ?_, r, r :: x :: xs, hk (x :: xs), nt, gt, ft, P.lT, od', rfl, hr, h1, h2, rfl, ?_, ?_, hd', rfl, ?_⟩
    · rw [e1]; exact ap_perm3.symm.subset
    · rw [e1]; simp
    · rw [e1]; simp
    · rw [e1]; exact ndA_perm ap_perm3 (ndA_join nt' (ndA_append nd).2.1 hdj)

end
section
local macro_rules | `(tactic| walk_at "m_pad") => `(tactic| skip)

section
theorem done_append_meets (w : World) (S : StA) (nr gen : Int) (od : Obj) (kvs : List (Int × Value)) (P : PrA) (c : List RecA) (deed number : Int) (dt ut : Tok) (ik : Addr) (wD : Dat) (hdeed : deed < 2)
    (hod : od.IsDictOf (PySem.intKind PySem.Challenge.rw_rh0068_01.row.prog w) kvs) (hsz : kvs.length ≤ sizeLine) (hv : ∀ r ∈ c, valueAt kvs r.c.key = some (.ref r.a)) (hnr : ∀ r ∈ c, r.c.key ≠ nr) (hpos : ∀ r ∈ c, 0 ≤ r.c.key)
    (nd : NdA (oneLed w.params S nr gen od P c)) :
    Meets w 197 [.ref S.a, .ref P.a, .int deed dt, .int number ut, .ref ik] 60 (oneLed w.params S nr gen od P c)
      (fun v tl => ∃ tm to t v' tl', v = .int nr t ∧ DatIn [(tm, to)] (.ref tm) (.tuple [.str (Str.ofString "i"), .int (50 - number)]) ∧ tl = tl' ++ [(tm, to)] ∧ NdA tl ∧ NewPost w S nr gen kvs P tm ik (100 + 3 * number) (.tuple [.str (Str.ofString "i"), .int (50 - number)]) wD (fun r c' => c'.map core = c.map core ++ [core r]) v' tl') := by
  w_on
  unfold Meets
  k_fill
  intro dp un gd cn cs a ccd cl outer A₀ base h₀ L m rest s mean mg mb Q E B F X N D T hk9 hdp hun ret
  refine wpAny_call ?_
  k_dflt (refine' code_frame ?k1 ?k2 ?k3 ?k4 ?kD ?k5 ?kA ?kF ?kK ?k6 ?k7 ?k8 ?k9 ?kB ?_ ?c2 ?c3 ?c4 ?c5; (case kA => exact rfl); (case kF => exact rfl); (case kK => assumption); (case k1 => k_asm); (case k2 => k_asm); (case k3 => k_asm); (case k4 => k_asm); (case kD => k_asm); (case k5 => k_asm); (case k6 => k_is); (case k7 => k_is); (case k8 => ktr_room); (case k9 => exact BindsTo.of_eq rfl); (case c5 => decide); (case kB => exact locs rfl); (case c2 => exact rfl); (case c3 => exact rfl); (case c4 => exact rfl); k_whole)
  intro _ _ _ _ _ _ _ _ _ l1
  (try k_lt l1)
  (try dsimp only)
  (try k_fold)
  (rename News _ _ _ _ => kN9)
  dsimp only [oneLed, List.cons_append, List.nil_append, sObj, sDict, pObj, pDict] at kN9
  k_steps
  refine Halt.to ?_
  rename_i tm _ kF kN kl
  have hlt : ∀ p ∈ oneLed w.params S nr gen od P c, p.1 ≠ tm := allLt_ne (l := oneLed w.params S nr gen od P c) kl
  obtain ⟨ta, tb, kN2⟩ : ∃ ta tb, News _ _ _ ((tm, ({ cls := .type "tuple", data := .seq [Value.str (Str.ofString "i") ta, .int (50 - number) tb].toArray 0 } : Obj)) :: oneLed w.params S nr gen od P c) := ⟨_, _, kN⟩
  clear kN
  k_dflt (refine' Meets.use (rest := [(tm, ({ cls := .type "tuple", data := .seq [Value.str (Str.ofString "i") ta, .int (50 - number) tb].toArray 0 } : Obj))]) ?gB kF ?gX (news_sub kN2 ?gN) ?gD ?gT ?gk (append_meets w S nr gen od kvs P c (100 + 3 * number) tm ik _ (.tuple [.str (Str.ofString "i"), .int (50 - number)]) wD hod hsz hv hpos hnr nd) ?gd ?gu ?_)
  (case gB => k_asm)
  (case gX => k_asm)
  (case gN => exact fun p hp => (List.mem_append.mp hp).elim (fun h => .tail _ h) fun h => by rw [List.mem_singleton.mp h]; exact .head _)
  (case gD => exact fun p hp q hq => by rw [List.mem_singleton.mp hq]; exact hlt p hp)
  (case gT => k_asm)
  (case gk => first | exact rfl | assumption)
  (case gd => ktr_room)
  (case gu => ktr_units)
  k_whole
  intro r9 tl9 h9 tk9 F9 N9 D9 hp9
  obtain ⟨r, c', nx, xt, gt, ft, lt, od', rfl, hr, h1, h2, hnew, hm1, hm2, hd', htl, hnd⟩ := hp9
  clear kF kN2
  replace N9 := news_sub N9 (l' := (tm, ({ cls := .type "tuple", data := .seq [Value.str (Str.ofString "i") ta, .int (50 - number) tb].toArray 0 } : Obj)) :: tl9) (fun p hp => by rcases List.mem_cons.mp hp with rfl | hp; exact List.mem_append_right _ (.head _); exact List.mem_append_left _ hp)
  try dsimp only
  k_steps
  (try k_unfold)
  (try dsimp only)
  refine' ⟨_, _, _, ?k1, ?k2, ?_⟩
  (case k1 => k_asm)
  (case k2 => k_asm)
  intro _ _ _
  (try dsimp only)
  rename_i kF3 kN3 kD3
  refine' ret _ (tl9 ++ [(tm, ({ cls := .type "tuple", data := .seq [Value.str (Str.ofString "i") ta, .int (50 - number) tb].toArray 0 } : Obj))]) _ _ kF3 (news_sub kN3 ?rs) (kD3.left ?rd) ⟨tm, _, r.keyT, _, tl9, ?rv, .tuple (n := 0) (.head _) (.cons (.str _ _) (.cons (.int _ _) .nil)), rfl, ?rn, r, c', nx, xt, gt, ft, lt, od', rfl, hr, h1, h2, hnew, hm1, hm2, hd', htl, hnd⟩
  case rs => exact fun p hp => (List.mem_append.mp hp).elim (fun h => (List.mem_append.mp h).elim (fun h => List.mem_append_left _ (.tail _ h)) fun h => by rw [List.mem_singleton.mp h]; exact List.mem_append_left _ (.head _)) (List.mem_append_right _)
  case rd => exact fun p hp => (List.mem_append.mp hp).elim (fun h => .tail _ h) fun h => by rw [List.mem_singleton.mp h]; exact .head _
  case rv => rw [hr]
  case rn => exact ndA_join hnd (by simp [NdA]) D9
theorem done_prepend_meets (w : World) (S : StA) (nr gen : Int) (od : Obj) (kvs : List (Int × Value)) (P : PrA) (c : List RecA) (deed number : Int) (dt ut : Tok) (ik : Addr) (wD : Dat) (hdeed : deed = 2)
    (hod : od.IsDictOf (PySem.intKind PySem.Challenge.rw_rh0068_01.row.prog w) kvs) (hsz : kvs.length ≤ sizeLine) (hpos : ∀ r ∈ c, 0 ≤ r.c.key)
    (nd : NdA (oneLed w.params S nr gen od P c)) :
    Meets w 197 [.ref S.a, .ref P.a, .int deed dt, .int number ut, .ref ik] 60 (oneLed w.params S nr gen od P c)
      (fun v tl => ∃ tm to t v' tl', v = .int nr t ∧ DatIn [(tm, to)] (.ref tm) (.tuple [.str (Str.ofString "a"), .int (number)]) ∧ tl = tl' ++ [(tm, to)] ∧ NdA tl ∧ NewPost w S nr gen kvs P tm ik (200 + number) (.tuple [.str (Str.ofString "a"), .int (number)]) wD (fun r c' => c' = r :: c) v' tl') := by
  subst hdeed; w_on
  unfold Meets
  k_fill
  intro dp un gd cn cs a ccd cl outer A₀ base h₀ L m rest s mean mg mb Q E B F X N D T hk9 hdp hun ret
  refine wpAny_call ?_
  k_dflt (refine' code_frame ?k1 ?k2 ?k3 ?k4 ?kD ?k5 ?kA ?kF ?kK ?k6 ?k7 ?k8 ?k9 ?kB ?_ ?c2 ?c3 ?c4 ?c5; (case kA => exact rfl); (case kF => exact rfl); (case kK => assumption); (case k1 => k_asm); (case k2 => k_asm); (case k3 => k_asm); (case k4 => k_asm); (case kD => k_asm); (case k5 => k_asm); (case k6 => k_is); (case k7 => k_is); (case k8 => ktr_room); (case k9 => exact BindsTo.of_eq rfl); (case c5 => decide); (case kB => exact locs rfl); (case c2 => exact rfl); (case c3 => exact rfl); (case c4 => exact rfl); k_whole)
  intro _ _ _ _ _ _ _ _ _ l1
  (try k_lt l1)
  (try dsimp only)
  (try k_fold)
  (rename News _ _ _ _ => kN9)
  dsimp only [oneLed, List.cons_append, List.nil_append, sObj, sDict, pObj, pDict] at kN9
  k_steps
  refine Halt.to ?_
  rename_i tm _ kF kN kl
  have hlt : ∀ p ∈ oneLed w.params S nr gen od P c, p.1 ≠ tm := allLt_ne (l := oneLed w.params S nr gen od P c) kl
  obtain ⟨ta, tb, kN2⟩ : ∃ ta tb, News _ _ _ ((tm, ({ cls := .type "tuple", data := .seq [Value.str (Str.ofString "a") ta, .int (number) tb].toArray 0 } : Obj)) :: oneLed w.params S nr gen od P c) := ⟨_, _, kN⟩
  clear kN
  k_dflt (refine' Meets.use (rest := [(tm, ({ cls := .type "tuple", data := .seq [Value.str (Str.ofString "a") ta, .int (number) tb].toArray 0 } : Obj))]) ?gB kF ?gX (news_sub kN2 ?gN) ?gD ?gT ?gk (prepend_meets w S nr gen od kvs P c (200 + number) tm ik _ (.tuple [.str (Str.ofString "a"), .int (number)]) wD hod hsz hpos nd) ?gd ?gu ?_)
  (case gB => k_asm)
  (case gX => k_asm)
  (case gN => exact fun p hp => (List.mem_append.mp hp).elim (fun h => .tail _ h) fun h => by rw [List.mem_singleton.mp h]; exact .head _)
  (case gD => exact fun p hp q hq => by rw [List.mem_singleton.mp hq]; exact hlt p hp)
  (case gT => k_asm)
  (case gk => first | exact rfl | assumption)
  (case gd => ktr_room)
  (case gu => ktr_units)
  k_whole
  intro r9 tl9 h9 tk9 F9 N9 D9 hp9
  obtain ⟨r, c', nx, xt, gt, ft, lt, od', rfl, hr, h1, h2, hnew, hm1, hm2, hd', htl, hnd⟩ := hp9
  clear kF kN2
  replace N9 := news_sub N9 (l' := (tm, ({ cls := .type "tuple", data := .seq [Value.str (Str.ofString "a") ta, .int (number) tb].toArray 0 } : Obj)) :: tl9) (fun p hp => by rcases List.mem_cons.mp hp with rfl | hp; exact List.mem_append_right _ (.head _); exact List.mem_append_left _ hp)
  try dsimp only
  k_steps
  (try k_unfold)
  (try dsimp only)
  refine' ⟨_, _, _, ?k1, ?k2, ?_⟩
  (case k1 => k_asm)
  (case k2 => k_asm)
  intro _ _ _
  (try dsimp only)
  rename_i kF3 kN3 kD3
  refine' ret _ (tl9 ++ [(tm, ({ cls := .type "tuple", data := .seq [Value.str (Str.ofString "a") ta, .int (number) tb].toArray 0 } : Obj))]) _ _ kF3 (news_sub kN3 ?rs) (kD3.left ?rd) ⟨tm, _, r.keyT, _, tl9, ?rv, .tuple (n := 0) (.head _) (.cons (.str _ _) (.cons (.int _ _) .nil)), rfl, ?rn, r, c', nx, xt, gt, ft, lt, od', rfl, hr, h1, h2, hnew, hm1, hm2, hd', htl, hnd⟩
  case rs => exact fun p hp => (List.mem_append.mp hp).elim (fun h => (List.mem_append.mp h).elim (fun h => List.mem_append_left _ (.tail _ h)) fun h => by rw [List.mem_singleton.mp h]; exact List.mem_append_left _ (.head _)) (List.mem_append_right _)
  case rd => exact fun p hp => (List.mem_append.mp hp).elim (fun h => .tail _ h) fun h => by rw [List.mem_singleton.mp h]; exact .head _
  case rv => rw [hr]
  case rn => exact ndA_join hnd (by simp [NdA]) D9
theorem done_miss_meets (w : World) (led : List (Addr × Obj)) (S : StA) (nr gen : Int) (od : Obj) (kvs : List (Int × Value)) (number : Int) (dt ut : Tok) (pa ik : Addr)
    (hod : od.IsDictOf (PySem.intKind PySem.Challenge.rw_rh0068_01.row.prog w) kvs) (lo : (S.rd == sysModules) = false)  (h1 : sObj S ∈ led) (h2 : sDict w.params S nr gen ∈ led) (h3 : (S.rd, od) ∈ led) (hk0 : valueAt kvs number = none) :
    Meets w 197 [.ref S.a, .ref pa, .int 3 dt, .int number ut, .ref ik] 40 led (fun v tl => v = .bool false ∧ tl = led) := by
  w_on
  unfold Meets
  k_fill
  intro dp un gd cn cs a ccd cl outer A₀ base h₀ L m rest s mean mg mb Q E B F X N D T hk9 hdp hun ret
  refine wpAny_call ?_
  k_dflt (refine' code_frame ?k1 ?k2 ?k3 ?k4 ?kD ?k5 ?kA ?kF ?kK ?k6 ?k7 ?k8 ?k9 ?kB ?_ ?c2 ?c3 ?c4 ?c5; (case kA => exact rfl); (case kF => exact rfl); (case kK => assumption); (case k1 => k_asm); (case k2 => k_asm); (case k3 => k_asm); (case k4 => k_asm); (case kD => k_asm); (case k5 => k_asm); (case k6 => k_is); (case k7 => k_is); (case k8 => ktr_room); (case k9 => exact BindsTo.of_eq rfl); (case c5 => decide); (case kB => exact locs rfl); (case c2 => exact rfl); (case c3 => exact rfl); (case c4 => exact rfl); k_whole)
  intro _ _ _ _ _ _ _ _ _ l1
  (try k_lt l1)
  (try dsimp only)
  (try k_fold)
  k_steps
  refine Halt.to ?_
  (rename Fr _ _ _ _ => kF); (rename News _ _ _ _ => kN)
  k_dflt (refine' Meets.use0 ?gB kF ?gX ?gN ?gT ?gk (erase_miss_meets w led S nr gen od kvs number _ h1 h2 h3 hod lo hk0) ?gd ?gu ?_)
  (case gB => k_asm)
  (case gX => k_asm)
  (case gN => k_asm)
  (case gT => k_asm)
  (case gk => first | exact rfl | assumption)
  (case gd => ktr_room)
  (case gu => ktr_units)
  k_whole
  intro r9 tl9 h9 tk9 F9 N9 hp9
  obtain ⟨e9, e9'⟩ := hp9
  subst e9
  clear kF kN
  try dsimp only
  k_steps
  (try k_unfold)
  (try dsimp only)
  refine' ⟨_, _, _, ?k1, ?k2, ?_⟩
  (case k1 => k_asm)
  (case k2 => k_asm)
  intro _ _ _
  (try dsimp only)
  exact ret _ _ _ _ (by assumption) (by assumption) (by assumption) ⟨rfl, e9'⟩
theorem done_dead_meets (w : World) (led : List (Addr × Obj)) (r : RecA) (nx : Int) (S : StA) (nr gen : Int) (od : Obj) (kvs : List (Int × Value)) (number : Int) (dt ut : Tok) (pa ik : Addr)
    (hod : od.IsDictOf (PySem.intKind PySem.Challenge.rw_rh0068_01.row.prog w) kvs) (lo : (S.rd == sysModules) = false)  (h1 : sObj S ∈ led) (h2 : sDict w.params S nr gen ∈ led) (h3 : (S.rd, od) ∈ led) (hk0 : valueAt kvs number = some (.ref r.a)) (r1 : rObj r ∈ led) (r2 : rDict w.params r nx ∈ led) (hdead : 0 ≤ r.c.death) :
    Meets w 197 [.ref S.a, .ref pa, .int 3 dt, .int number ut, .ref ik] 40 led (fun v tl => v = .bool false ∧ tl = led) := by
  w_on
  unfold Meets
  k_fill
  intro dp un gd cn cs a ccd cl outer A₀ base h₀ L m rest s mean mg mb Q E B F X N D T hk9 hdp hun ret
  refine wpAny_call ?_
  k_dflt (refine' code_frame ?k1 ?k2 ?k3 ?k4 ?kD ?k5 ?kA ?kF ?kK ?k6 ?k7 ?k8 ?k9 ?kB ?_ ?c2 ?c3 ?c4 ?c5; (case kA => exact rfl); (case kF => exact rfl); (case kK => assumption); (case k1 => k_asm); (case k2 => k_asm); (case k3 => k_asm); (case k4 => k_asm); (case kD => k_asm); (case k5 => k_asm); (case k6 => k_is); (case k7 => k_is); (case k8 => ktr_room); (case k9 => exact BindsTo.of_eq rfl); (case c5 => decide); (case kB => exact locs rfl); (case c2 => exact rfl); (case c3 => exact rfl); (case c4 => exact rfl); k_whole)
  intro _ _ _ _ _ _ _ _ _ l1
  (try k_lt l1)
  (try dsimp only)
  (try k_fold)
  k_steps
  refine Halt.to ?_
  (rename Fr _ _ _ _ => kF); (rename News _ _ _ _ => kN)
  k_dflt (refine' Meets.use0 ?gB kF ?gX ?gN ?gT ?gk (erase_dead_meets w led S nr gen od kvs number _ r nx h1 h2 h3 hod lo hk0 r1 r2 hdead) ?gd ?gu ?_)
  (case gB => k_asm)
  (case gX => k_asm)
  (case gN => k_asm)
  (case gT => k_asm)
  (case gk => first | exact rfl | assumption)
  (case gd => ktr_room)
  (case gu => ktr_units)
  k_whole
  intro r9 tl9 h9 tk9 F9 N9 hp9
  obtain ⟨e9, e9'⟩ := hp9
  subst e9
  clear kF kN
  try dsimp only
  k_steps
  (try k_unfold)
  (try dsimp only)
  refine' ⟨_, _, _, ?k1, ?k2, ?_⟩
  (case k1 => k_asm)
  (case k2 => k_asm)
  intro _ _ _
  (try dsimp only)
  exact ret _ _ _ _ (by assumption) (by assumption) (by assumption) ⟨rfl, e9'⟩
theorem done_live_meets (w : World) (r : RecA) (nx : Int) (S : StA) (nr gen : Int) (od : Obj) (kvs : List (Int × Value)) (number : Int) (dt ut : Tok) (pa ik : Addr)
    (hod : od.IsDictOf (PySem.intKind PySem.Challenge.rw_rh0068_01.row.prog w) kvs) (lo : (S.rd == sysModules) = false) (hk0 : valueAt kvs number = some (.ref r.a)) (hlive : r.c.death < 0) (nd : NdA [sObj S, sDict w.params S nr gen, (S.rd, od), rObj r, rDict w.params r nx]) :
    Meets w 197 [.ref S.a, .ref pa, .int 3 dt, .int number ut, .ref ik] 40 [sObj S, sDict w.params S nr gen, (S.rd, od), rObj r, rDict w.params r nx] (fun v tl => v = .bool true ∧ ∃ gt xt, tl = [sObj S, sDict w.params { S with genT := gt } nr (gen + 1), (S.rd, od), rObj r, rDict w.params { r with deathT := xt, c := { r.c with death := gen + 1 } } nx]) := by
  w_on
  unfold Meets
  k_fill
  intro dp un gd cn cs a ccd cl outer A₀ base h₀ L m rest s mean mg mb Q E B F X N D T hk9 hdp hun ret
  refine wpAny_call ?_
  k_dflt (refine' code_frame ?k1 ?k2 ?k3 ?k4 ?kD ?k5 ?kA ?kF ?kK ?k6 ?k7 ?k8 ?k9 ?kB ?_ ?c2 ?c3 ?c4 ?c5; (case kA => exact rfl); (case kF => exact rfl); (case kK => assumption); (case k1 => k_asm); (case k2 => k_asm); (case k3 => k_asm); (case k4 => k_asm); (case kD => k_asm); (case k5 => k_asm); (case k6 => k_is); (case k7 => k_is); (case k8 => ktr_room); (case k9 => exact BindsTo.of_eq rfl); (case c5 => decide); (case kB => exact locs rfl); (case c2 => exact rfl); (case c3 => exact rfl); (case c4 => exact rfl); k_whole)
  intro _ _ _ _ _ _ _ _ _ l1
  (try k_lt l1)
  (try dsimp only)
  (try k_fold)
  (rename News _ _ _ _ => kN9)
  dsimp only [sObj, sDict, pObj, pDict, rObj, rDict] at kN9
  k_steps
  refine Halt.to ?_
  (rename Fr _ _ _ _ => kF); (rename News _ _ _ _ => kN)
  k_dflt (refine' Meets.use0 ?gB kF ?gX ?gN ?gT ?gk (erase_live_meets w S nr gen od kvs number _ r nx hod lo hk0 hlive nd) ?gd ?gu ?_)
  (case gB => k_asm)
  (case gX => k_asm)
  (case gN => k_asm)
  (case gT => k_asm)
  (case gk => first | exact rfl | assumption)
  (case gd => ktr_room)
  (case gu => ktr_units)
  k_whole
  intro r9 tl9 h9 tk9 F9 N9 hp9
  obtain ⟨e9, e9'⟩ := hp9
  subst e9
  clear kF kN
  try dsimp only
  k_steps
  (try k_unfold)
  (try dsimp only)
  refine' ⟨_, _, _, ?k1, ?k2, ?_⟩
  (case k1 => k_asm)
  (case k2 => k_asm)
  intro _ _ _
  (try dsimp only)
  exact ret _ _ _ _ (by assumption) (by assumption) (by assumption) ⟨rfl, e9'⟩
theorem done_kill_meets (w : World) (S : StA) (nr gen : Int) (od : Obj) (kvs : List (Int × Value)) (P : PrA) (c : List RecA) (number : Int) (dt ut : Tok) (ik : Addr)
    (hod : od.IsDictOf (PySem.intKind PySem.Challenge.rw_rh0068_01.row.prog w) kvs)
    (hv : ∀ r ∈ c, valueAt kvs r.c.key = some (.ref r.a)) (hpos : ∀ r ∈ c, 0 ≤ r.c.key) (hlen : c.length ≤ 1000) (nd : NdA (oneLed w.params S nr gen od P c)) :
    Meets w 197 [.ref S.a, .ref P.a, .int 4 dt, .int number ut, .ref ik] 80 (oneLed w.params S nr gen od P c)
      (fun v tl => v = .none ∧ ((refsV gen c = [] ∧ tl = oneLed w.params S nr gen od P c) ∨
        (refsV gen c ≠ [] ∧ ∃ gt xt, tl = [sObj S, sDict w.params { S with genT := gt } nr (gen + 1), (S.rd, od), pObj P, pDict w.params P (hk c) (lastK c)] ++ chLed w.params (killAll gen (gen + 1) xt c)))) := by
  w_on
  unfold Meets
  k_fill
  intro dp un gd cn cs a ccd cl outer A₀ base h₀ L m rest s mean mg mb Q E B F X N D T hk9 hdp hun ret
  refine wpAny_call ?_
  k_dflt (refine' code_frame ?k1 ?k2 ?k3 ?k4 ?kD ?k5 ?kA ?kF ?kK ?k6 ?k7 ?k8 ?k9 ?kB ?_ ?c2 ?c3 ?c4 ?c5; (case kA => exact rfl); (case kF => exact rfl); (case kK => assumption); (case k1 => k_asm); (case k2 => k_asm); (case k3 => k_asm); (case k4 => k_asm); (case kD => k_asm); (case k5 => k_asm); (case k6 => k_is); (case k7 => k_is); (case k8 => ktr_room); (case k9 => exact BindsTo.of_eq rfl); (case c5 => decide); (case kB => exact locs rfl); (case c2 => exact rfl); (case c3 => exact rfl); (case c4 => exact rfl); k_whole)
  intro _ _ _ _ _ _ _ _ _ l1
  (try k_lt l1)
  (try dsimp only)
  (try k_fold)
  (rename News _ _ _ _ => kN9)
  dsimp only [oneLed, List.cons_append, List.nil_append, sObj, sDict, pObj, pDict] at kN9
  k_steps
  refine Halt.to ?_
  (rename Fr _ _ _ _ => kF); (rename News _ _ _ _ => kN)
  k_dflt (refine' Meets.use0 ?gB kF ?gX ?gN ?gT ?gk (kill_all_meets w S nr gen od kvs P c (lastK c) hod hv hpos hlen nd) ?gd ?gu ?_)
  (case gB => k_asm)
  (case gX => k_asm)
  (case gN => exact kN)
  (case gT => k_asm)
  (case gk => first | exact rfl | assumption)
  (case gd => ktr_room)
  (case gu => ktr_units)
  k_whole
  intro r9 tl9 h9 tk9 F9 N9 hp9
  obtain ⟨e9, e9'⟩ := hp9
  subst e9
  clear kF kN
  try dsimp only
  k_steps
  (try k_unfold)
  (try dsimp only)
  refine' ⟨_, _, _, ?k1, ?k2, ?_⟩
  (case k1 => k_asm)
  (case k2 => k_asm)
  intro _ _ _
  (try dsimp only)
  exact ret _ _ _ _ (by assumption) (by assumption) (by assumption) ⟨rfl, e9'⟩
end

end
section

/-- a store as data -/
structure Ab where
  nr : Int
  gen : Int
  q4 : List Rc
  q9 : List Rc
structure Ab.Ok (a : Ab) : Prop where
  keys : ((a.q4 ++ a.q9).map (·.key)).Nodup
  rng : ∀ r ∈ a.q4 ++ a.q9, 0 ≤ r.key ∧ r.key < a.nr
  bir : ∀ r ∈ a.q4 ++ a.q9, r.birth ≤ a.gen
  dea : ∀ r ∈ a.q4 ++ a.q9, r.death ≤ a.gen
  len : ((a.q4 ++ a.q9).length : Int) ≤ a.nr
  gen0 : 0 ≤ a.gen
/-- what a deed gives back -/
inductive Told
  | int (k : Int)
  | bool (b : Bool)
  | none
inductive TellsV : Value → Told → Prop
  | int (k : Int) (t : Tok) : TellsV (.int k t) (.int k)
  | bool (b : Bool) : TellsV (.bool b) (.bool b)
  | none : TellsV .none .none
noncomputable def markK (k v : Int) (q : List Rc) : List Rc := q.map fun r => if r.key = k then { r with death := v } else r
noncomputable def markAll (g v : Int) (q : List Rc) : List Rc := q.map fun r => if visB r g = true then { r with death := v } else r
/-- a deed on a store as data -/
inductive Step (wD : Dat) : (who deed number : Int) → Ab → Ab → Told → Prop
  | app4 {d n : Int} {a : Ab} : d < 2 → Step wD 4 d n a { a with nr := a.nr + 1, gen := a.gen + 1, q4 := a.q4 ++ [⟨a.nr, 4, a.gen + 1, -1, 100 + 3 * n, .tuple [.str (Str.ofString "i"), .int (50 - n)], wD⟩] } (.int a.nr)
  | app9 {d n : Int} {a : Ab} : d < 2 → Step wD 9 d n a { a with nr := a.nr + 1, gen := a.gen + 1, q9 := a.q9 ++ [⟨a.nr, 9, a.gen + 1, -1, 100 + 3 * n, .tuple [.str (Str.ofString "i"), .int (50 - n)], wD⟩] } (.int a.nr)
  | pre4 {n : Int} {a : Ab} : Step wD 4 2 n a { a with nr := a.nr + 1, gen := a.gen + 1, q4 := ⟨a.nr, 4, a.gen + 1, -1, 200 + n, .tuple [.str (Str.ofString "a"), .int n], wD⟩ :: a.q4 } (.int a.nr)
  | pre9 {n : Int} {a : Ab} : Step wD 9 2 n a { a with nr := a.nr + 1, gen := a.gen + 1, q9 := ⟨a.nr, 9, a.gen + 1, -1, 200 + n, .tuple [.str (Str.ofString "a"), .int n], wD⟩ :: a.q9 } (.int a.nr)
  | miss {who n : Int} {a : Ab} : (∀ r ∈ a.q4 ++ a.q9, r.key = n → 0 ≤ r.death) → Step wD who 3 n a a (.bool false)
  | live {who n : Int} {a : Ab} : (∃ r ∈ a.q4 ++ a.q9, r.key = n ∧ r.death < 0) → Step wD who 3 n a { a with gen := a.gen + 1, q4 := markK n (a.gen + 1) a.q4, q9 := markK n (a.gen + 1) a.q9 } (.bool true)
  | kill4 {n : Int} {a : Ab} : (a.q4.filter fun r => visB r a.gen) ≠ [] → Step wD 4 4 n a { a with gen := a.gen + 1, q4 := markAll a.gen (a.gen + 1) a.q4 } .none
  | kill9 {n : Int} {a : Ab} : (a.q9.filter fun r => visB r a.gen) ≠ [] → Step wD 9 4 n a { a with gen := a.gen + 1, q9 := markAll a.gen (a.gen + 1) a.q9 } .none
  | none4 {n : Int} {a : Ab} : (a.q4.filter fun r => visB r a.gen) = [] → Step wD 4 4 n a a .none
  | none9 {n : Int} {a : Ab} : (a.q9.filter fun r => visB r a.gen) = [] → Step wD 9 4 n a a .none

/-- a store as it lies in the heap -/
structure St where
  S : StA
  nr : Int
  gen : Int
  od : Obj
  kvs : List (Int × Value)
  pd : Addr
  po : Obj
  P4 : PrA
  P9 : PrA
  c4 : List RecA
  c9 : List RecA
noncomputable def St.led (P : Params) (x : St) : List (Addr × Obj) :=
  [sObj x.S, sDict P x.S x.nr x.gen, (x.S.rd, x.od), (x.pd, x.po), pObj x.P4, pDict P x.P4 (hk x.c4) (lastK x.c4), pObj x.P9, pDict P x.P9 (hk x.c9) (lastK x.c9)] ++ (chLed P x.c4 ++ chLed P x.c9)
noncomputable def St.ab (x : St) : Ab := ⟨x.nr, x.gen, x.c4.map (·.c), x.c9.map (·.c)⟩
structure St.Ok (w : World) (x : St) : Prop where
  hod : x.od.IsDictOf (PySem.intKind PySem.Challenge.rw_rh0068_01.row.prog w) x.kvs
  hpo : x.po.IsDictOf (PySem.intKind PySem.Challenge.rw_rh0068_01.row.prog w) [(4, .ref x.P4.a), (9, .ref x.P9.a)]
  lo : (x.S.rd == sysModules) = false
  lo2 : (x.pd == sysModules) = false
  perm : x.kvs.Perm (kvOf x.c4 ++ kvOf x.c9)
  f4 : x.P4.fn = 4
  f9 : x.P9.fn = 9
  nd : NdA (x.led w.params)
/-- the terms of a store's records lie in a ledger -/
noncomputable def St.terms (x : St) (led : List (Addr × Obj)) : Prop := ∀ r ∈ x.c4 ++ x.c9, TermOk led r

section
variable {α : Type} {s sd rd pd p4 d4 p9 d9 r rdd : α} {A B : List α}
theorem st_perm4 : ([s, sd, rd, pd, p4, d4, p9, d9] ++ (A ++ B)).Perm (([s, sd, rd, p4, d4] ++ A) ++ (pd :: p9 :: d9 :: B)) := by
  classical
  rw [List.perm_iff_count]; intro y
  simp only [List.count_cons, List.count_append, List.count_nil]; omega
theorem st_perm9 : ([s, sd, rd, pd, p4, d4, p9, d9] ++ (A ++ B)).Perm (([s, sd, rd, p9, d9] ++ B) ++ (pd :: p4 :: d4 :: A)) := by
  classical
  rw [List.perm_iff_count]; intro y
  simp only [List.count_cons, List.count_append, List.count_nil]; omega
theorem st_permR {X Y : List α} : ([s, sd, rd, pd, p4, d4, p9, d9] ++ ((X ++ r :: rdd :: Y) ++ B)).Perm ([s, sd, rd, r, rdd] ++ (pd :: p4 :: d4 :: p9 :: d9 :: (X ++ (Y ++ B)))) := by
  classical
  rw [List.perm_iff_count]; intro y
  simp only [List.count_cons, List.count_append, List.count_nil]; omega
theorem st_permS {X Y : List α} : ([s, sd, rd, pd, p4, d4, p9, d9] ++ (A ++ (X ++ r :: rdd :: Y))).Perm ([s, sd, rd, r, rdd] ++ (pd :: p4 :: d4 :: p9 :: d9 :: (A ++ (X ++ Y)))) := by
  classical
  rw [List.perm_iff_count]; intro y
  simp only [List.count_cons, List.count_append, List.count_nil]; omega
theorem st_permT {X : List α} {t : α} : (((A ++ [t]) ++ X)).Perm ((A ++ X) ++ [t]) := by
  classical
  rw [List.perm_iff_count]; intro y
  simp only [List.count_cons, List.count_append, List.count_nil]; omega
end
theorem hk_keys : ∀ {c c' : List RecA}, c.map (·.c.key) = c'.map (·.c.key) → hk c = hk c' := by
  intro c c' h
  cases c with
  | nil => cases c' with
    | nil => rfl
    | cons _ _ => simp at h
  | cons a b => cases c' with
    | nil => simp at h
    | cons a' b' => simp only [List.map_cons, List.cons.injEq] at h; exact h.1
theorem lastK_keys {c c' : List RecA} (h : c.map (·.c.key) = c'.map (·.c.key)) : lastK c = lastK c' := by
  have e : ∀ d : List RecA, lastK d = ((d.map (·.c.key)).getLast?).getD (-1) := fun d => by unfold lastK; rw [List.getLast?_map]
  rw [e, e, h]
theorem kvOf_core {c c' : List RecA} (h : c.map core = c'.map core) : kvOf c = kvOf c' := by
  have := congrArg (List.map (fun t : Addr × Addr × Addr × Addr × Rc => (t.2.2.2.2.key, Value.ref t.1))) h
  simpa only [kvOf, List.map_map, Function.comp_def] using this
theorem c_core {c c' : List RecA} (h : c.map core = c'.map core) : c.map (·.c) = c'.map (·.c) := by
  have := congrArg (List.map (fun t : Addr × Addr × Addr × Addr × Rc => t.2.2.2.2)) h
  simpa only [List.map_map, Function.comp_def] using this
theorem chLed_split (P : Params) (r : RecA) (po : List RecA) : ∀ pr : List RecA, ∃ A B, ∀ r', r'.c.key = r.c.key → chLed P (pr ++ r' :: po) = A ++ rObj r' :: rDict P r' (hk po) :: B := by
  intro pr
  induction pr with
  | nil => exact ⟨[], chLed P po, fun _ _ => rfl⟩
  | cons x xs ih =>
    obtain ⟨A, B, h⟩ := ih
    refine ⟨rObj x :: rDict P x (hk (xs ++ r :: po)) :: A, B, fun r' hr => ?_⟩
    have e : hk (xs ++ r' :: po) = hk (xs ++ r :: po) := hk_keys (by simp [hr])
    simp only [List.cons_append, chLed, h r' hr, e]
theorem term_core {led : List (Addr × Obj)} {c c' : List RecA} (h : c'.map core = c.map core) (t : ∀ r ∈ c, TermOk led r) : ∀ r ∈ c', TermOk led r := by
  intro r hr
  have h1 : core r ∈ c.map core := h ▸ List.mem_map_of_mem hr
  obtain ⟨y, hy, e⟩ := List.mem_map.mp h1
  have := t y hy
  simp only [core, Prod.mk.injEq] at e
  unfold TermOk at this ⊢
  rw [← e.2.2.1, ← e.2.2.2.1, ← e.2.2.2.2]
  exact this

theorem St.vals {w : World} {x : St} (ok : x.Ok w) : ∀ r ∈ x.c4 ++ x.c9, valueAt x.kvs r.c.key = some (.ref r.a) := by
  intro r hr
  refine valueAt_mem ok.hod (ok.perm.symm.subset ?_)
  rw [← kvOf_append]
  exact kv_mem hr
theorem St.kvlen {w : World} {x : St} (ok : x.Ok w) : x.kvs.length = x.c4.length + x.c9.length := by
  rw [ok.perm.length_eq, List.length_append, kvOf_length, kvOf_length]
theorem St.key_of {x : St} : ∀ r ∈ x.c4 ++ x.c9, r.c ∈ x.ab.q4 ++ x.ab.q9 := by
  intro r hr
  show r.c ∈ x.c4.map (·.c) ++ x.c9.map (·.c)
  rw [← List.map_append]
  exact List.mem_map_of_mem hr
theorem St.kpos {x : St} (h : x.ab.Ok) : ∀ r ∈ x.c4 ++ x.c9, 0 ≤ r.c.key ∧ r.c.key < x.nr := fun r hr => h.rng _ (St.key_of r hr)
theorem St.len19 {x : St} (h : x.ab.Ok) : ((x.c4.length + x.c9.length : Nat) : Int) ≤ x.nr := by
  have := h.len
  simp only [St.ab, List.length_append, List.length_map] at this
  exact this
theorem St.none_of {w : World} {x : St} (ok : x.Ok w) {k : Int} (h : ∀ r ∈ x.c4 ++ x.c9, r.c.key ≠ k) : valueAt x.kvs k = none := by
  refine valueAt_none fun p hp => ?_
  have := ok.perm.subset hp
  rw [← kvOf_append] at this
  obtain ⟨r, hr, rfl⟩ := List.mem_map.mp this
  exact h r hr

end
section
local macro_rules | `(tactic| walk_at "m_pad") => `(tactic| skip)

theorem Meets.more {w : World} {f : Addr} {args : List Value} {need need' : Nat} {pre : List (Addr × Obj)} {post : Value → List (Addr × Obj) → Prop} (C : Meets w f args need pre post) (h : need ≤ need') : Meets w f args need' pre post := by
  intro dp un gd cn cs a ccd cl outer A₀ base h₀ L m rest s mean mg mb Q E B F K N D T hk hd hu ret
  exact C dp un gd cn cs a ccd cl outer A₀ base h₀ L m rest s mean mg mb Q E B F K N D T hk (by omega) (by omega) ret
/-- what a deed leaves of a store -/
noncomputable def DonePost (w : World) (x : St) (who deed number : Int) (ik : Addr) (wD : Dat) (v : Value) (tl : List (Addr × Obj)) : Prop :=
  ∃ (x' : St) (T' : List (Addr × Obj)) (told : Told), tl = x'.led w.params ++ T' ∧ NdA tl ∧ x'.Ok w ∧ Step wD who deed number x.ab x'.ab told ∧ TellsV v told ∧ x'.S.a = x.S.a ∧ x'.pd = x.pd ∧ x'.P4.a = x.P4.a ∧ x'.P9.a = x.P9.a ∧
    ∀ led, x.terms led → DatIn led (.ref ik) wD → kqdOk 7 wD = true → (∀ p ∈ T', p ∈ led) → x'.terms led
theorem stored_perm {kvs : List (Int × Value)} {a b a' : List (Int × Value)} {k : Int} {v : Value} (hp : kvs.Perm (a ++ b)) (hn : valueAt kvs k = none) (h : a'.Perm ((k, v) :: a)) : (stored kvs k v).Perm (a' ++ b) := by
  rw [stored_absent hn]
  refine (List.perm_append_comm).trans ?_
  refine (List.Perm.cons _ hp).trans ?_
  exact (h.append_right b).symm
theorem stored_perm' {kvs : List (Int × Value)} {a b b' : List (Int × Value)} {k : Int} {v : Value} (hp : kvs.Perm (a ++ b)) (hn : valueAt kvs k = none) (h : b'.Perm ((k, v) :: b)) : (stored kvs k v).Perm (a ++ b') := by
  rw [stored_absent hn]
  refine (List.perm_append_comm).trans ?_
  refine (List.Perm.cons _ hp).trans ?_
  exact List.perm_middle.symm.trans (h.append_left a).symm
theorem kv_snoc {c c' : List RecA} {r : RecA} (h : c'.map core = c.map core ++ [core r]) : (kvOf c').Perm ((r.c.key, Value.ref r.a) :: kvOf c) := by
  have e : c'.map core = (c ++ [r]).map core := by rw [List.map_append]; exact h
  rw [kvOf_core e, kvOf_append]
  exact List.perm_append_comm
theorem c_snoc {c c' : List RecA} {r : RecA} (h : c'.map core = c.map core ++ [core r]) : c'.map (·.c) = c.map (·.c) ++ [r.c] := by
  have e : c'.map core = (c ++ [r]).map core := by rw [List.map_append]; exact h
  rw [c_core e, List.map_append]; rfl
theorem term_snoc {led : List (Addr × Obj)} {c c' : List RecA} {r : RecA} (h : c'.map core = c.map core ++ [core r]) (t : ∀ r ∈ c, TermOk led r) (tr : TermOk led r) : ∀ r ∈ c', TermOk led r := by
  have e : c'.map core = (c ++ [r]).map core := by rw [List.map_append]; exact h
  refine term_core e fun y hy => ?_
  rcases List.mem_append.mp hy with hy | hy
  · exact t y hy
  · rw [List.mem_singleton.mp hy]; exact tr
theorem terms_both {led : List (Addr × Obj)} {a b : List RecA} (ha : ∀ r ∈ a, TermOk led r) (hb : ∀ r ∈ b, TermOk led r) : ∀ r ∈ a ++ b, TermOk led r := fun r hr => (List.mem_append.mp hr).elim (ha r) (hb r)
theorem st_sub {a b c d t : List (Addr × Obj)} (h : a.Perm (b ++ c)) : ∀ p ∈ a ++ t, p ∈ (b ++ t) ++ c := by
  intro p hp
  rcases List.mem_append.mp hp with hp | hp
  · rcases List.mem_append.mp (h.subset hp) with hp | hp
    · exact List.mem_append_left _ (List.mem_append_left _ hp)
    · exact List.mem_append_right _ hp
  · exact List.mem_append_left _ (List.mem_append_right _ hp)
theorem st_nd {a b c : List (Addr × Obj)} {t : Addr × Obj} (h : a.Perm (b ++ c)) (n1 : NdA (b ++ [t])) (n2 : NdA c) (d : Disj (b ++ [t]) c) : NdA (a ++ [t]) :=
  ndA_perm ((st_permT (A := b) (X := c) (t := t)).trans (h.symm.append_right [t])) (ndA_join n1 n2 d)
theorem led4 (P : Params) (x : St) : (x.led P).Perm (oneLed P x.S x.nr x.gen x.od x.P4 x.c4 ++ ((x.pd, x.po) :: pObj x.P9 :: pDict P x.P9 (hk x.c9) (lastK x.c9) :: chLed P x.c9)) := st_perm4
theorem led9 (P : Params) (x : St) : (x.led P).Perm (oneLed P x.S x.nr x.gen x.od x.P9 x.c9 ++ ((x.pd, x.po) :: pObj x.P4 :: pDict P x.P4 (hk x.c4) (lastK x.c4) :: chLed P x.c4)) := st_perm9
theorem size_ok {w : World} {x : St} (ok : x.Ok w) (ab : x.ab.Ok) (hnr : x.nr ≤ 18) : x.kvs.length ≤ sizeLine ∧ x.c4.length ≤ 19 ∧ x.c9.length ≤ 19 := by
  have h1 := St.kvlen ok
  have h2 := St.len19 ab
  have h3 : (1000 : Nat) ≤ sizeLine := by decide
  refine ⟨?_, ?_, ?_⟩ <;> omega
theorem fresh_nr {w : World} {x : St} (ok : x.Ok w) (ab : x.ab.Ok) : valueAt x.kvs x.nr = none := St.none_of ok fun r hr => by have := (St.kpos ab r hr).2; omega
theorem st_app4 (w : World) (x : St) (ok : x.Ok w) (ab : x.ab.Ok) (hnr : x.nr ≤ 18) (deed number : Int) (dt ut : Tok) (ik : Addr) (wD : Dat) (hd : deed < 2) :
    Meets w 197 [.ref x.S.a, .ref x.P4.a, .int deed dt, .int number ut, .ref ik] 80 (x.led w.params) (DonePost w x 4 deed number ik wD) := by
  obtain ⟨z1, z2, z3⟩ := size_ok ok ab hnr
  have hv : ∀ r ∈ x.c4, valueAt x.kvs r.c.key = some (.ref r.a) := fun r hr => St.vals ok r (List.mem_append_left _ hr)
  have hpos : ∀ r ∈ x.c4, 0 ≤ r.c.key := fun r hr => (St.kpos ab r (List.mem_append_left _ hr)).1
  have hnk : ∀ r ∈ x.c4, r.c.key ≠ x.nr := fun r hr => by have := (St.kpos ab r (List.mem_append_left _ hr)).2; omega
  have nd2 := ndA_perm (led4 w.params x) ok.nd
  refine (((done_append_meets w x.S x.nr x.gen x.od x.kvs x.P4 x.c4 deed number dt ut ik wD hd ok.hod z1 hv hnk hpos (ndA_append nd2).1).frame (ndA_disj nd2)).conv (led4 w.params x).symm.subset ?_).more (by decide)
  rintro v tl ⟨tl', ⟨tm, to, t, v', tl0, rfl, hdat, rfl, hnd, r, c', nx, xt, gt, ft, lt, od', _, hr, h1, h2, hnew, _, _, hd', rfl, _⟩, rfl, hdj⟩
  have hk0 : r.c.key = x.nr := by rw [hr]
  refine ⟨_, ?_, ⟨{ x.S with nrT := xt, genT := gt }, x.nr + 1, x.gen + 1, od', stored x.kvs x.nr (.ref r.a), x.pd, x.po, { x.P4 with fT := ft, lT := lt }, x.P9, c', x.c9⟩, [(tm, to)], .int x.nr, rfl, ?_, ?_, ?_, .int _ _, rfl, rfl, rfl, rfl, ?_⟩
  · exact st_sub (d := []) (led4 w.params _)
  · exact st_nd (led4 w.params _) hnd (ndA_append nd2).2.1 hdj
  · refine ⟨hd', ok.hpo, ok.lo, ok.lo2, stored_perm ok.perm (fresh_nr ok ab) (by rw [← hk0]; exact kv_snoc hnew), ok.f4, ok.f9, ?_⟩
    exact (ndA_append (st_nd (led4 w.params ⟨{ x.S with nrT := xt, genT := gt }, x.nr + 1, x.gen + 1, od', stored x.kvs x.nr (.ref r.a), x.pd, x.po, { x.P4 with fT := ft, lT := lt }, x.P9, c', x.c9⟩) hnd (ndA_append nd2).2.1 hdj)).1
  · have e : c'.map (·.c) = x.c4.map (·.c) ++ [r.c] := by
      exact c_snoc hnew
    have := Step.app4 (wD := wD) (d := deed) (n := number) (a := x.ab) hd
    simp only [St.ab] at this ⊢
    rw [e, hr, ok.f4]
    exact this
  · intro led ht hw hwk hT
    have hl := fun r hr => ht r (List.mem_append_left _ hr)
    have hrr := fun r hr => ht r (List.mem_append_right _ hr)
    have hnt : TermOk led r := by
      unfold TermOk
      rw [hr, h1, h2]
      exact ⟨hdat.mono hT, by simp only [kqdOk, List.all_cons, List.all_nil, Bool.and_true]; decide +kernel, hw, hwk⟩
    refine terms_both ?_ ?_
    · exact term_snoc hnew hl hnt
    · exact hrr
theorem st_pre4 (w : World) (x : St) (ok : x.Ok w) (ab : x.ab.Ok) (hnr : x.nr ≤ 18) (deed number : Int) (dt ut : Tok) (ik : Addr) (wD : Dat) (hd : deed = 2) :
    Meets w 197 [.ref x.S.a, .ref x.P4.a, .int deed dt, .int number ut, .ref ik] 80 (x.led w.params) (DonePost w x 4 deed number ik wD) := by
  obtain ⟨z1, z2, z3⟩ := size_ok ok ab hnr
  have hv : ∀ r ∈ x.c4, valueAt x.kvs r.c.key = some (.ref r.a) := fun r hr => St.vals ok r (List.mem_append_left _ hr)
  have hpos : ∀ r ∈ x.c4, 0 ≤ r.c.key := fun r hr => (St.kpos ab r (List.mem_append_left _ hr)).1
  have hnk : ∀ r ∈ x.c4, r.c.key ≠ x.nr := fun r hr => by have := (St.kpos ab r (List.mem_append_left _ hr)).2; omega
  have nd2 := ndA_perm (led4 w.params x) ok.nd
  refine (((done_prepend_meets w x.S x.nr x.gen x.od x.kvs x.P4 x.c4 deed number dt ut ik wD hd ok.hod z1 hpos (ndA_append nd2).1).frame (ndA_disj nd2)).conv (led4 w.params x).symm.subset ?_).more (by decide)
  rintro v tl ⟨tl', ⟨tm, to, t, v', tl0, rfl, hdat, rfl, hnd, r, c', nx, xt, gt, ft, lt, od', _, hr, h1, h2, hnew, _, _, hd', rfl, _⟩, rfl, hdj⟩
  have hk0 : r.c.key = x.nr := by rw [hr]
  refine ⟨_, ?_, ⟨{ x.S with nrT := xt, genT := gt }, x.nr + 1, x.gen + 1, od', stored x.kvs x.nr (.ref r.a), x.pd, x.po, { x.P4 with fT := ft, lT := lt }, x.P9, c', x.c9⟩, [(tm, to)], .int x.nr, rfl, ?_, ?_, ?_, .int _ _, rfl, rfl, rfl, rfl, ?_⟩
  · exact st_sub (d := []) (led4 w.params _)
  · exact st_nd (led4 w.params _) hnd (ndA_append nd2).2.1 hdj
  · refine ⟨hd', ok.hpo, ok.lo, ok.lo2, stored_perm ok.perm (fresh_nr ok ab) (by rw [← hk0, hnew]; exact List.Perm.refl _), ok.f4, ok.f9, ?_⟩
    exact (ndA_append (st_nd (led4 w.params ⟨{ x.S with nrT := xt, genT := gt }, x.nr + 1, x.gen + 1, od', stored x.kvs x.nr (.ref r.a), x.pd, x.po, { x.P4 with fT := ft, lT := lt }, x.P9, c', x.c9⟩) hnd (ndA_append nd2).2.1 hdj)).1
  · have e : c'.map (·.c) = r.c :: x.c4.map (·.c) := by
      rw [hnew]; rfl
    have := Step.pre4 (wD := wD) (n := number) (a := x.ab)
    subst hd
    simp only [St.ab] at this ⊢
    rw [e, hr, ok.f4]
    exact this
  · intro led ht hw hwk hT
    have hl := fun r hr => ht r (List.mem_append_left _ hr)
    have hrr := fun r hr => ht r (List.mem_append_right _ hr)
    have hnt : TermOk led r := by
      unfold TermOk
      rw [hr, h1, h2]
      exact ⟨hdat.mono hT, by simp only [kqdOk, List.all_cons, List.all_nil, Bool.and_true]; decide +kernel, hw, hwk⟩
    refine terms_both ?_ ?_
    · intro y hy; rw [hnew] at hy; rcases List.mem_cons.mp hy with e | hy; (rw [e]; exact hnt); exact hl y hy
    · exact hrr
theorem st_app9 (w : World) (x : St) (ok : x.Ok w) (ab : x.ab.Ok) (hnr : x.nr ≤ 18) (deed number : Int) (dt ut : Tok) (ik : Addr) (wD : Dat) (hd : deed < 2) :
    Meets w 197 [.ref x.S.a, .ref x.P9.a, .int deed dt, .int number ut, .ref ik] 80 (x.led w.params) (DonePost w x 9 deed number ik wD) := by
  obtain ⟨z1, z2, z3⟩ := size_ok ok ab hnr
  have hv : ∀ r ∈ x.c9, valueAt x.kvs r.c.key = some (.ref r.a) := fun r hr => St.vals ok r (List.mem_append_right _ hr)
  have hpos : ∀ r ∈ x.c9, 0 ≤ r.c.key := fun r hr => (St.kpos ab r (List.mem_append_right _ hr)).1
  have hnk : ∀ r ∈ x.c9, r.c.key ≠ x.nr := fun r hr => by have := (St.kpos ab r (List.mem_append_right _ hr)).2; omega
  have nd2 := ndA_perm (led9 w.params x) ok.nd
  refine (((done_append_meets w x.S x.nr x.gen x.od x.kvs x.P9 x.c9 deed number dt ut ik wD hd ok.hod z1 hv hnk hpos (ndA_append nd2).1).frame (ndA_disj nd2)).conv (led9 w.params x).symm.subset ?_).more (by decide)
  rintro v tl ⟨tl', ⟨tm, to, t, v', tl0, rfl, hdat, rfl, hnd, r, c', nx, xt, gt, ft, lt, od', _, hr, h1, h2, hnew, _, _, hd', rfl, _⟩, rfl, hdj⟩
  have hk0 : r.c.key = x.nr := by rw [hr]
  refine ⟨_, ?_, ⟨{ x.S with nrT := xt, genT := gt }, x.nr + 1, x.gen + 1, od', stored x.kvs x.nr (.ref r.a), x.pd, x.po, x.P4, { x.P9 with fT := ft, lT := lt }, x.c4, c'⟩, [(tm, to)], .int x.nr, rfl, ?_, ?_, ?_, .int _ _, rfl, rfl, rfl, rfl, ?_⟩
  · exact st_sub (d := []) (led9 w.params _)
  · exact st_nd (led9 w.params _) hnd (ndA_append nd2).2.1 hdj
  · refine ⟨hd', ok.hpo, ok.lo, ok.lo2, stored_perm' ok.perm (fresh_nr ok ab) (by rw [← hk0]; exact kv_snoc hnew), ok.f4, ok.f9, ?_⟩
    exact (ndA_append (st_nd (led9 w.params ⟨{ x.S with nrT := xt, genT := gt }, x.nr + 1, x.gen + 1, od', stored x.kvs x.nr (.ref r.a), x.pd, x.po, x.P4, { x.P9 with fT := ft, lT := lt }, x.c4, c'⟩) hnd (ndA_append nd2).2.1 hdj)).1
  · have e : c'.map (·.c) = x.c9.map (·.c) ++ [r.c] := by
      exact c_snoc hnew
    have := Step.app9 (wD := wD) (d := deed) (n := number) (a := x.ab) hd
    simp only [St.ab] at this ⊢
    rw [e, hr, ok.f9]
    exact this
  · intro led ht hw hwk hT
    have hl := fun r hr => ht r (List.mem_append_left _ hr)
    have hrr := fun r hr => ht r (List.mem_append_right _ hr)
    have hnt : TermOk led r := by
      unfold TermOk
      rw [hr, h1, h2]
      exact ⟨hdat.mono hT, by simp only [kqdOk, List.all_cons, List.all_nil, Bool.and_true]; decide +kernel, hw, hwk⟩
    refine terms_both ?_ ?_
    · exact hl
    · exact term_snoc hnew hrr hnt
theorem st_pre9 (w : World) (x : St) (ok : x.Ok w) (ab : x.ab.Ok) (hnr : x.nr ≤ 18) (deed number : Int) (dt ut : Tok) (ik : Addr) (wD : Dat) (hd : deed = 2) :
    Meets w 197 [.ref x.S.a, .ref x.P9.a, .int deed dt, .int number ut, .ref ik] 80 (x.led w.params) (DonePost w x 9 deed number ik wD) := by
  obtain ⟨z1, z2, z3⟩ := size_ok ok ab hnr
  have hv : ∀ r ∈ x.c9, valueAt x.kvs r.c.key = some (.ref r.a) := fun r hr => St.vals ok r (List.mem_append_right _ hr)
  have hpos : ∀ r ∈ x.c9, 0 ≤ r.c.key := fun r hr => (St.kpos ab r (List.mem_append_right _ hr)).1
  have hnk : ∀ r ∈ x.c9, r.c.key ≠ x.nr := fun r hr => by have := (St.kpos ab r (List.mem_append_right _ hr)).2; omega
  have nd2 := ndA_perm (led9 w.params x) ok.nd
  refine (((done_prepend_meets w x.S x.nr x.gen x.od x.kvs x.P9 x.c9 deed number dt ut ik wD hd ok.hod z1 hpos (ndA_append nd2).1).frame (ndA_disj nd2)).conv (led9 w.params x).symm.subset ?_).more (by decide)
  rintro v tl ⟨tl', ⟨tm, to, t, v', tl0, rfl, hdat, rfl, hnd, r, c', nx, xt, gt, ft, lt, od', _, hr, h1, h2, hnew, _, _, hd', rfl, _⟩, rfl, hdj⟩
  have hk0 : r.c.key = x.nr := by rw [hr]
  refine ⟨_, ?_, ⟨{ x.S with nrT := xt, genT := gt }, x.nr + 1, x.gen + 1, od', stored x.kvs x.nr (.ref r.a), x.pd, x.po, x.P4, { x.P9 with fT := ft, lT := lt }, x.c4, c'⟩, [(tm, to)], .int x.nr, rfl, ?_, ?_, ?_, .int _ _, rfl, rfl, rfl, rfl, ?_⟩
  · exact st_sub (d := []) (led9 w.params _)
  · exact st_nd (led9 w.params _) hnd (ndA_append nd2).2.1 hdj
  · refine ⟨hd', ok.hpo, ok.lo, ok.lo2, stored_perm' ok.perm (fresh_nr ok ab) (by rw [← hk0, hnew]; exact List.Perm.refl _), ok.f4, ok.f9, ?_⟩
    exact (ndA_append (st_nd (led9 w.params ⟨{ x.S with nrT := xt, genT := gt }, x.nr + 1, x.gen + 1, od', stored x.kvs x.nr (.ref r.a), x.pd, x.po, x.P4, { x.P9 with fT := ft, lT := lt }, x.c4, c'⟩) hnd (ndA_append nd2).2.1 hdj)).1
  · have e : c'.map (·.c) = r.c :: x.c9.map (·.c) := by
      rw [hnew]; rfl
    have := Step.pre9 (wD := wD) (n := number) (a := x.ab)
    subst hd
    simp only [St.ab] at this ⊢
    rw [e, hr, ok.f9]
    exact this
  · intro led ht hw hwk hT
    have hl := fun r hr => ht r (List.mem_append_left _ hr)
    have hrr := fun r hr => ht r (List.mem_append_right _ hr)
    have hnt : TermOk led r := by
      unfold TermOk
      rw [hr, h1, h2]
      exact ⟨hdat.mono hT, by simp only [kqdOk, List.all_cons, List.all_nil, Bool.and_true]; decide +kernel, hw, hwk⟩
    refine terms_both ?_ ?_
    · exact hl
    · intro y hy; rw [hnew] at hy; rcases List.mem_cons.mp hy with e | hy; (rw [e]; exact hnt); exact hrr y hy

theorem filt_refs {g : Int} {c : List RecA} : refsV g c = [] ↔ (c.map (·.c)).filter (fun r => visB r g) = [] := by
  rw [← List.length_eq_zero_iff, ← List.length_eq_zero_iff, tagL_refs, List.length_map, ← tagL_c, List.length_map]
theorem killAll_keys (g v : Int) (t : Tok) (c : List RecA) : (killAll g v t c).map (·.c.key) = c.map (·.c.key) := by
  unfold killAll
  rw [List.map_map]
  refine List.map_congr_left fun r _ => ?_
  simp only [Function.comp_def]
  split <;> rfl
theorem killAll_kv (g v : Int) (t : Tok) (c : List RecA) : kvOf (killAll g v t c) = kvOf c := by
  unfold killAll kvOf
  rw [List.map_map]
  refine List.map_congr_left fun r _ => ?_
  simp only [Function.comp_def]
  split <;> rfl
theorem killAll_c (g v : Int) (t : Tok) (c : List RecA) : (killAll g v t c).map (·.c) = markAll g v (c.map (·.c)) := by
  unfold killAll markAll
  rw [List.map_map, List.map_map]
  refine List.map_congr_left fun r _ => ?_
  simp only [Function.comp_def]
  split <;> rfl
theorem killAll_addr (P : Params) (g v : Int) (t : Tok) (c : List RecA) : (chLed P (killAll g v t c)).map (·.1) = (chLed P c).map (·.1) := by
  rw [← killF_all (Nat.le_refl _)]
  exact chLed_killF_addr P g v t c _
theorem killAll_term {led : List (Addr × Obj)} {g v : Int} {t : Tok} {c : List RecA} (h : ∀ r ∈ c, TermOk led r) : ∀ r ∈ killAll g v t c, TermOk led r := by
  intro r hr
  obtain ⟨y, hy, rfl⟩ := List.mem_map.mp hr
  have := h y hy
  unfold TermOk at this ⊢
  split <;> exact this
theorem mark_none {k v : Int} {q : List Rc} (h : ∀ r ∈ q, r.key ≠ k) : markK k v q = q := by
  unfold markK
  conv => rhs; rw [← List.map_id q]
  refine List.map_congr_left fun r hr => ?_
  rw [if_neg (h r hr)]; rfl
theorem mark_at {k v : Int} {r : RecA} {t : Tok} {pr po : List RecA} (hk0 : r.c.key = k) (hn : ((pr ++ r :: po).map (·.c.key)).Nodup) :
    markK k v ((pr ++ r :: po).map (·.c)) = (pr ++ { r with deathT := t, c := { r.c with death := v } } :: po).map (·.c) := by
  rw [List.map_append, List.nodup_append, List.map_cons, List.nodup_cons] at hn
  obtain ⟨_, ⟨h1, _⟩, h2⟩ := hn
  have e1 : markK k v (pr.map (·.c)) = pr.map (·.c) := mark_none fun q hq e => by
    obtain ⟨y, hy, rfl⟩ := List.mem_map.mp hq
    exact h2 _ (List.mem_map_of_mem (f := fun r : RecA => r.c.key) hy) _ (List.mem_cons_self) (e.trans hk0.symm)
  have e2 : markK k v (po.map (·.c)) = po.map (·.c) := mark_none fun q hq e => by
    obtain ⟨y, hy, rfl⟩ := List.mem_map.mp hq
    exact h1 (by rw [hk0, ← e]; exact List.mem_map_of_mem (f := fun r : RecA => r.c.key) hy)
  unfold markK at e1 e2 ⊢
  simp only [List.map_append, List.map_cons, e1, e2, if_pos hk0]
theorem mark4 {k v : Int} {r : RecA} {t : Tok} {pr po c9 : List RecA} (hk0 : r.c.key = k) (hn : (((pr ++ r :: po).map (·.c) ++ c9.map (·.c)).map (·.key)).Nodup) :
    markK k v ((pr ++ r :: po).map (·.c)) = (pr ++ { r with deathT := t, c := { r.c with death := v } } :: po).map (·.c) ∧ markK k v (c9.map (·.c)) = c9.map (·.c) := by
  rw [List.map_append, List.map_map, List.map_map, List.nodup_append] at hn
  refine ⟨mark_at hk0 hn.1, mark_none fun q hq e => ?_⟩
  obtain ⟨y, hy, rfl⟩ := List.mem_map.mp hq
  exact hn.2.2 r.c.key (by simp) y.c.key (List.mem_map_of_mem (f := fun r : RecA => r.c.key) hy) (hk0.trans e.symm)
theorem mark9 {k v : Int} {r : RecA} {t : Tok} {pr po c4 : List RecA} (hk0 : r.c.key = k) (hn : ((c4.map (·.c) ++ (pr ++ r :: po).map (·.c)).map (·.key)).Nodup) :
    markK k v ((pr ++ r :: po).map (·.c)) = (pr ++ { r with deathT := t, c := { r.c with death := v } } :: po).map (·.c) ∧ markK k v (c4.map (·.c)) = c4.map (·.c) := by
  rw [List.map_append, List.map_map, List.map_map, List.nodup_append] at hn
  refine ⟨mark_at hk0 hn.2.1, mark_none fun q hq e => ?_⟩
  obtain ⟨y, hy, rfl⟩ := List.mem_map.mp hq
  exact hn.2.2 y.c.key (List.mem_map_of_mem (f := fun r : RecA => r.c.key) hy) r.c.key (by simp) (e.trans hk0.symm)
theorem kv_mark {r r' : RecA} {pr po : List RecA} (h1 : r'.a = r.a) (h2 : r'.c.key = r.c.key) : kvOf (pr ++ r' :: po) = kvOf (pr ++ r :: po) := by
  simp only [kvOf, List.map_append, List.map_cons, h1, h2]
theorem term_mark {led : List (Addr × Obj)} {r r' : RecA} {pr po : List RecA} (h : ∀ y ∈ pr ++ r :: po, TermOk led y) (hr : TermOk led r → TermOk led r') : ∀ y ∈ pr ++ r' :: po, TermOk led y := by
  intro y hy
  rcases List.mem_append.mp hy with hy | hy
  · exact h y (List.mem_append_left _ hy)
  · rcases List.mem_cons.mp hy with rfl | hy
    · exact hr (h r (by simp))
    · exact h y (List.mem_append_right _ (.tail _ hy))
theorem st_kill4 (w : World) (x : St) (ok : x.Ok w) (ab : x.ab.Ok) (hnr : x.nr ≤ 18) (number : Int) (dt ut : Tok) (ik : Addr) (wD : Dat) :
    Meets w 197 [.ref x.S.a, .ref x.P4.a, .int 4 dt, .int number ut, .ref ik] 80 (x.led w.params) (DonePost w x 4 4 number ik wD) := by
  obtain ⟨z1, z2, z3⟩ := size_ok ok ab hnr
  have hv : ∀ r ∈ x.c4, valueAt x.kvs r.c.key = some (.ref r.a) := fun r hr => St.vals ok r (List.mem_append_left _ hr)
  have hpos : ∀ r ∈ x.c4, 0 ≤ r.c.key := fun r hr => (St.kpos ab r (List.mem_append_left _ hr)).1
  have nd2 := ndA_perm (led4 w.params x) ok.nd
  refine ((done_kill_meets w x.S x.nr x.gen x.od x.kvs x.P4 x.c4 number dt ut ik ok.hod hv hpos (by omega) (ndA_append nd2).1).frame (ndA_disj nd2)).conv (led4 w.params x).symm.subset ?_
  rintro v tl ⟨tl', ⟨rfl, ⟨h0, rfl⟩ | ⟨h0, gt, xt, rfl⟩⟩, rfl, hdj⟩
  · refine ⟨_, ?_, x, [], .none, rfl, ?_, ok, ?_, .none, rfl, rfl, rfl, rfl, fun led ht _ _ _ => ht⟩
    · rw [List.append_nil]; exact (led4 w.params x).subset
    · rw [List.append_nil]; exact ok.nd
    · exact .none4 (filt_refs.mp h0)
  · have ek : (killAll x.gen (x.gen + 1) xt x.c4).map (·.c.key) = x.c4.map (·.c.key) := killAll_keys _ _ _ _
    have e : oneLed w.params { x.S with genT := gt } x.nr (x.gen + 1) x.od x.P4 (killAll x.gen (x.gen + 1) xt x.c4) =
        [sObj x.S, sDict w.params { x.S with genT := gt } x.nr (x.gen + 1), (x.S.rd, x.od), pObj x.P4, pDict w.params x.P4 (hk x.c4) (lastK x.c4)] ++ chLed w.params (killAll x.gen (x.gen + 1) xt x.c4) := by
      unfold oneLed
      rw [hk_keys ek, lastK_keys ek]
    have hl := led4 w.params ⟨{ x.S with genT := gt }, x.nr, x.gen + 1, x.od, x.kvs, x.pd, x.po, x.P4, x.P9, (killAll x.gen (x.gen + 1) xt x.c4), x.c9⟩
    dsimp only at hl
    rw [e] at hl
    have nd3 : NdA (St.led w.params ⟨{ x.S with genT := gt }, x.nr, x.gen + 1, x.od, x.kvs, x.pd, x.po, x.P4, x.P9, (killAll x.gen (x.gen + 1) xt x.c4), x.c9⟩) := by
      refine ndA_perm hl.symm (nd2.addr ?_)
      rw [List.map_append, List.map_append, List.map_append, List.map_append, killAll_addr]
      rfl
    refine ⟨_, ?_, ⟨{ x.S with genT := gt }, x.nr, x.gen + 1, x.od, x.kvs, x.pd, x.po, x.P4, x.P9, (killAll x.gen (x.gen + 1) xt x.c4), x.c9⟩, [], .none, rfl, ?_, ?_, ?_, .none, rfl, rfl, rfl, rfl, ?_⟩
    · rw [List.append_nil]; exact hl.subset
    · rw [List.append_nil]; exact nd3
    · refine ⟨ok.hod, ok.hpo, ok.lo, ok.lo2, ?_, ok.f4, ok.f9, nd3⟩
      have := ok.perm
      dsimp only
      rw [killAll_kv]
      exact this
    · have := Step.kill4 (wD := wD) (n := number) (a := x.ab) (fun e => h0 (filt_refs.mpr e))
      simp only [St.ab] at this ⊢
      rw [killAll_c]
      exact this
    · intro led ht _ _ _
      have hl := fun r hr => ht r (List.mem_append_left _ hr)
      have hrr := fun r hr => ht r (List.mem_append_right _ hr)
      refine terms_both ?_ ?_
      · exact killAll_term hl
      · exact hrr
theorem st_live4 (w : World) (x : St) (ok : x.Ok w) (ab : x.ab.Ok) (who number : Int) (dt ut : Tok) (pa ik : Addr) (wD : Dat) (r : RecA) (hr : r ∈ x.c4) (hk0 : r.c.key = number) (hlive : r.c.death < 0) :
    Meets w 197 [.ref x.S.a, .ref pa, .int 3 dt, .int number ut, .ref ik] 80 (x.led w.params) (DonePost w x who 3 number ik wD) := by
  obtain ⟨pr, po, hc⟩ := List.append_of_mem hr
  obtain ⟨X, Y, hX⟩ := chLed_split w.params r po pr
  have hpm : (x.led w.params).Perm ([sObj x.S, sDict w.params x.S x.nr x.gen, (x.S.rd, x.od), rObj r, rDict w.params r (hk po)] ++ ((x.pd, x.po) :: pObj x.P4 :: pDict w.params x.P4 (hk x.c4) (lastK x.c4) :: pObj x.P9 :: pDict w.params x.P9 (hk x.c9) (lastK x.c9) :: (X ++ (Y ++ chLed w.params x.c9)))) := by
    have h1 := hX r rfl
    rw [← hc] at h1
    unfold St.led
    rw [h1]
    exact st_permR
  have nd2 := ndA_perm hpm ok.nd
  have hv := St.vals ok r (List.mem_append_left _ hr)
  rw [hk0] at hv
  refine (((done_live_meets w r (hk po) x.S x.nr x.gen x.od x.kvs number dt ut pa ik ok.hod ok.lo hv hlive (ndA_append nd2).1).frame (ndA_disj nd2)).conv hpm.symm.subset ?_).more (by decide)
  rintro v tl ⟨tl', ⟨rfl, gt, xt, rfl⟩, rfl, hdj⟩
  have ek : (pr ++ { r with deathT := xt, c := { r.c with death := x.gen + 1 } } :: po).map (·.c.key) = x.c4.map (·.c.key) := by rw [hc]; simp
  have hl : (St.led w.params ⟨{ x.S with genT := gt }, x.nr, x.gen + 1, x.od, x.kvs, x.pd, x.po, x.P4, x.P9, (pr ++ { r with deathT := xt, c := { r.c with death := x.gen + 1 } } :: po), x.c9⟩).Perm
      ([sObj x.S, sDict w.params { x.S with genT := gt } x.nr (x.gen + 1), (x.S.rd, x.od), rObj r, rDict w.params { r with deathT := xt, c := { r.c with death := x.gen + 1 } } (hk po)] ++ ((x.pd, x.po) :: pObj x.P4 :: pDict w.params x.P4 (hk x.c4) (lastK x.c4) :: pObj x.P9 :: pDict w.params x.P9 (hk x.c9) (lastK x.c9) :: (X ++ (Y ++ chLed w.params x.c9)))) := by
    have h1 := hX { r with deathT := xt, c := { r.c with death := x.gen + 1 } } rfl
    unfold St.led
    dsimp only
    rw [h1, hk_keys ek, lastK_keys ek]
    exact st_permR
  have nd3 : NdA (St.led w.params ⟨{ x.S with genT := gt }, x.nr, x.gen + 1, x.od, x.kvs, x.pd, x.po, x.P4, x.P9, (pr ++ { r with deathT := xt, c := { r.c with death := x.gen + 1 } } :: po), x.c9⟩) := ndA_perm hl.symm (nd2.addr rfl)
  have hkeys := ab.keys
  simp only [St.ab] at hkeys
  have hmk : markK number (x.gen + 1) (x.c4.map (·.c)) = (pr ++ { r with deathT := xt, c := { r.c with death := x.gen + 1 } } :: po).map (·.c) ∧ markK number (x.gen + 1) (x.c9.map (·.c)) = x.c9.map (·.c) := by
    rw [hc] at hkeys ⊢
    exact mark4 hk0 hkeys
  refine ⟨_, ?_, ⟨{ x.S with genT := gt }, x.nr, x.gen + 1, x.od, x.kvs, x.pd, x.po, x.P4, x.P9, (pr ++ { r with deathT := xt, c := { r.c with death := x.gen + 1 } } :: po), x.c9⟩, [], .bool true, rfl, ?_, ?_, ?_, .bool _, rfl, rfl, rfl, rfl, ?_⟩
  · rw [List.append_nil]; exact hl.subset
  · rw [List.append_nil]; exact nd3
  · refine ⟨ok.hod, ok.hpo, ok.lo, ok.lo2, ?_, ok.f4, ok.f9, nd3⟩
    have := ok.perm
    dsimp only
    rw [hc] at this
    rw [kv_mark (r := r) (r' := { r with deathT := xt, c := { r.c with death := x.gen + 1 } }) rfl rfl]
    exact this
  · have := Step.live (wD := wD) (who := who) (n := number) (a := x.ab) ⟨r.c, St.key_of r (List.mem_append_left _ hr), hk0, hlive⟩
    simp only [St.ab] at this ⊢
    rw [hmk.1, hmk.2] at this
    exact this
  · intro led ht _ _ _
    have hl := fun r hr => ht r (List.mem_append_left _ hr)
    have hrr := fun r hr => ht r (List.mem_append_right _ hr)
    refine terms_both ?_ ?_
    · rw [hc] at hl; exact term_mark hl fun h => h
    · exact hrr
theorem st_kill9 (w : World) (x : St) (ok : x.Ok w) (ab : x.ab.Ok) (hnr : x.nr ≤ 18) (number : Int) (dt ut : Tok) (ik : Addr) (wD : Dat) :
    Meets w 197 [.ref x.S.a, .ref x.P9.a, .int 4 dt, .int number ut, .ref ik] 80 (x.led w.params) (DonePost w x 9 4 number ik wD) := by
  obtain ⟨z1, z2, z3⟩ := size_ok ok ab hnr
  have hv : ∀ r ∈ x.c9, valueAt x.kvs r.c.key = some (.ref r.a) := fun r hr => St.vals ok r (List.mem_append_right _ hr)
  have hpos : ∀ r ∈ x.c9, 0 ≤ r.c.key := fun r hr => (St.kpos ab r (List.mem_append_right _ hr)).1
  have nd2 := ndA_perm (led9 w.params x) ok.nd
  refine ((done_kill_meets w x.S x.nr x.gen x.od x.kvs x.P9 x.c9 number dt ut ik ok.hod hv hpos (by omega) (ndA_append nd2).1).frame (ndA_disj nd2)).conv (led9 w.params x).symm.subset ?_
  rintro v tl ⟨tl', ⟨rfl, ⟨h0, rfl⟩ | ⟨h0, gt, xt, rfl⟩⟩, rfl, hdj⟩
  · refine ⟨_, ?_, x, [], .none, rfl, ?_, ok, ?_, .none, rfl, rfl, rfl, rfl, fun led ht _ _ _ => ht⟩
    · rw [List.append_nil]; exact (led9 w.params x).subset
    · rw [List.append_nil]; exact ok.nd
    · exact .none9 (filt_refs.mp h0)
  · have ek : (killAll x.gen (x.gen + 1) xt x.c9).map (·.c.key) = x.c9.map (·.c.key) := killAll_keys _ _ _ _
    have e : oneLed w.params { x.S with genT := gt } x.nr (x.gen + 1) x.od x.P9 (killAll x.gen (x.gen + 1) xt x.c9) =
        [sObj x.S, sDict w.params { x.S with genT := gt } x.nr (x.gen + 1), (x.S.rd, x.od), pObj x.P9, pDict w.params x.P9 (hk x.c9) (lastK x.c9)] ++ chLed w.params (killAll x.gen (x.gen + 1) xt x.c9) := by
      unfold oneLed
      rw [hk_keys ek, lastK_keys ek]
    have hl := led9 w.params ⟨{ x.S with genT := gt }, x.nr, x.gen + 1, x.od, x.kvs, x.pd, x.po, x.P4, x.P9, x.c4, (killAll x.gen (x.gen + 1) xt x.c9)⟩
    dsimp only at hl
    rw [e] at hl
    have nd3 : NdA (St.led w.params ⟨{ x.S with genT := gt }, x.nr, x.gen + 1, x.od, x.kvs, x.pd, x.po, x.P4, x.P9, x.c4, (killAll x.gen (x.gen + 1) xt x.c9)⟩) := by
      refine ndA_perm hl.symm (nd2.addr ?_)
      rw [List.map_append, List.map_append, List.map_append, List.map_append, killAll_addr]
      rfl
    refine ⟨_, ?_, ⟨{ x.S with genT := gt }, x.nr, x.gen + 1, x.od, x.kvs, x.pd, x.po, x.P4, x.P9, x.c4, (killAll x.gen (x.gen + 1) xt x.c9)⟩, [], .none, rfl, ?_, ?_, ?_, .none, rfl, rfl, rfl, rfl, ?_⟩
    · rw [List.append_nil]; exact hl.subset
    · rw [List.append_nil]; exact nd3
    · refine ⟨ok.hod, ok.hpo, ok.lo, ok.lo2, ?_, ok.f4, ok.f9, nd3⟩
      have := ok.perm
      dsimp only
      rw [killAll_kv]
      exact this
    · have := Step.kill9 (wD := wD) (n := number) (a := x.ab) (fun e => h0 (filt_refs.mpr e))
      simp only [St.ab] at this ⊢
      rw [killAll_c]
      exact this
    · intro led ht _ _ _
      have hl := fun r hr => ht r (List.mem_append_left _ hr)
      have hrr := fun r hr => ht r (List.mem_append_right _ hr)
      refine terms_both ?_ ?_
      · exact hl
      · exact killAll_term hrr
theorem st_live9 (w : World) (x : St) (ok : x.Ok w) (ab : x.ab.Ok) (who number : Int) (dt ut : Tok) (pa ik : Addr) (wD : Dat) (r : RecA) (hr : r ∈ x.c9) (hk0 : r.c.key = number) (hlive : r.c.death < 0) :
    Meets w 197 [.ref x.S.a, .ref pa, .int 3 dt, .int number ut, .ref ik] 80 (x.led w.params) (DonePost w x who 3 number ik wD) := by
  obtain ⟨pr, po, hc⟩ := List.append_of_mem hr
  obtain ⟨X, Y, hX⟩ := chLed_split w.params r po pr
  have hpm : (x.led w.params).Perm ([sObj x.S, sDict w.params x.S x.nr x.gen, (x.S.rd, x.od), rObj r, rDict w.params r (hk po)] ++ ((x.pd, x.po) :: pObj x.P4 :: pDict w.params x.P4 (hk x.c4) (lastK x.c4) :: pObj x.P9 :: pDict w.params x.P9 (hk x.c9) (lastK x.c9) :: (chLed w.params x.c4 ++ (X ++ Y)))) := by
    have h1 := hX r rfl
    rw [← hc] at h1
    unfold St.led
    rw [h1]
    exact st_permS
  have nd2 := ndA_perm hpm ok.nd
  have hv := St.vals ok r (List.mem_append_right _ hr)
  rw [hk0] at hv
  refine (((done_live_meets w r (hk po) x.S x.nr x.gen x.od x.kvs number dt ut pa ik ok.hod ok.lo hv hlive (ndA_append nd2).1).frame (ndA_disj nd2)).conv hpm.symm.subset ?_).more (by decide)
  rintro v tl ⟨tl', ⟨rfl, gt, xt, rfl⟩, rfl, hdj⟩
  have ek : (pr ++ { r with deathT := xt, c := { r.c with death := x.gen + 1 } } :: po).map (·.c.key) = x.c9.map (·.c.key) := by rw [hc]; simp
  have hl : (St.led w.params ⟨{ x.S with genT := gt }, x.nr, x.gen + 1, x.od, x.kvs, x.pd, x.po, x.P4, x.P9, x.c4, (pr ++ { r with deathT := xt, c := { r.c with death := x.gen + 1 } } :: po)⟩).Perm
      ([sObj x.S, sDict w.params { x.S with genT := gt } x.nr (x.gen + 1), (x.S.rd, x.od), rObj r, rDict w.params { r with deathT := xt, c := { r.c with death := x.gen + 1 } } (hk po)] ++ ((x.pd, x.po) :: pObj x.P4 :: pDict w.params x.P4 (hk x.c4) (lastK x.c4) :: pObj x.P9 :: pDict w.params x.P9 (hk x.c9) (lastK x.c9) :: (chLed w.params x.c4 ++ (X ++ Y)))) := by
    have h1 := hX { r with deathT := xt, c := { r.c with death := x.gen + 1 } } rfl
    unfold St.led
    dsimp only
    rw [h1, hk_keys ek, lastK_keys ek]
    exact st_permS
  have nd3 : NdA (St.led w.params ⟨{ x.S with genT := gt }, x.nr, x.gen + 1, x.od, x.kvs, x.pd, x.po, x.P4, x.P9, x.c4, (pr ++ { r with deathT := xt, c := { r.c with death := x.gen + 1 } } :: po)⟩) := ndA_perm hl.symm (nd2.addr rfl)
  have hkeys := ab.keys
  simp only [St.ab] at hkeys
  have hmk : markK number (x.gen + 1) (x.c9.map (·.c)) = (pr ++ { r with deathT := xt, c := { r.c with death := x.gen + 1 } } :: po).map (·.c) ∧ markK number (x.gen + 1) (x.c4.map (·.c)) = x.c4.map (·.c) := by
    rw [hc] at hkeys ⊢
    exact mark9 hk0 hkeys
  refine ⟨_, ?_, ⟨{ x.S with genT := gt }, x.nr, x.gen + 1, x.od, x.kvs, x.pd, x.po, x.P4, x.P9, x.c4, (pr ++ { r with deathT := xt, c := { r.c with death := x.gen + 1 } } :: po)⟩, [], .bool true, rfl, ?_, ?_, ?_, .bool _, rfl, rfl, rfl, rfl, ?_⟩
  · rw [List.append_nil]; exact hl.subset
  · rw [List.append_nil]; exact nd3
  · refine ⟨ok.hod, ok.hpo, ok.lo, ok.lo2, ?_, ok.f4, ok.f9, nd3⟩
    have := ok.perm
    dsimp only
    rw [hc] at this
    rw [kv_mark (r := r) (r' := { r with deathT := xt, c := { r.c with death := x.gen + 1 } }) rfl rfl]
    exact this
  · have := Step.live (wD := wD) (who := who) (n := number) (a := x.ab) ⟨r.c, St.key_of r (List.mem_append_right _ hr), hk0, hlive⟩
    simp only [St.ab] at this ⊢
    rw [hmk.1, hmk.2] at this
    exact this
  · intro led ht _ _ _
    have hl := fun r hr => ht r (List.mem_append_left _ hr)
    have hrr := fun r hr => ht r (List.mem_append_right _ hr)
    refine terms_both ?_ ?_
    · exact hl
    · rw [hc] at hrr; exact term_mark hrr fun h => h

theorem st_miss (w : World) (x : St) (ok : x.Ok w) (who number : Int) (dt ut : Tok) (pa ik : Addr) (wD : Dat) (h : ∀ r ∈ x.c4 ++ x.c9, r.c.key = number → 0 ≤ r.c.death) :
    Meets w 197 [.ref x.S.a, .ref pa, .int 3 dt, .int number ut, .ref ik] 80 (x.led w.params) (DonePost w x who 3 number ik wD) := by
  have m1 : sObj x.S ∈ x.led w.params := by simp [St.led]
  have m2 : sDict w.params x.S x.nr x.gen ∈ x.led w.params := by simp [St.led]
  have m3 : (x.S.rd, x.od) ∈ x.led w.params := by simp [St.led]
  have hfin : ∀ v tl, (v = .bool false ∧ tl = x.led w.params) → ∃ tl', (∀ p ∈ tl', p ∈ tl) ∧ DonePost w x who 3 number ik wD v tl' := by
    rintro v tl ⟨rfl, rfl⟩
    refine ⟨_, fun p hp => ?_, x, [], .bool false, rfl, ?_, ok, ?_, .bool _, rfl, rfl, rfl, rfl, fun led ht _ _ _ => ht⟩
    · rw [List.append_nil] at hp; exact hp
    · rw [List.append_nil]; exact ok.nd
    · refine .miss fun r hr => ?_
      have : r ∈ (x.c4 ++ x.c9).map (·.c) := by rw [List.map_append]; exact hr
      obtain ⟨y, hy, rfl⟩ := List.mem_map.mp this
      exact h y hy
  by_cases hex : ∃ r ∈ x.c4 ++ x.c9, r.c.key = number
  · obtain ⟨r, hr, hkr⟩ := hex
    have hv := St.vals ok r hr
    rw [hkr] at hv
    have hm : ∃ nx, rObj r ∈ x.led w.params ∧ rDict w.params r nx ∈ x.led w.params := by
      rcases List.mem_append.mp hr with h1 | h1
      · obtain ⟨pr, po, hc⟩ := List.append_of_mem h1
        have := chLed_mid w.params (r := r) (post := po) pr
        rw [← hc] at this
        exact ⟨_, List.mem_append_right _ (List.mem_append_left _ this.1), List.mem_append_right _ (List.mem_append_left _ this.2)⟩
      · obtain ⟨pr, po, hc⟩ := List.append_of_mem h1
        have := chLed_mid w.params (r := r) (post := po) pr
        rw [← hc] at this
        exact ⟨_, List.mem_append_right _ (List.mem_append_right _ this.1), List.mem_append_right _ (List.mem_append_right _ this.2)⟩
    obtain ⟨nx, m4, m5⟩ := hm
    exact ((done_dead_meets w (x.led w.params) r nx x.S x.nr x.gen x.od x.kvs number dt ut pa ik ok.hod ok.lo m1 m2 m3 hv m4 m5 (h r hr hkr)).conv (fun p hp => hp) hfin).more (by decide)
  · exact ((done_miss_meets w (x.led w.params) x.S x.nr x.gen x.od x.kvs number dt ut pa ik ok.hod ok.lo m1 m2 m3 (St.none_of ok fun r hr e => hex ⟨r, hr, e⟩)).conv (fun p hp => hp) hfin).more (by decide)
theorem done_meets (w : World) (x : St) (ok : x.Ok w) (ab : x.ab.Ok) (hnr : x.nr ≤ 18) (who deed number : Int) (dt ut : Tok) (pa ik : Addr) (wD : Dat) (hw : (who = 4 ∧ pa = x.P4.a) ∨ (who = 9 ∧ pa = x.P9.a)) (hd0 : 0 ≤ deed) (hd4 : deed ≤ 4) :
    Meets w 197 [.ref x.S.a, .ref pa, .int deed dt, .int number ut, .ref ik] 80 (x.led w.params) (DonePost w x who deed number ik wD) := by
  by_cases h2 : deed < 2
  · rcases hw with ⟨rfl, rfl⟩ | ⟨rfl, rfl⟩
    · exact st_app4 w x ok ab hnr deed number dt ut ik wD h2
    · exact st_app9 w x ok ab hnr deed number dt ut ik wD h2
  by_cases h3 : deed = 2
  · subst h3
    rcases hw with ⟨rfl, rfl⟩ | ⟨rfl, rfl⟩
    · exact st_pre4 w x ok ab hnr 2 number dt ut ik wD rfl
    · exact st_pre9 w x ok ab hnr 2 number dt ut ik wD rfl
  by_cases h4 : deed = 3
  · subst h4
    by_cases hex : ∃ r ∈ x.c4 ++ x.c9, r.c.key = number ∧ r.c.death < 0
    · obtain ⟨r, hr, e1, e2⟩ := hex
      rcases List.mem_append.mp hr with h1 | h1
      · exact st_live4 w x ok ab who number dt ut pa ik wD r h1 e1 e2
      · exact st_live9 w x ok ab who number dt ut pa ik wD r h1 e1 e2
    · exact st_miss w x ok who number dt ut pa ik wD fun r hr e => by
        by_cases hlt : r.c.death < 0
        · exact absurd ⟨r, hr, e, hlt⟩ hex
        · omega
  · have h5 : deed = 4 := by omega
    subst h5
    rcases hw with ⟨rfl, rfl⟩ | ⟨rfl, rfl⟩
    · exact st_kill4 w x ok ab hnr number dt ut ik wD
    · exact st_kill9 w x ok ab hnr number dt ut ik wD

end
section

/-- dead records out -/
noncomputable def sweepAb (a : Ab) : Ab := { a with q4 := a.q4.filter fun r => visB r a.gen, q9 := a.q9.filter fun r => visB r a.gen }
noncomputable def aliveB (since : Int) (r : Rc) : Bool := decide (r.death < 0 ∨ since < r.death)
/-- the swept store over the unswept one -/
structure Rel (since : Int) (C F : Ab) : Prop where
  nr : C.nr = F.nr
  gen : C.gen = F.gen
  q4 : C.q4 = F.q4.filter (aliveB since)
  q9 : C.q9 = F.q9.filter (aliveB since)
  lo : 0 ≤ since
  hi : since ≤ F.gen
theorem Ab.Ok.sub {a b : Ab} (h : a.Ok) (h4 : b.q4.Sublist a.q4) (h9 : b.q9.Sublist a.q9) (hn : b.nr = a.nr) (hg : b.gen = a.gen) : b.Ok := by
  have hs := h4.append h9
  refine ⟨List.Nodup.sublist (hs.map _) h.keys, fun r hr => ?_, fun r hr => ?_, fun r hr => ?_, ?_, ?_⟩
  · rw [hn]; exact h.rng r (hs.subset hr)
  · rw [hg]; exact h.bir r (hs.subset hr)
  · rw [hg]; exact h.dea r (hs.subset hr)
  · have := hs.length_le; have h2 := h.len; rw [hn]; omega
  · rw [hg]; exact h.gen0
theorem Rel.ok {since : Int} {C F : Ab} (R : Rel since C F) (h : F.Ok) : C.Ok := h.sub (by rw [R.q4]; exact List.filter_sublist) (by rw [R.q9]; exact List.filter_sublist) R.nr R.gen
theorem sweepAb_ok {a : Ab} (h : a.Ok) : (sweepAb a).Ok := h.sub List.filter_sublist List.filter_sublist rfl rfl
theorem filt_congr {q : List Rc} {p r : Rc → Bool} (h : ∀ x ∈ q, p x = r x) : q.filter p = q.filter r := List.filter_congr h
theorem vis_gen {a : Ab} (h : a.Ok) {r : Rc} (hr : r ∈ a.q4 ++ a.q9) : visB r a.gen = decide (r.death < 0) := by
  have h1 := h.bir r hr
  have h2 := h.dea r hr
  unfold visB
  congr 1
  apply propext
  constructor
  · rintro ⟨_, h | h⟩ <;> omega
  · intro h; exact ⟨h1, .inl h⟩
theorem alive_gen {a : Ab} (h : a.Ok) {r : Rc} (hr : r ∈ a.q4 ++ a.q9) : aliveB a.gen r = decide (r.death < 0) := by
  have h2 := h.dea r hr
  unfold aliveB
  congr 1
  apply propext
  constructor
  · rintro (h | h) <;> omega
  · intro h; exact .inl h
theorem vis_filt {since g : Int} {q : List Rc} (h : since ≤ g) : (q.filter (aliveB since)).filter (fun r => visB r g) = q.filter fun r => visB r g := by
  rw [List.filter_filter]
  refine filt_congr fun r _ => ?_
  unfold aliveB visB
  rw [← Bool.decide_and]
  congr 1
  apply propext
  constructor
  · exact fun h => h.1
  · rintro ⟨h1, h2⟩
    refine ⟨⟨h1, h2⟩, ?_⟩
    omega
theorem shown_rel {since g : Int} {q : List Rc} (h : since ≤ g) : shownD g (q.filter (aliveB since)) = shownD g q := by
  unfold shownD
  rw [vis_filt h]
theorem match_rel {since g : Int} {cd : Dat} {q : List Rc} (h : since ≤ g) : matchK g cd (q.filter (aliveB since)) = matchK g cd q := by
  have e : ∀ l : List Rc, matchK g cd l = ((l.filter fun r => visB r g).filter fun r => matchB r.word cd).map (·.key) := fun l => by
    unfold matchK
    rw [List.filter_filter]
    congr 1
    refine filt_congr fun r _ => ?_
    rw [Bool.and_comm]
  rw [e, e, vis_filt h]
theorem sweep_rel {since : Int} {C F : Ab} (R : Rel since C F) (h : F.Ok) : Rel F.gen (sweepAb C) F := by
  refine ⟨R.nr, R.gen, ?_, ?_, Int.le_trans R.lo R.hi, Int.le_refl _⟩
  · show C.q4.filter (fun r => visB r C.gen) = _
    rw [R.q4, R.gen, vis_filt R.hi]
    refine filt_congr fun r hr => ?_
    rw [vis_gen h (List.mem_append_left _ hr), alive_gen h (List.mem_append_left _ hr)]
  · show C.q9.filter (fun r => visB r C.gen) = _
    rw [R.q9, R.gen, vis_filt R.hi]
    refine filt_congr fun r hr => ?_
    rw [vis_gen h (List.mem_append_right _ hr), alive_gen h (List.mem_append_right _ hr)]
/-- the living of the full store -/
theorem sweep_live {since : Int} {C F : Ab} (R : Rel since C F) (h : F.Ok) : (sweepAb C).q4 = F.q4.filter (fun r => decide (r.death < 0)) ∧ (sweepAb C).q9 = F.q9.filter (fun r => decide (r.death < 0)) := by
  have S := sweep_rel R h
  rw [S.q4, S.q9]
  exact ⟨filt_congr fun r hr => alive_gen h (List.mem_append_left _ hr), filt_congr fun r hr => alive_gen h (List.mem_append_right _ hr)⟩
theorem sweep_idem (a : Ab) : sweepAb (sweepAb a) = sweepAb a := by
  unfold sweepAb
  simp only [List.filter_filter, Bool.and_self]

theorem mark_filt {since k v : Int} {q : List Rc} (hv : since < v) (h : ∀ r ∈ q, r.key = k → r.death < 0) : (markK k v q).filter (aliveB since) = markK k v (q.filter (aliveB since)) := by
  unfold markK
  rw [List.filter_map]
  congr 1
  refine filt_congr fun r hr => ?_
  simp only [Function.comp_def]
  split
  · have := h r hr (by assumption)
    unfold aliveB
    simp [this, hv]
  · rfl
theorem markAll_filt {since g v : Int} {q : List Rc} (hg : since ≤ g) (hv : since < v) : (markAll g v q).filter (aliveB since) = markAll g v (q.filter (aliveB since)) := by
  unfold markAll
  rw [List.filter_map]
  congr 1
  refine filt_congr fun r hr => ?_
  simp only [Function.comp_def]
  split
  · rename_i hvis
    unfold aliveB
    unfold visB at hvis
    simp only [decide_eq_true_eq] at hvis
    have h2 : r.death < 0 ∨ since < r.death := by omega
    simp [h2, hv]
  · rfl
theorem markK_ok {a : Ab} (h : a.Ok) (k : Int) : ({ a with gen := a.gen + 1, q4 := markK k (a.gen + 1) a.q4, q9 := markK k (a.gen + 1) a.q9 } : Ab).Ok := by
  have hm : ∀ q : List Rc, ∀ r ∈ markK k (a.gen + 1) q, ∃ y ∈ q, r.key = y.key ∧ r.birth = y.birth ∧ (r.death = y.death ∨ r.death = a.gen + 1) := by
    intro q r hr
    obtain ⟨y, hy, rfl⟩ := List.mem_map.mp hr
    refine ⟨y, hy, ?_⟩
    split
    · exact ⟨rfl, rfl, .inr rfl⟩
    · exact ⟨rfl, rfl, .inl rfl⟩
  have hk : ∀ q : List Rc, (markK k (a.gen + 1) q).map (·.key) = q.map (·.key) := by
    intro q
    unfold markK
    rw [List.map_map]
    refine List.map_congr_left fun r _ => ?_
    simp only [Function.comp_def]
    split <;> rfl
  have hall : ∀ r ∈ markK k (a.gen + 1) a.q4 ++ markK k (a.gen + 1) a.q9, ∃ y ∈ a.q4 ++ a.q9, r.key = y.key ∧ r.birth = y.birth ∧ (r.death = y.death ∨ r.death = a.gen + 1) := by
    intro r hr
    rcases List.mem_append.mp hr with hr | hr
    · obtain ⟨y, hy, e⟩ := hm _ r hr
      exact ⟨y, List.mem_append_left _ hy, e⟩
    · obtain ⟨y, hy, e⟩ := hm _ r hr
      exact ⟨y, List.mem_append_right _ hy, e⟩
  have hg := h.gen0
  refine ⟨?_, fun r hr => ?_, fun r hr => ?_, fun r hr => ?_, ?_, ?_⟩
  · have := h.keys
    rw [List.map_append] at this ⊢
    rw [hk, hk]; exact this
  · obtain ⟨y, hy, e, _, _⟩ := hall r hr
    have := h.rng y hy
    rw [e]; exact this
  · obtain ⟨y, hy, _, e, _⟩ := hall r hr
    have := h.bir y hy
    show r.birth ≤ a.gen + 1
    omega
  · obtain ⟨y, hy, _, _, e⟩ := hall r hr
    have := h.dea y hy
    show r.death ≤ a.gen + 1
    omega
  · have := h.len
    simp only [List.length_append, markK, List.length_map] at this ⊢
    exact this
  · show 0 ≤ a.gen + 1
    omega
theorem markAll_ok {a : Ab} (h : a.Ok) (g : Int) {q4 q9 : List Rc} (h4 : q4 = a.q4 ∨ q4 = markAll g (a.gen + 1) a.q4) (h9 : q9 = a.q9 ∨ q9 = markAll g (a.gen + 1) a.q9) : ({ a with gen := a.gen + 1, q4 := q4, q9 := q9 } : Ab).Ok := by
  have hm : ∀ q q' : List Rc, (q' = q ∨ q' = markAll g (a.gen + 1) q) → (q'.map (·.key) = q.map (·.key)) ∧ ∀ r ∈ q', ∃ y ∈ q, r.key = y.key ∧ r.birth = y.birth ∧ (r.death = y.death ∨ r.death = a.gen + 1) := by
    rintro q q' (rfl | rfl)
    · exact ⟨rfl, fun r hr => ⟨r, hr, rfl, rfl, .inl rfl⟩⟩
    · constructor
      · unfold markAll
        rw [List.map_map]
        refine List.map_congr_left fun r _ => ?_
        simp only [Function.comp_def]
        split <;> rfl
      · intro r hr
        obtain ⟨y, hy, rfl⟩ := List.mem_map.mp hr
        refine ⟨y, hy, ?_⟩
        split
        · exact ⟨rfl, rfl, .inr rfl⟩
        · exact ⟨rfl, rfl, .inl rfl⟩
  obtain ⟨k4, m4⟩ := hm _ _ h4
  obtain ⟨k9, m9⟩ := hm _ _ h9
  have hall : ∀ r ∈ q4 ++ q9, ∃ y ∈ a.q4 ++ a.q9, r.key = y.key ∧ r.birth = y.birth ∧ (r.death = y.death ∨ r.death = a.gen + 1) := by
    intro r hr
    rcases List.mem_append.mp hr with hr | hr
    · obtain ⟨y, hy, e⟩ := m4 r hr
      exact ⟨y, List.mem_append_left _ hy, e⟩
    · obtain ⟨y, hy, e⟩ := m9 r hr
      exact ⟨y, List.mem_append_right _ hy, e⟩
  have hg := h.gen0
  refine ⟨?_, fun r hr => ?_, fun r hr => ?_, fun r hr => ?_, ?_, ?_⟩
  · have := h.keys
    rw [List.map_append] at this ⊢
    rw [k4, k9]; exact this
  · obtain ⟨y, hy, e, _, _⟩ := hall r hr
    have := h.rng y hy
    rw [e]; exact this
  · obtain ⟨y, hy, _, e, _⟩ := hall r hr
    have := h.bir y hy
    show r.birth ≤ a.gen + 1
    omega
  · obtain ⟨y, hy, _, _, e⟩ := hall r hr
    have := h.dea y hy
    show r.death ≤ a.gen + 1
    omega
  · have l4 := congrArg List.length k4
    have l9 := congrArg List.length k9
    have := h.len
    simp only [List.length_append, List.length_map] at this l4 l9 ⊢
    rw [l4, l9]
    exact this
  · show 0 ≤ a.gen + 1
    omega
theorem new_ok {a : Ab} (h : a.Ok) (n : Rc) (hk : n.key = a.nr) (hb : n.birth = a.gen + 1) (hd : n.death = -1) (hnr : 0 ≤ a.nr) {q4 q9 : List Rc} (hp : (q4 ++ q9).Perm (n :: (a.q4 ++ a.q9))) :
    ({ nr := a.nr + 1, gen := a.gen + 1, q4 := q4, q9 := q9 } : Ab).Ok := by
  have hg := h.gen0
  have hmem : ∀ r ∈ q4 ++ q9, r = n ∨ r ∈ a.q4 ++ a.q9 := fun r hr => List.mem_cons.mp (hp.subset hr)
  refine ⟨?_, fun r hr => ?_, fun r hr => ?_, fun r hr => ?_, ?_, ?_⟩
  · refine ((hp.map (·.key)).nodup_iff).mpr ?_
    rw [List.map_cons, List.nodup_cons]
    refine ⟨fun q => ?_, h.keys⟩
    obtain ⟨y, hy, e⟩ := List.mem_map.mp q
    have := (h.rng y hy).2
    omega
  · show 0 ≤ r.key ∧ r.key < a.nr + 1
    rcases hmem r hr with rfl | hr
    · omega
    · have := h.rng r hr; omega
  · show r.birth ≤ a.gen + 1
    rcases hmem r hr with rfl | hr
    · omega
    · have := h.bir r hr; omega
  · show r.death ≤ a.gen + 1
    rcases hmem r hr with rfl | hr
    · omega
    · have := h.dea r hr; omega
  · have := h.len
    have hl := hp.length_eq
    simp only [List.length_cons] at hl
    show ((q4 ++ q9).length : Int) ≤ a.nr + 1
    omega
  · show 0 ≤ a.gen + 1
    omega
theorem nodup_key {q : List Rc} (h : (q.map (·.key)).Nodup) {a b : Rc} (ha : a ∈ q) (hb : b ∈ q) (e : a.key = b.key) : a = b := by
  induction q with
  | nil => exact absurd ha List.not_mem_nil
  | cons x xs ih =>
    rw [List.map_cons, List.nodup_cons] at h
    rcases List.mem_cons.mp ha with rfl | ha'
    · rcases List.mem_cons.mp hb with rfl | hb'
      · rfl
      · exact absurd (by rw [e]; exact List.mem_map_of_mem (f := fun r : Rc => r.key) hb') h.1
    · rcases List.mem_cons.mp hb with rfl | hb'
      · exact absurd (by rw [← e]; exact List.mem_map_of_mem (f := fun r : Rc => r.key) ha') h.1
      · exact ih h.2 ha' hb'
theorem alive_new (since : Int) (n : Rc) (h : n.death = -1) : aliveB since n = true := by
  unfold aliveB; simp [h]
/-- a deed done alike keeps the swept store over the unswept one -/
theorem step_rel {wD : Dat} {since who d n : Int} {C C' F F' : Ab} {tC tF : Told} (R : Rel since C F) (ok : F.Ok) (hnr : 0 ≤ F.nr) (h1 : Step wD who d n C C' tC) (h2 : Step wD who d n F F' tF) :
    tC = tF ∧ Rel since C' F' ∧ F'.Ok ∧ F.nr ≤ F'.nr ∧ F'.nr ≤ F.nr + 1 := by
  have hg := R.hi
  have l0 := R.lo
  have hmem4 : ∀ r ∈ C.q4, r ∈ F.q4 := fun r hr => by rw [R.q4] at hr; exact (List.mem_filter.mp hr).1
  have hmem9 : ∀ r ∈ C.q9, r ∈ F.q9 := fun r hr => by rw [R.q9] at hr; exact (List.mem_filter.mp hr).1
  have hvis4 : C.q4.filter (fun r => visB r C.gen) = F.q4.filter fun r => visB r F.gen := by rw [R.q4, R.gen, vis_filt hg]
  have hvis9 : C.q9.filter (fun r => visB r C.gen) = F.q9.filter fun r => visB r F.gen := by rw [R.q9, R.gen, vis_filt hg]
  cases h2 with
  | app4 hd =>
    cases h1 with
    | app4 _ =>
      refine ⟨by rw [R.nr], ⟨by simp only [R.nr], by simp only [R.gen], ?_, R.q9, l0, ?_⟩, ?_, ?_, ?_⟩
      · simp only [List.filter_append, List.filter_cons, List.filter_nil, alive_new, if_true, R.q4, R.nr, R.gen]
      · show since ≤ F.gen + 1; omega
      · refine new_ok ok ⟨F.nr, 4, F.gen + 1, -1, 100 + 3 * n, .tuple [.str (Str.ofString "i"), .int (50 - n)], wD⟩ rfl rfl rfl hnr ?_
        rw [List.append_assoc]; exact List.perm_middle
      · show F.nr ≤ F.nr + 1; omega
      · show F.nr + 1 ≤ F.nr + 1; omega
    | _ => omega
  | app9 hd =>
    cases h1 with
    | app9 _ =>
      refine ⟨by rw [R.nr], ⟨by simp only [R.nr], by simp only [R.gen], R.q4, ?_, l0, ?_⟩, ?_, ?_, ?_⟩
      · simp only [List.filter_append, List.filter_cons, List.filter_nil, alive_new, if_true, R.q9, R.nr, R.gen]
      · show since ≤ F.gen + 1; omega
      · refine new_ok ok ⟨F.nr, 9, F.gen + 1, -1, 100 + 3 * n, .tuple [.str (Str.ofString "i"), .int (50 - n)], wD⟩ rfl rfl rfl hnr ?_
        rw [← List.append_assoc]; exact List.perm_append_comm
      · show F.nr ≤ F.nr + 1; omega
      · show F.nr + 1 ≤ F.nr + 1; omega
    | _ => omega
  | pre4 =>
    cases h1 with
    | pre4 =>
      refine ⟨by rw [R.nr], ⟨by simp only [R.nr], by simp only [R.gen], ?_, R.q9, l0, ?_⟩, ?_, ?_, ?_⟩
      · simp only [List.filter_cons, alive_new, if_true, R.q4, R.nr, R.gen]
      · show since ≤ F.gen + 1; omega
      · exact new_ok ok _ rfl rfl rfl hnr (List.Perm.refl _)
      · show F.nr ≤ F.nr + 1; omega
      · show F.nr + 1 ≤ F.nr + 1; omega
    | app4 h => omega
  | pre9 =>
    cases h1 with
    | pre9 =>
      refine ⟨by rw [R.nr], ⟨by simp only [R.nr], by simp only [R.gen], R.q4, ?_, l0, ?_⟩, ?_, ?_, ?_⟩
      · simp only [List.filter_cons, alive_new, if_true, R.q9, R.nr, R.gen]
      · show since ≤ F.gen + 1; omega
      · exact new_ok ok _ rfl rfl rfl hnr List.perm_middle
      · show F.nr ≤ F.nr + 1; omega
      · show F.nr + 1 ≤ F.nr + 1; omega
    | app9 h => omega
  | miss hm =>
    cases h1 with
    | miss _ => exact ⟨rfl, R, ok, Int.le_refl _, by omega⟩
    | live hl =>
      obtain ⟨r, hr, e1, e2⟩ := hl
      have h9 : r ∈ F.q4 ++ F.q9 := (List.mem_append.mp hr).elim (fun h => List.mem_append_left _ (hmem4 r h)) fun h => List.mem_append_right _ (hmem9 r h)
      have := hm r h9 e1
      omega
    | app4 h => omega
    | app9 h => omega
  | live hl =>
    obtain ⟨r, hr, e1, e2⟩ := hl
    have huniq : ∀ y ∈ F.q4 ++ F.q9, y.key = n → y.death < 0 := by
      intro y hy e
      have : y = r := nodup_key ok.keys hy hr (e.trans e1.symm)
      rw [this]; exact e2
    cases h1 with
    | miss hm =>
      have hal : aliveB since r = true := by unfold aliveB; simp [e2]
      have h9 : r ∈ C.q4 ++ C.q9 := by
        rw [R.q4, R.q9]
        exact (List.mem_append.mp hr).elim (fun h => List.mem_append_left _ (List.mem_filter.mpr ⟨h, hal⟩)) fun h => List.mem_append_right _ (List.mem_filter.mpr ⟨h, hal⟩)
      have := hm r h9 e1
      omega
    | live _ =>
      refine ⟨rfl, ⟨R.nr, by simp only [R.gen], ?_, ?_, l0, ?_⟩, markK_ok ok n, Int.le_refl _, ?_⟩
      · show markK n (C.gen + 1) C.q4 = _
        rw [mark_filt (by omega) fun y hy => huniq y (List.mem_append_left _ hy), R.gen, R.q4]
      · show markK n (C.gen + 1) C.q9 = _
        rw [mark_filt (by omega) fun y hy => huniq y (List.mem_append_right _ hy), R.gen, R.q9]
      · show since ≤ F.gen + 1; omega
      · show F.nr ≤ F.nr + 1; omega
    | app4 h => omega
    | app9 h => omega
  | kill4 hne =>
    cases h1 with
    | kill4 _ =>
      refine ⟨rfl, ⟨R.nr, by simp only [R.gen], ?_, R.q9, l0, ?_⟩, markAll_ok ok _ (.inr rfl) (.inl rfl), Int.le_refl _, ?_⟩
      · show markAll C.gen (C.gen + 1) C.q4 = _
        rw [markAll_filt hg (by omega), R.gen, R.q4]
      · show since ≤ F.gen + 1; omega
      · show F.nr ≤ F.nr + 1; omega
    | none4 h => exact absurd (hvis4.symm.trans h) hne
    | app4 h => omega
  | kill9 hne =>
    cases h1 with
    | kill9 _ =>
      refine ⟨rfl, ⟨R.nr, by simp only [R.gen], R.q4, ?_, l0, ?_⟩, markAll_ok ok _ (.inl rfl) (.inr rfl), Int.le_refl _, ?_⟩
      · show markAll C.gen (C.gen + 1) C.q9 = _
        rw [markAll_filt hg (by omega), R.gen, R.q9]
      · show since ≤ F.gen + 1; omega
      · show F.nr ≤ F.nr + 1; omega
    | none9 h => exact absurd (hvis9.symm.trans h) hne
    | app9 h => omega
  | none4 he =>
    cases h1 with
    | none4 _ => exact ⟨rfl, R, ok, Int.le_refl _, by omega⟩
    | kill4 h => exact absurd (hvis4.trans he) h
    | app4 h => omega
  | none9 he =>
    cases h1 with
    | none9 _ => exact ⟨rfl, R, ok, Int.le_refl _, by omega⟩
    | kill9 h => exact absurd (hvis9.trans he) h
    | app9 h => omega

end
section
local macro_rules | `(tactic| walk_at "m_pad") => `(tactic| skip)

theorem St.hkeys {x : St} (h : x.ab.Ok) : ((x.c4 ++ x.c9).map (·.c.key)).Nodup := by
  have := h.keys
  simp only [St.ab, List.map_append, List.map_map] at this
  rw [List.map_append]
  exact this
theorem tag_cs {g : Int} {c d : List RecA} (h : d.map core = (tagL g c).map fun x => core x.1) : d.map (·.c) = (c.map (·.c)).filter fun r => visB r g := by
  rw [← tagL_c]
  have := congrArg (List.map (fun t : Addr × Addr × Addr × Addr × Rc => t.2.2.2.2)) h
  simpa only [List.map_map, Function.comp_def] using this
theorem tag_term {led : List (Addr × Obj)} {g : Int} {c d : List RecA} (h : d.map core = (tagL g c).map fun x => core x.1) (t : ∀ r ∈ c, TermOk led r) : ∀ r ∈ d, TermOk led r := by
  have e : d.map core = ((tagL g c).map (·.1)).map core := by rw [h, List.map_map]; rfl
  exact term_core e fun r hr => t r ((tag_sub g c).subset hr)
theorem sweep_st (w : World) (x : St) (ok : x.Ok w) (ab : x.ab.Ok) (hnr : x.nr ≤ 18) :
    Meets w 176 [.ref x.S.a, .ref x.pd] 60 (x.led w.params)
      (fun v tl => ∃ (x' : St) (t : Tok), v = .int ((x.kvs.length : Int) - (x'.kvs.length : Int)) t ∧ tl = x'.led w.params ∧ x'.Ok w ∧ x'.ab = sweepAb x.ab ∧ x'.S.a = x.S.a ∧ x'.pd = x.pd ∧ x'.P4.a = x.P4.a ∧ x'.P9.a = x.P9.a ∧ ∀ led, x.terms led → x'.terms led) := by
  obtain ⟨z1, z2, z3⟩ := size_ok ok ab hnr
  have hl := St.kvlen ok
  have hv := St.vals ok
  have hp := St.kpos ab
  refine (sweep_meets w x.S x.nr x.gen x.od x.po x.kvs x.pd x.P4 x.P9 x.c4 x.c9 (lastK x.c4) (lastK x.c9) ok.hod ok.hpo ok.lo ok.lo2 (by omega) (fun r hr => hv r (List.mem_append_left _ hr)) (fun r hr => hv r (List.mem_append_right _ hr))
    (fun r hr => (hp r (List.mem_append_left _ hr)).1) (fun r hr => (hp r (List.mem_append_right _ hr)).1) z2 z3 (St.hkeys ab) ok.nd).conv (fun p hp => hp) ?_
  rintro v tl ⟨t, d4, d9, kd, od', rt, f4, g4, f9, g9, rfl, q4, q9, hkd, hod, rfl, hnd⟩
  refine ⟨_, fun p hp => hp, ⟨{ x.S with rd := kd, t1 := rt }, x.nr, x.gen, od', kvOf d4 ++ kvOf d9, x.pd, x.po, { x.P4 with fT := f4, lT := g4 }, { x.P9 with fT := f9, lT := g9 }, d4, d9⟩, t, ?_, rfl, ⟨hod, ok.hpo, hkd, ok.lo2, List.Perm.refl _, ok.f4, ok.f9, hnd⟩, ?_, rfl, rfl, rfl, rfl, ?_⟩
  · rw [List.length_append, kvOf_length, kvOf_length, core_len q4, core_len q9, Int.natCast_add]
  · simp only [St.ab, sweepAb, tag_cs q4, tag_cs q9]
  · intro led ht
    exact terms_both (tag_term q4 fun r hr => ht r (List.mem_append_left _ hr)) (tag_term q9 fun r hr => ht r (List.mem_append_right _ hr))
theorem st_in {w : World} {x : St} {led : List (Addr × Obj)} (ok : x.Ok w) (ab : x.ab.Ok) (hnr : x.nr ≤ 18) (hs : ∀ p ∈ x.led w.params, p ∈ led) (ht : x.terms led) :
    StIn w led x.S x.nr x.gen x.od x.kvs x.pd x.po x.P4 x.P9 x.c4 x.c9 (lastK x.c4) (lastK x.c9) := by
  obtain ⟨z1, z2, z3⟩ := size_ok ok ab hnr
  have hv := St.vals ok
  have hp := St.kpos ab
  have m : ∀ p, p ∈ [sObj x.S, sDict w.params x.S x.nr x.gen, (x.S.rd, x.od), (x.pd, x.po), pObj x.P4, pDict w.params x.P4 (hk x.c4) (lastK x.c4), pObj x.P9, pDict w.params x.P9 (hk x.c9) (lastK x.c9)] → p ∈ led := fun p hp => hs p (List.mem_append_left _ hp)
  exact ⟨m _ (.head _), m _ (.tail _ (.head _)), m _ (.tail _ (.tail _ (.head _))), ok.hod, m _ (.tail _ (.tail _ (.tail _ (.head _)))), ok.hpo, m _ (.tail _ (.tail _ (.tail _ (.tail _ (.head _))))), m _ (.tail _ (.tail _ (.tail _ (.tail _ (.tail _ (.head _)))))), m _ (.tail _ (.tail _ (.tail _ (.tail _ (.tail _ (.tail _ (.head _))))))), m _ (.tail _ (.tail _ (.tail _ (.tail _ (.tail _ (.tail _ (.tail _ (.head _)))))))),
    fun p hp => hs p (List.mem_append_right _ (List.mem_append_left _ hp)), fun p hp => hs p (List.mem_append_right _ (List.mem_append_right _ hp)),
    fun r hr => hv r (List.mem_append_left _ hr), fun r hr => hv r (List.mem_append_right _ hr), fun r hr => (hp r (List.mem_append_left _ hr)).1, fun r hr => (hp r (List.mem_append_right _ hr)).1, z2, z3,
    fun r hr => ht r (List.mem_append_left _ hr), fun r hr => ht r (List.mem_append_right _ hr)⟩
theorem alike_st (w : World) (led : List (Addr × Obj)) (x y : St) (okx : x.Ok w) (oky : y.Ok w) (aby : y.ab.Ok) (hnr : y.nr ≤ 18) (hx : ∀ p ∈ x.led w.params, p ∈ led) (hy : ∀ p ∈ y.led w.params, p ∈ led) (tx : x.terms led) (ty : y.terms led)
    (since g : Int) (gt : Tok) (cell : Addr) (cd : Dat) (R : Rel since x.ab y.ab) (hg : since ≤ g) (hcell : DatIn led (.ref cell) cd) (hcok : kqdOk 8 cd = true) :
    Meets w 218 [.ref x.S.a, .ref y.S.a, .ref x.pd, .ref y.pd, .int g gt, .ref cell] 100 led (fun v tl => v = .bool true ∧ tl = led) := by
  have abx := R.ok aby
  have hnx : x.nr ≤ 18 := by have := R.nr; simp only [St.ab] at this; omega
  have h4 : x.c4.map (·.c) = (y.c4.map (·.c)).filter (aliveB since) := R.q4
  have h9 : x.c9.map (·.c) = (y.c9.map (·.c)).filter (aliveB since) := R.q9
  exact alike_meets w led x.S y.S x.nr x.gen y.nr y.gen x.od y.od x.kvs y.kvs x.pd y.pd x.po y.po x.P4 x.P9 y.P4 y.P9 x.c4 x.c9 y.c4 y.c9 (lastK x.c4) (lastK x.c9) (lastK y.c4) (lastK y.c9) g gt cell cd
    (st_in okx abx hnx hx tx) (st_in oky aby hnr hy ty) hcell hcok (by rw [h4, shown_rel hg]) (by rw [h9, shown_rel hg]) (by rw [h4, match_rel hg]) (by rw [h9, match_rel hg])

end
section

section
theorem store_meets (w : World) :
    Meets w 165 [] 20 [] (fun v tl => ∃ (S : StA) (od : Obj), v = .ref S.a ∧ od.IsDictOf (PySem.intKind PySem.Challenge.rw_rh0068_01.row.prog w) [] ∧ (S.rd == sysModules) = false ∧ tl = [sObj S, sDict w.params S 0 0, (S.rd, od)] ∧ NdA tl) := by
  w_on
  unfold Meets
  k_fill
  intro dp un gd cn cs a ccd cl outer A₀ base h₀ L m rest s mean mg mb Q E B F X N D T hk9 hdp hun ret
  k_dflt (refine' call_cls ?k1 ?k2 ?k3 ?k4 ?k5 ?k6 ?_; (case k1 => k_asm); (case k2 => k_asm); (case k3 => k_asm); (case k4 => k_is); (case k5 => k_is); (case k6 => k_is); k_whole)
  intro x d h1 F1 N1 l1 l2
  have l3 : @LT.lt Nat _ d x := l2
  have D1 : Disj [(x, instObj 165 d), (d, dictOf [] 0)] rest := by
    intro p hp q hq
    have h5 : @LT.lt Nat _ q.1 d := l1 q hq
    simp only [List.mem_cons, List.not_mem_nil, or_false] at hp
    rcases hp with rfl | rfl
    · exact fun e => absurd (e : x = q.1) (Nat.ne_of_gt (Nat.lt_trans h5 l3))
    · exact fun e => absurd (e : d = q.1) (Nat.ne_of_gt h5)
  replace N1 : News h₀ L h1 ([(x, instObj 165 d), (d, dictOf [] 0)] ++ rest) := N1
  k_dflt (refine' code_frame ?k1 ?k2 ?k3 ?k4 ?kD ?k5 ?kA ?kF ?kK ?k6 ?k7 ?k8 ?k9 ?kB ?_ ?c2 ?c3 ?c4 ?c5; (case kA => exact rfl); (case kF => exact rfl); (case kK => assumption); (case k1 => k_asm); (case k2 => k_asm); (case k3 => k_asm); (case k4 => with_reducible assumption); (case kD => with_reducible assumption); (case k5 => k_asm); (case k6 => k_is); (case k7 => k_is); (case k8 => ktr_room); (case k9 => exact BindsTo.of_eq rfl); (case c5 => decide); (case kB => exact locs rfl); (case c2 => exact rfl); (case c3 => exact rfl); (case c4 => exact rfl); k_whole)
  intro _ _ _ _ _ _ _ _ _ l1
  (try k_lt l1)
  (try dsimp only)
  (try k_fold)
  k_steps
  rename_i rd _ od lo hs fs hi fi l4 _ _ _ _ _
  (try k_unfold)
  (try dsimp only)
  refine' ⟨_, _, _, ?k1, ?k2, ?_⟩
  (case k1 => k_asm)
  (case k2 => k_asm)
  intro _ _ _
  (try dsimp only)
  rename_i kF kN kD
  refine ⟨rfl, ?_⟩
  obtain ⟨t1, t2, t3, t4, t5, kN2⟩ : ∃ t1 t2 t3 t4 t5, News h₀ L _ ([(rd, od), sObj ⟨x, d, rd, t1, t2, t3, t4, t5⟩, sDict w.params ⟨x, d, rd, t1, t2, t3, t4, t5⟩ 0 0] ++ rest) := ⟨_, _, _, _, _, kN⟩
  refine' ret (.ref x) [sObj ⟨x, d, rd, t1, t2, t3, t4, t5⟩, sDict w.params ⟨x, d, rd, t1, t2, t3, t4, t5⟩ 0 0, (rd, od)] _ _ kF (news_sub kN2 ?e1) ?e2 ⟨⟨x, d, rd, t1, t2, t3, t4, t5⟩, od, rfl, hi, lo, rfl, ?e3⟩
  case e1 => exact fun p hp => ((List.Perm.append_right rest (List.perm_append_comm (l₁ := [_, _]) (l₂ := [_]))).subset hp)
  case e2 =>
    have kD2 := kD.left (l' := [_, _, _]) (List.Perm.subset (List.perm_append_comm (l₁ := [_, _]) (l₂ := [_])))
    exact kD2.addr rfl
  case e3 =>
    simp only [NdA, List.map_cons, List.map_nil, List.nodup_cons, List.mem_cons, List.not_mem_nil, or_false, not_or, List.nodup_nil, and_true, not_false_eq_true]
    (and_intros <;> first | with_reducible assumption | (refine Ne.symm ?_; with_reducible assumption) | omega)
theorem proc_meets (w : World) (fn : Int) (ft kt : Tok) (kd : Str) :
    Meets w 74 [.int fn ft, .str kd kt] 20 [] (fun v tl => ∃ P : PrA, v = .ref P.a ∧ P.fn = fn ∧ tl = [pObj P, pDict w.params P (-1) (-1)] ∧ NdA tl) := by
  w_on
  unfold Meets
  k_fill
  intro dp un gd cn cs a ccd cl outer A₀ base h₀ L m rest s mean mg mb Q E B F X N D T hk9 hdp hun ret
  k_dflt (refine' call_cls ?k1 ?k2 ?k3 ?k4 ?k5 ?k6 ?_; (case k1 => k_asm); (case k2 => k_asm); (case k3 => k_asm); (case k4 => k_is); (case k5 => k_is); (case k6 => k_is); k_whole)
  intro x d h1 F1 N1 l1 l2
  have l3 : @LT.lt Nat _ d x := l2
  have D1 : Disj [(x, instObj 74 d), (d, dictOf [] 0)] rest := by
    intro p hp q hq
    have h5 : @LT.lt Nat _ q.1 d := l1 q hq
    simp only [List.mem_cons, List.not_mem_nil, or_false] at hp
    rcases hp with rfl | rfl
    · exact fun e => absurd (e : x = q.1) (Nat.ne_of_gt (Nat.lt_trans h5 l3))
    · exact fun e => absurd (e : d = q.1) (Nat.ne_of_gt h5)
  replace N1 : News h₀ L h1 ([(x, instObj 74 d), (d, dictOf [] 0)] ++ rest) := N1
  k_dflt (refine' code_frame ?k1 ?k2 ?k3 ?k4 ?kD ?k5 ?kA ?kF ?kK ?k6 ?k7 ?k8 ?k9 ?kB ?_ ?c2 ?c3 ?c4 ?c5; (case kA => exact rfl); (case kF => exact rfl); (case kK => assumption); (case k1 => k_asm); (case k2 => k_asm); (case k3 => k_asm); (case k4 => with_reducible assumption); (case kD => with_reducible assumption); (case k5 => k_asm); (case k6 => k_is); (case k7 => k_is); (case k8 => ktr_room); (case k9 => exact BindsTo.of_eq rfl); (case c5 => decide); (case kB => exact locs rfl); (case c2 => exact rfl); (case c3 => exact rfl); (case c4 => exact rfl); k_whole)
  intro _ _ _ _ _ _ _ _ _ l1
  (try k_lt l1)
  (try dsimp only)
  (try k_fold)
  k_steps
  (try k_unfold)
  (try dsimp only)
  refine' ⟨_, _, _, ?k1, ?k2, ?_⟩
  (case k1 => k_asm)
  (case k2 => k_asm)
  intro _ _ _
  (try dsimp only)
  rename_i kF kN kD
  refine ⟨rfl, ?_⟩
  obtain ⟨a1, a2, fT0, kV, eV, cV, tV, lV, hV, pV, f1, f2, u1, u2, u3, u4, u5, u6, u7, u8, u9, u10, kN2⟩ : ∃ a1 a2 fT0 kV eV cV tV lV hV pV f1 f2 u1 u2 u3 u4 u5 u6 u7 u8 u9 u10, News h₀ L _ ([(a1, listOf #[] 0), (a2, listOf #[] 0), pObj ⟨x, d, fn, fT0, kV, eV, cV, tV, lV, hV, pV, f1, f2, u1, u2, u3, u4, u5, u6, u7, u8, u9, u10⟩, pDict w.params ⟨x, d, fn, fT0, kV, eV, cV, tV, lV, hV, pV, f1, f2, u1, u2, u3, u4, u5, u6, u7, u8, u9, u10⟩ (-1) (-1)] ++ rest) := ⟨_, _, _, _, _, _, _, _, _, _, _, _, _, _, _, _, _, _, _, _, _, _, kN⟩
  have kD2 : Disj [pObj ⟨x, d, fn, fT0, kV, eV, cV, tV, lV, hV, pV, f1, f2, u1, u2, u3, u4, u5, u6, u7, u8, u9, u10⟩, pDict w.params ⟨x, d, fn, fT0, kV, eV, cV, tV, lV, hV, pV, f1, f2, u1, u2, u3, u4, u5, u6, u7, u8, u9, u10⟩ (-1) (-1)] rest := Disj.addr (kD.left (l' := [(x, _), (d, _)]) (fun p hp => .tail _ (.tail _ hp))) rfl
  refine' ret (.ref x) [pObj ⟨x, d, fn, fT0, kV, eV, cV, tV, lV, hV, pV, f1, f2, u1, u2, u3, u4, u5, u6, u7, u8, u9, u10⟩, pDict w.params ⟨x, d, fn, fT0, kV, eV, cV, tV, lV, hV, pV, f1, f2, u1, u2, u3, u4, u5, u6, u7, u8, u9, u10⟩ (-1) (-1)] _ _ kF (news_sub kN2 ?e1) kD2 ⟨⟨x, d, fn, fT0, kV, eV, cV, tV, lV, hV, pV, f1, f2, u1, u2, u3, u4, u5, u6, u7, u8, u9, u10⟩, rfl, rfl, rfl, ?e3⟩
  case e1 => exact fun p hp => .tail _ (.tail _ hp)
  case e3 =>
    simp only [NdA, List.map_cons, List.map_nil, List.nodup_cons, List.mem_cons, List.not_mem_nil, or_false, not_or, List.nodup_nil, and_true, not_false_eq_true]
    (and_intros <;> first | with_reducible assumption | (refine Ne.symm ?_; with_reducible assumption) | omega)
end

end
section
local macro_rules | `(tactic| walk_at "m_pad") => `(tactic| skip)

theorem Disj.symm {a b : List (Addr × Obj)} (D : Disj a b) : Disj b a := fun p hp q hq e => D q hq p hp e.symm
theorem Disj.append {a b r : List (Addr × Obj)} (D : Disj a r) (D' : Disj b r) : Disj (a ++ b) r := fun p hp q hq => (List.mem_append.mp hp).elim (fun h => D p h q hq) fun h => D' p h q hq
theorem Disj.appendR {a r t : List (Addr × Obj)} (D : Disj a r) (D' : Disj a t) : Disj a (r ++ t) := (D.symm.append D'.symm).symm
theorem Disj.l {a b r : List (Addr × Obj)} (D : Disj (a ++ b) r) : Disj a r := D.left fun _ h => List.mem_append_left _ h
theorem Disj.r {a b r : List (Addr × Obj)} (D : Disj (a ++ b) r) : Disj b r := D.left fun _ h => List.mem_append_right _ h
theorem Disj.sub {a r r' : List (Addr × Obj)} (D : Disj a r) (h : ∀ p ∈ r', p ∈ r) : Disj a r' := fun p hp q hq => D p hp q (h q hq)
/-- four parts of a ledger, apart -/
structure Sep4 (a b c z : List (Addr × Obj)) : Prop where
  ab : Disj a b
  ac : Disj a c
  az : Disj a z
  bc : Disj b c
  bz : Disj b z
  cz : Disj c z
theorem Sep4.call1 {a a' b c z t : List (Addr × Obj)} (S : Sep4 a b c z) (D : Disj (a' ++ t) (b ++ (c ++ z))) (n : NdA (a' ++ t)) : Sep4 a' b c (t ++ z) :=
  ⟨D.l.symm.l.symm, D.l.symm.r.l.symm, (ndA_disj n).appendR D.l.symm.r.r.symm, S.bc, D.r.symm.l.appendR S.bz, D.r.symm.r.l.appendR S.cz⟩
theorem Sep4.call2 {a b b' c z t : List (Addr × Obj)} (S : Sep4 a b c z) (D : Disj (b' ++ t) (a ++ (c ++ z))) (n : NdA (b' ++ t)) : Sep4 a b' c (t ++ z) :=
  ⟨D.l.symm.l, S.ac, D.r.symm.l.appendR S.az, D.l.symm.r.l.symm, (ndA_disj n).appendR D.l.symm.r.r.symm, D.r.symm.r.l.appendR S.cz⟩
theorem Sep4.callF {a b c c' z : List (Addr × Obj)} (S : Sep4 a b c z) (D : Disj c' (a ++ (b ++ z))) : Sep4 a b c' z :=
  ⟨S.ab, D.symm.l, S.az, D.symm.r.l, S.bz, D.symm.r.r.symm⟩
theorem Sep4.addF {a b c z t : List (Addr × Obj)} (S : Sep4 a b c z) (D : Disj (a ++ (b ++ (c ++ z))) t) : Sep4 a b c (z ++ t) :=
  ⟨S.ab, S.ac, S.az.appendR D.l, S.bc, S.bz.appendR D.r.l, S.cz.appendR D.r.r.l⟩
theorem Sep4.subZ {a b c z z' : List (Addr × Obj)} (S : Sep4 a b c z) (h : ∀ p ∈ z', p ∈ z) : Sep4 a b c z' := ⟨S.ab, S.ac, S.az.sub h, S.bc, S.bz.sub h, S.cz.sub h⟩
section
variable {α : Type} {a b c z TL E : List α}
theorem in_a (h : ∀ p ∈ a ++ (b ++ (c ++ z)), p ∈ TL) : ∀ p ∈ a, p ∈ TL := fun p hp => h p (List.mem_append_left _ hp)
theorem in_b (h : ∀ p ∈ a ++ (b ++ (c ++ z)), p ∈ TL) : ∀ p ∈ b, p ∈ TL := fun p hp => h p (List.mem_append_right _ (List.mem_append_left _ hp))
theorem in_c (h : ∀ p ∈ a ++ (b ++ (c ++ z)), p ∈ TL) : ∀ p ∈ c, p ∈ TL := fun p hp => h p (List.mem_append_right _ (List.mem_append_right _ (List.mem_append_left _ hp)))
theorem in_z (h : ∀ p ∈ a ++ (b ++ (c ++ z)), p ∈ TL) : ∀ p ∈ z, p ∈ TL := fun p hp => h p (List.mem_append_right _ (List.mem_append_right _ (List.mem_append_right _ hp)))
theorem in_four (ha : ∀ p ∈ a, p ∈ TL) (hb : ∀ p ∈ b, p ∈ TL) (hc : ∀ p ∈ c, p ∈ TL) (hz : ∀ p ∈ z, p ∈ TL) : ∀ p ∈ a ++ (b ++ (c ++ z)), p ∈ TL := by
  intro p hp
  rcases List.mem_append.mp hp with hp | hp
  · exact ha p hp
  · rcases List.mem_append.mp hp with hp | hp
    · exact hb p hp
    · exact (List.mem_append.mp hp).elim (hc p) (hz p)
end
/-- an item of a list, at a place that is not written -/
theorem sub_list {prog : Program} {w : World} {A : Around} {E : Value → Shared → Prop} {s : Shared} {h₀ : Heap} {L D : Addr} {news : List (Addr × Obj)} {vs : List Value} {n : Nat} {k : Int} {u : Tok} {v : Value} {value slice : PySem.Expr} {Q : Value → Shared → Prop}
    (N : News h₀ L s.heap news) (hm : (D, listOf vs.toArray n) ∈ news) (h0 : 0 ≤ k) (hfit : k < 2 ^ 63) (hv : vs[k.toNat]? = some v) (h : Q v s)
    (hs : subscripted slice false (.ref D) (.int k u) = operate [.ref D, .int k u] (getItem (.ref D) (.int k u)) := by with_unfolding_all rfl) :
    wpAny (model prog w) A (subscriptTail value slice (.ref D) (.int k u)) Q E s :=
  tail_any (PySem.IsL.isList (n := n) (N _ hm).1).typeIs slot_list_getitem.lookup (wpAny_getItem_list (PySem.IsL.isList (n := n) (N _ hm).1) h0 hfit (by simpa using hv) h) hs
theorem draw_use {w : World} {dp un : Nat} {gd : Option (List Code)} {cn : Str} {cs : Scope} {a₀ : Addr} {ccd : Value} {cl : List (Str × Addr)} {outer : List Env} {A₀ : Around} {base h₀ : Heap} {L : Addr} {m : Str → Option Value} {s : Shared}
    {mean : ExcName → Option Value} {mg mb : Str → Option Value} {Q Er : Value → Shared → Prop} {a b c z TL E : List (Addr × Obj)}
    (B : Below A₀ base outer h₀) (F : Fr h₀ L s.heap m) (X : (hd.heap_1 w.params).In h₀) (N : News h₀ L s.heap (E ++ TL)) (T : Top vw (looseW vw []) mean mg mb h₀) (hk : cs.kind = .function) (hd : dp + 20 < recursionLimit) (hu : un + 8 * 20 + 64 < cLine)
    {lf : Addr} {vs : List Value} {fs : List Int} {n : Nat} {k : Int} {kt : Tok} (hE : Disj E TL) (hTL : ∀ p ∈ a ++ (b ++ ([(lf, listOf vs.toArray n)] ++ z)), p ∈ TL) (S : Sep4 a b [(lf, listOf vs.toArray n)] z) (hi : IntsAre vs fs) (hz : vs.length ≤ 90) (hk0 : 0 < k)
    (ret : ∀ d t vs' fs' n' h' tk', 0 ≤ d → d < k → IntsAre vs' fs' → vs'.length ≤ 90 → Fr h₀ L h' m → News h₀ L h' (E ++ (a ++ (b ++ ([(lf, listOf vs'.toArray n')] ++ z)))) → Sep4 a b [(lf, listOf vs'.toArray n')] z →
      (Disj E (a ++ (b ++ ([(lf, listOf vs'.toArray n')] ++ z)))) → Q (.int d t) { s with heap := h', toks := tk' }) :
    wpAny (model PySem.Challenge.rw_rh0068_01.row.prog w) (ktrTop dp un gd cn cs L a₀ ccd cl outer) (call (.ref 190) [.ref lf, .int k kt]) Q Er s := by
  have hE2 : Disj E (a ++ (b ++ ([(lf, listOf vs.toArray n)] ++ z))) := hE.sub hTL
  refine Meets.use (pre := [(lf, listOf vs.toArray n)]) (rest := E ++ (a ++ (b ++ z))) B F X (news_sub N ?_) ?_ T hk (draw_meets w lf vs fs n k kt hi hk0 (by omega)) hd hu ?_
  · intro p hp
    rcases List.mem_append.mp hp with hp | hp
    · exact List.mem_append_right _ (in_c hTL p hp)
    · rcases List.mem_append.mp hp with hp | hp
      · exact List.mem_append_left _ hp
      · refine List.mem_append_right _ (hTL p ?_)
        rcases List.mem_append.mp hp with hp | hp
        · exact List.mem_append_left _ hp
        · exact List.mem_append_right _ ((List.mem_append.mp hp).elim (List.mem_append_left _) fun h => List.mem_append_right _ (List.mem_append_right _ h))
  · exact (hE2.symm.r.r.l).appendR (S.ac.symm.appendR (S.bc.symm.appendR S.cz))
  · rintro r tl h' tk' F' N' D' ⟨d, t, vs', fs', n', rfl, h0, h1, hi', hl, rfl⟩
    have D2 := D'.symm.r.symm
    refine ret d t vs' fs' n' h' tk' h0 h1 hi' (by omega) F' (news_sub N' ?_) (S.callF D2) ?_
    · intro p hp
      rcases List.mem_append.mp hp with hp | hp
      · exact List.mem_append_right _ (List.mem_append_left _ hp)
      · rcases List.mem_append.mp hp with hp | hp
        · exact List.mem_append_right _ (List.mem_append_right _ (List.mem_append_left _ hp))
        · rcases List.mem_append.mp hp with hp | hp
          · exact List.mem_append_right _ (List.mem_append_right _ (List.mem_append_right _ (List.mem_append_left _ hp)))
          · rcases List.mem_append.mp hp with hp | hp
            · exact List.mem_append_left _ hp
            · exact List.mem_append_right _ (List.mem_append_right _ (List.mem_append_right _ (List.mem_append_right _ hp)))
    · exact (hE2.symm.l.symm).appendR ((hE2.symm.r.l.symm).appendR ((D'.symm.l).appendR hE2.symm.r.r.r.symm))
/-- what a deed leaves, for the law -/
noncomputable def DoneP (w : World) (x : St) (who deed number : Int) (ik : Addr) (wD : Dat) (v : Value) (x' : St) (T' : List (Addr × Obj)) : Prop :=
  ∃ told, x'.Ok w ∧ Step wD who deed number x.ab x'.ab told ∧ TellsV v told ∧ x'.S.a = x.S.a ∧ x'.pd = x.pd ∧ x'.P4.a = x.P4.a ∧ x'.P9.a = x.P9.a ∧
    ∀ led, x.terms led → DatIn led (.ref ik) wD → kqdOk 7 wD = true → (∀ p ∈ T', p ∈ led) → x'.terms led
/-- what a sweep leaves, for the law -/
noncomputable def SweepP (w : World) (x : St) (v : Value) (x' : St) : Prop :=
  ∃ t, v = .int ((x.kvs.length : Int) - (x'.kvs.length : Int)) t ∧ x'.Ok w ∧ x'.ab = sweepAb x.ab ∧ x'.S.a = x.S.a ∧ x'.pd = x.pd ∧ x'.P4.a = x.P4.a ∧ x'.P9.a = x.P9.a ∧ ∀ led, x.terms led → x'.terms led
theorem done_use1 {w : World} {dp un : Nat} {gd : Option (List Code)} {cn : Str} {cs : Scope} {a₀ : Addr} {ccd : Value} {cl : List (Str × Addr)} {outer : List Env} {A₀ : Around} {base h₀ : Heap} {L : Addr} {m : Str → Option Value} {s : Shared}
    {mean : ExcName → Option Value} {mg mb : Str → Option Value} {Q Er : Value → Shared → Prop} {a b c z TL E : List (Addr × Obj)}
    (B : Below A₀ base outer h₀) (F : Fr h₀ L s.heap m) (X : (hd.heap_1 w.params).In h₀) (N : News h₀ L s.heap (E ++ TL)) (T : Top vw (looseW vw []) mean mg mb h₀) (hk : cs.kind = .function) (hd : dp + 80 < recursionLimit) (hu : un + 8 * 80 + 64 < cLine)
    {x : St} (ok : x.Ok w) (ab : x.ab.Ok) (hnr : x.nr ≤ 18) {who deed number : Int} {dt ut : Tok} {sa pa ik : Addr} (wD : Dat) (hsa : sa = x.S.a) (hw : (who = 4 ∧ pa = x.P4.a) ∨ (who = 9 ∧ pa = x.P9.a)) (hd0 : 0 ≤ deed) (hd4 : deed ≤ 4) (hTL : ∀ p ∈ x.led w.params ++ (b ++ (c ++ z)), p ∈ TL) (S : Sep4 (x.led w.params) b c z)
    (ret : ∀ v x' T' h' tk', DoneP w x who deed number ik wD v x' T' → NdA (x'.led w.params ++ T') → Fr h₀ L h' m → News h₀ L h' (x'.led w.params ++ (b ++ (c ++ (T' ++ z)))) → Sep4 (x'.led w.params) b c (T' ++ z) → Disj T' z → Q v { s with heap := h', toks := tk' }) :
    wpAny (model PySem.Challenge.rw_rh0068_01.row.prog w) (ktrTop dp un gd cn cs L a₀ ccd cl outer) (call (.ref 197) [.ref sa, .ref pa, .int deed dt, .int number ut, .ref ik]) Q Er s := by
  subst hsa
  refine Meets.use (pre := x.led w.params) (rest := b ++ (c ++ z)) B F X (news_sub N ?_) (S.ab.appendR (S.ac.appendR S.az)) T hk (done_meets w x ok ab hnr who deed number dt ut pa ik wD hw hd0 hd4) hd hu ?_
  · intro p hp
    rcases List.mem_append.mp hp with hp | hp
    · exact List.mem_append_right _ (in_a hTL p hp)
    · rcases List.mem_append.mp hp with hp | hp
      · exact List.mem_append_right _ (in_b hTL p hp)
      · exact (List.mem_append.mp hp).elim (fun h => List.mem_append_right _ (in_c hTL p h)) fun h => List.mem_append_right _ (in_z hTL p h)
  · rintro r tl h' tk' F' N' D' ⟨x', T', told, rfl, nd, p1, p2, p3, p4, p5, p6, p7, p8⟩
    have PP : DoneP w x who deed number ik wD r x' T' := ⟨told, p1, p2, p3, p4, p5, p6, p7, p8⟩
    refine ret _ x' T' h' tk' PP nd F' (news_sub N' ?_) (S.call1 D' nd) D'.r.symm.r.r.symm
    exact in_four (fun p hp => List.mem_append_left _ (List.mem_append_left _ hp)) (fun p hp => List.mem_append_right _ (List.mem_append_left _ hp)) (fun p hp => List.mem_append_right _ (List.mem_append_right _ (List.mem_append_left _ hp)))
      fun p hp => (List.mem_append.mp hp).elim (fun h => List.mem_append_left _ (List.mem_append_right _ h)) fun h => List.mem_append_right _ (List.mem_append_right _ (List.mem_append_right _ h))
theorem done_use2 {w : World} {dp un : Nat} {gd : Option (List Code)} {cn : Str} {cs : Scope} {a₀ : Addr} {ccd : Value} {cl : List (Str × Addr)} {outer : List Env} {A₀ : Around} {base h₀ : Heap} {L : Addr} {m : Str → Option Value} {s : Shared}
    {mean : ExcName → Option Value} {mg mb : Str → Option Value} {Q Er : Value → Shared → Prop} {a b c z TL E : List (Addr × Obj)}
    (B : Below A₀ base outer h₀) (F : Fr h₀ L s.heap m) (X : (hd.heap_1 w.params).In h₀) (N : News h₀ L s.heap (E ++ TL)) (T : Top vw (looseW vw []) mean mg mb h₀) (hk : cs.kind = .function) (hd : dp + 80 < recursionLimit) (hu : un + 8 * 80 + 64 < cLine)
    {x : St} (ok : x.Ok w) (ab : x.ab.Ok) (hnr : x.nr ≤ 18) {who deed number : Int} {dt ut : Tok} {sa pa ik : Addr} (wD : Dat) (hsa : sa = x.S.a) (hw : (who = 4 ∧ pa = x.P4.a) ∨ (who = 9 ∧ pa = x.P9.a)) (hd0 : 0 ≤ deed) (hd4 : deed ≤ 4) (hTL : ∀ p ∈ a ++ (x.led w.params ++ (c ++ z)), p ∈ TL) (S : Sep4 a (x.led w.params) c z)
    (ret : ∀ v x' T' h' tk', DoneP w x who deed number ik wD v x' T' → NdA (x'.led w.params ++ T') → Fr h₀ L h' m → News h₀ L h' (a ++ (x'.led w.params ++ (c ++ (T' ++ z)))) → Sep4 a (x'.led w.params) c (T' ++ z) → Disj T' z → Q v { s with heap := h', toks := tk' }) :
    wpAny (model PySem.Challenge.rw_rh0068_01.row.prog w) (ktrTop dp un gd cn cs L a₀ ccd cl outer) (call (.ref 197) [.ref sa, .ref pa, .int deed dt, .int number ut, .ref ik]) Q Er s := by
  subst hsa
  refine Meets.use (pre := x.led w.params) (rest := a ++ (c ++ z)) B F X (news_sub N ?_) (S.ab.symm.appendR (S.bc.appendR S.bz)) T hk (done_meets w x ok ab hnr who deed number dt ut pa ik wD hw hd0 hd4) hd hu ?_
  · intro p hp
    rcases List.mem_append.mp hp with hp | hp
    · exact List.mem_append_right _ (in_b hTL p hp)
    · rcases List.mem_append.mp hp with hp | hp
      · exact List.mem_append_right _ (in_a hTL p hp)
      · exact (List.mem_append.mp hp).elim (fun h => List.mem_append_right _ (in_c hTL p h)) fun h => List.mem_append_right _ (in_z hTL p h)
  · rintro r tl h' tk' F' N' D' ⟨x', T', told, rfl, nd, p1, p2, p3, p4, p5, p6, p7, p8⟩
    have PP : DoneP w x who deed number ik wD r x' T' := ⟨told, p1, p2, p3, p4, p5, p6, p7, p8⟩
    refine ret _ x' T' h' tk' PP nd F' (news_sub N' ?_) (S.call2 D' nd) D'.r.symm.r.r.symm
    exact in_four (fun p hp => List.mem_append_right _ (List.mem_append_left _ hp)) (fun p hp => List.mem_append_left _ (List.mem_append_left _ hp)) (fun p hp => List.mem_append_right _ (List.mem_append_right _ (List.mem_append_left _ hp)))
      fun p hp => (List.mem_append.mp hp).elim (fun h => List.mem_append_left _ (List.mem_append_right _ h)) fun h => List.mem_append_right _ (List.mem_append_right _ (List.mem_append_right _ h))
theorem sweep_use1 {w : World} {dp un : Nat} {gd : Option (List Code)} {cn : Str} {cs : Scope} {a₀ : Addr} {ccd : Value} {cl : List (Str × Addr)} {outer : List Env} {A₀ : Around} {base h₀ : Heap} {L : Addr} {m : Str → Option Value} {s : Shared}
    {mean : ExcName → Option Value} {mg mb : Str → Option Value} {Q Er : Value → Shared → Prop} {a b c z TL E : List (Addr × Obj)}
    (B : Below A₀ base outer h₀) (F : Fr h₀ L s.heap m) (X : (hd.heap_1 w.params).In h₀) (N : News h₀ L s.heap (E ++ TL)) (T : Top vw (looseW vw []) mean mg mb h₀) (hk : cs.kind = .function) (hd : dp + 60 < recursionLimit) (hu : un + 8 * 60 + 64 < cLine)
    {x : St} (ok : x.Ok w) (ab : x.ab.Ok) (hnr : x.nr ≤ 18) {sa pa : Addr} (hsa : sa = x.S.a) (hpa : pa = x.pd) (hTL : ∀ p ∈ x.led w.params ++ (b ++ (c ++ z)), p ∈ TL) (S : Sep4 (x.led w.params) b c z)
    (ret : ∀ v x' T' h' tk', T' = [] ∧ SweepP w x v x' → NdA (x'.led w.params ++ T') → Fr h₀ L h' m → News h₀ L h' (x'.led w.params ++ (b ++ (c ++ (T' ++ z)))) → Sep4 (x'.led w.params) b c (T' ++ z) → Disj T' z → Q v { s with heap := h', toks := tk' }) :
    wpAny (model PySem.Challenge.rw_rh0068_01.row.prog w) (ktrTop dp un gd cn cs L a₀ ccd cl outer) (call (.ref 176) [.ref sa, .ref pa]) Q Er s := by
  subst hsa; subst hpa
  refine Meets.use (pre := x.led w.params) (rest := b ++ (c ++ z)) B F X (news_sub N ?_) (S.ab.appendR (S.ac.appendR S.az)) T hk (sweep_st w x ok ab hnr) hd hu ?_
  · intro p hp
    rcases List.mem_append.mp hp with hp | hp
    · exact List.mem_append_right _ (in_a hTL p hp)
    · rcases List.mem_append.mp hp with hp | hp
      · exact List.mem_append_right _ (in_b hTL p hp)
      · exact (List.mem_append.mp hp).elim (fun h => List.mem_append_right _ (in_c hTL p h)) fun h => List.mem_append_right _ (in_z hTL p h)
  · rintro r tl h' tk' F' N' D' ⟨x', t, e1, rfl, p1, p2, p4, p5, p6, p7, p8⟩
    obtain ⟨T', hT'⟩ : ∃ T' : List (Addr × Obj), T' = [] := ⟨_, rfl⟩
    have PP : T' = [] ∧ SweepP w x r x' := ⟨hT', t, e1, p1, p2, p4, p5, p6, p7, p8⟩
    rw [← List.append_nil (x'.led w.params), ← hT'] at N' D'
    have nd : NdA (x'.led w.params ++ T') := by rw [hT', List.append_nil]; exact p1.nd
    refine ret _ x' T' h' tk' PP nd F' (news_sub N' ?_) (S.call1 D' nd) D'.r.symm.r.r.symm
    exact in_four (fun p hp => List.mem_append_left _ (List.mem_append_left _ hp)) (fun p hp => List.mem_append_right _ (List.mem_append_left _ hp)) (fun p hp => List.mem_append_right _ (List.mem_append_right _ (List.mem_append_left _ hp)))
      fun p hp => (List.mem_append.mp hp).elim (fun h => List.mem_append_left _ (List.mem_append_right _ h)) fun h => List.mem_append_right _ (List.mem_append_right _ (List.mem_append_right _ h))
theorem alike_use {w : World} {dp un : Nat} {gd : Option (List Code)} {cn : Str} {cs : Scope} {a₀ : Addr} {ccd : Value} {cl : List (Str × Addr)} {outer : List Env} {A₀ : Around} {base h₀ : Heap} {L : Addr} {m : Str → Option Value} {s : Shared}
    {mean : ExcName → Option Value} {mg mb : Str → Option Value} {Q Er : Value → Shared → Prop} {a b c z TL E : List (Addr × Obj)}
    (B : Below A₀ base outer h₀) (F : Fr h₀ L s.heap m) (X : (hd.heap_1 w.params).In h₀) (N : News h₀ L s.heap (E ++ TL)) (T : Top vw (looseW vw []) mean mg mb h₀) (hk : cs.kind = .function) (hd : dp + 100 < recursionLimit) (hu : un + 8 * 100 + 64 < cLine)
    {x y : St} (okx : x.Ok w) (oky : y.Ok w) (aby : y.ab.Ok) (hnr : y.nr ≤ 18) (hx : ∀ p ∈ x.led w.params, p ∈ TL) (hy : ∀ p ∈ y.led w.params, p ∈ TL) (tx : x.terms TL) (ty : y.terms TL) {sa sb pa pb cell : Addr} {since g : Int} {gt : Tok} {cd : Dat}
    (hsa : sa = x.S.a) (hsb : sb = y.S.a) (hpa : pa = x.pd) (hpb : pb = y.pd) (R : Rel since x.ab y.ab) (hg : since ≤ g) (hcell : DatIn TL (.ref cell) cd) (hcok : kqdOk 8 cd = true)
    (ret : ∀ h' tk', Fr h₀ L h' m → News h₀ L h' (E ++ TL) → Q (.bool true) { s with heap := h', toks := tk' }) :
    wpAny (model PySem.Challenge.rw_rh0068_01.row.prog w) (ktrTop dp un gd cn cs L a₀ ccd cl outer) (call (.ref 218) [.ref sa, .ref sb, .ref pa, .ref pb, .int g gt, .ref cell]) Q Er s := by
  subst hsa hsb hpa hpb
  have hm : ∀ p ∈ TL, p ∈ E ++ TL := fun p hp => List.mem_append_right _ hp
  refine Meets.use0 B F X N T hk (alike_st w (E ++ TL) x y okx oky aby hnr (fun p hp => hm p (hx p hp)) (fun p hp => hm p (hy p hp)) (term_mono tx hm) (term_mono ty hm) since g gt cell cd R hg (hcell.mono hm) hcok) hd hu ?_
  rintro r tl h' tk' F' N' ⟨rfl, rfl⟩
  exact ret h' tk' F' N'

end
section

section
variable {α : Type} {p6 q6 p5 q5 yd p4 q4 p3 q3 md s2 d2 r2 s1 d1 r1 lf ce : α} {W : List α}
theorem law_perm : ([p6, q6, p5, q5, yd, p4, q4, p3, q3, md, s2, d2, r2, s1, d1, r1] ++ (W ++ [lf, ce])).Perm (([s1, d1, r1, md, p3, q3, p4, q4] ++ ([] ++ [])) ++ (([s2, d2, r2, yd, p5, q5, p6, q6] ++ ([] ++ [])) ++ ([lf] ++ (W ++ [ce])))) := by
  classical
  rw [List.perm_iff_count]; intro y
  simp only [List.count_cons, List.count_append, List.count_nil]; omega
end
/-- what holds of both stores at the head of a turn -/
structure LawOk (w : World) (sa sb pa pb a4 a9 b4 b9 lf : Addr) (WL : List (Addr × Obj)) (x y : St) (since : Int) (vs : List Value) (fs : List Int) (n : Nat) (Z : List (Addr × Obj)) : Prop where
  okx : x.Ok w
  oky : y.Ok w
  aby : y.ab.Ok
  R : Rel since x.ab y.ab
  hx : x.S.a = sa
  hy : y.S.a = sb
  hpx : x.pd = pa
  hpy : y.pd = pb
  x4 : x.P4.a = a4
  x9 : x.P9.a = a9
  y4 : y.P4.a = b4
  y9 : y.P9.a = b9
  hi : IntsAre vs fs
  hz : vs.length ≤ 90
  sep : Sep4 (x.led w.params) (y.led w.params) [(lf, listOf vs.toArray n)] Z
  tx : x.terms Z
  ty : y.terms Z
  hW : ∀ p ∈ WL, p ∈ Z
  nr0 : 0 ≤ y.nr
theorem sep_of {a b c z : List (Addr × Obj)} (h : NdA (a ++ (b ++ (c ++ z)))) : Sep4 a b c z := by
  obtain ⟨_, h2, h3⟩ := ndA_append h
  obtain ⟨_, h5, h6⟩ := ndA_append h2
  obtain ⟨_, _, h9⟩ := ndA_append h5
  exact ⟨fun p hp q hq => h3 p hp q (List.mem_append_left _ hq), fun p hp q hq => h3 p hp q (List.mem_append_right _ (List.mem_append_left _ hq)), fun p hp q hq => h3 p hp q (List.mem_append_right _ (List.mem_append_right _ hq)),
    fun p hp q hq => h6 p hp q (List.mem_append_left _ hq), fun p hp q hq => h6 p hp q (List.mem_append_right _ hq), h9⟩
theorem law_start (w : World) (S1 S2 : StA) (od1 od2 mo yo co : Obj) (md yd lf ce : Addr) (P3 P4 P5 P6 : PrA) (W : List (Addr × Obj)) (vs : List Value) (fs : List Int) (n : Nat)
    (h1 : od1.IsDictOf (PySem.intKind PySem.Challenge.rw_rh0068_01.row.prog w) []) (h2 : od2.IsDictOf (PySem.intKind PySem.Challenge.rw_rh0068_01.row.prog w) []) (l1 : (S1.rd == sysModules) = false) (l2 : (S2.rd == sysModules) = false) (l3 : (md == sysModules) = false) (l4 : (yd == sysModules) = false)
    (h3 : mo.IsDictOf (PySem.intKind PySem.Challenge.rw_rh0068_01.row.prog w) [(4, .ref P3.a), (9, .ref P4.a)]) (h4 : yo.IsDictOf (PySem.intKind PySem.Challenge.rw_rh0068_01.row.prog w) [(4, .ref P5.a), (9, .ref P6.a)])
    (f3 : P3.fn = 4) (f4 : P4.fn = 9) (f5 : P5.fn = 4) (f6 : P6.fn = 9) (hi : IntsAre vs fs) (hz : vs.length ≤ 90)
    (nd : NdA ([pObj P6, pDict w.params P6 (-1) (-1), pObj P5, pDict w.params P5 (-1) (-1), (yd, yo), pObj P4, pDict w.params P4 (-1) (-1), pObj P3, pDict w.params P3 (-1) (-1), (md, mo), sObj S2, sDict w.params S2 0 0, (S2.rd, od2), sObj S1, sDict w.params S1 0 0, (S1.rd, od1)] ++ (W ++ [(lf, listOf vs.toArray n), (ce, co)]))) :
    ∃ x y : St, LawOk w S1.a S2.a md yd P3.a P4.a P5.a P6.a lf (W ++ [(ce, co)]) x y 0 vs fs n (W ++ [(ce, co)]) ∧ y.nr = 0 ∧
      ∀ p ∈ x.led w.params ++ (y.led w.params ++ ([(lf, listOf vs.toArray n)] ++ (W ++ [(ce, co)]))), p ∈ [pObj P6, pDict w.params P6 (-1) (-1), pObj P5, pDict w.params P5 (-1) (-1), (yd, yo), pObj P4, pDict w.params P4 (-1) (-1), pObj P3, pDict w.params P3 (-1) (-1), (md, mo), sObj S2, sDict w.params S2 0 0, (S2.rd, od2), sObj S1, sDict w.params S1 0 0, (S1.rd, od1)] ++ (W ++ [(lf, listOf vs.toArray n), (ce, co)]) := by
  have nd2 := ndA_perm law_perm nd
  have s4 := sep_of nd2
  refine ⟨⟨S1, 0, 0, od1, [], md, mo, P3, P4, [], []⟩, ⟨S2, 0, 0, od2, [], yd, yo, P5, P6, [], []⟩, ⟨⟨h1, h3, l1, l3, .nil, f3, f4, (ndA_append nd2).1⟩, ⟨h2, h4, l2, l4, .nil, f5, f6, (ndA_append (ndA_append nd2).2.1).1⟩, ?_, ?_, rfl, rfl, rfl, rfl, rfl, rfl, rfl, rfl, hi, hz, s4, ?_, ?_, fun _ h => h, Int.le_refl _⟩, rfl, law_perm.symm.subset⟩
  · exact ⟨.nil, fun r hr => absurd hr List.not_mem_nil, fun r hr => absurd hr List.not_mem_nil, fun r hr => absurd hr List.not_mem_nil, Int.le_refl _, Int.le_refl _⟩
  · exact ⟨rfl, rfl, rfl, rfl, Int.le_refl _, Int.le_refl _⟩
  · exact fun r hr => absurd hr List.not_mem_nil
  · exact fun r hr => absurd hr List.not_mem_nil
/-- the words lie in a ledger -/
structure WordsIn (led : List (Addr × Obj)) (wl : Addr) (ws : List Value) : Prop where
  h : (wl, listOf ws.toArray 0) ∈ led
  g : ∀ k : Int, 0 ≤ k → k < 4 → ∃ ik wD, ws[k.toNat]? = some (.ref ik) ∧ DatIn led (.ref ik) wD ∧ kqdOk 7 wD = true
noncomputable abbrev tupO (vs : List Value) : Obj := { cls := .type "tuple", data := .seq vs.toArray 0 }
theorem words_in (wl dv dl ds di dc : Addr) (t1 t2 t3 t4 t5 t6 t7 : Tok) (rest : List (Addr × Obj)) :
    WordsIn ([(wl, listOf [.ref dv, .ref dl, .ref ds, .ref dc].toArray 0), (dc, tupO [.str (Str.ofString "const") t5, .ref di]), (di, tupO [.int 4 t6, .int 4 t7]), (ds, tupO [.str (Str.ofString "struct") t3, .int 4 t4]), (dl, tupO [.str (Str.ofString "list") t2]), (dv, tupO [.str (Str.ofString "var") t1])] ++ rest)
      wl [.ref dv, .ref dl, .ref ds, .ref dc] := by
  refine ⟨.head _, fun k h0 h1 => ?_⟩
  have hk : k = 0 ∨ k = 1 ∨ k = 2 ∨ k = 3 := by omega
  have c1 : PyData.strOk (Str.ofString "var") = true := by decide +kernel
  have c2 : PyData.strOk (Str.ofString "list") = true := by decide +kernel
  have c3 : PyData.strOk (Str.ofString "struct") = true := by decide +kernel
  have c4 : PyData.strOk (Str.ofString "const") = true := by decide +kernel
  rcases hk with rfl | rfl | rfl | rfl
  · exact ⟨dv, .tuple [.str (Str.ofString "var")], rfl, .tuple (n := 0) (vs := [_]) (.tail _ (.tail _ (.tail _ (.tail _ (.tail _ (.head _)))))) (.cons (.str _ _) .nil), by simp only [kqdOk, List.all_cons, List.all_nil, c1, Bool.and_self]⟩
  · exact ⟨dl, .tuple [.str (Str.ofString "list")], rfl, .tuple (n := 0) (vs := [_]) (.tail _ (.tail _ (.tail _ (.tail _ (.head _))))) (.cons (.str _ _) .nil), by simp only [kqdOk, List.all_cons, List.all_nil, c2, Bool.and_self]⟩
  · exact ⟨ds, .tuple [.str (Str.ofString "struct"), .int 4], rfl, .tuple (n := 0) (vs := [_, _]) (.tail _ (.tail _ (.tail _ (.head _)))) (.cons (.str _ _) (.cons (.int _ _) .nil)), by simp only [kqdOk, List.all_cons, List.all_nil, c3, Bool.and_self]⟩
  · exact ⟨dc, .tuple [.str (Str.ofString "const"), .tuple [.int 4, .int 4]], rfl, .tuple (n := 0) (vs := [_, _]) (.tail _ (.head _)) (.cons (.str _ _) (.cons (.tuple (n := 0) (vs := [_, _]) (.tail _ (.tail _ (.head _))) (.cons (.int _ _) (.cons (.int _ _) .nil))) .nil)),
      by simp only [kqdOk, List.all_cons, List.all_nil, c4, Bool.and_self]⟩
theorem WordsIn.mono {led led' : List (Addr × Obj)} {wl : Addr} {ws : List Value} (W : WordsIn led wl ws) (s : ∀ p ∈ led, p ∈ led') : WordsIn led' wl ws :=
  ⟨s _ W.h, fun k h0 h1 => by obtain ⟨ik, wD, e, d, o⟩ := W.g k h0 h1; exact ⟨ik, wD, e, d.mono s, o⟩⟩
theorem map_eq5 {x a b : Str} {v va vb : Value} {stored : List Str} {m₁ m : Str → Option Value} (h : ∀ y, y ≠ x → stored.contains y = false → m₁ y = m y) (ha : m₁ a = some va) (hb : m₁ b = some vb) :
    (fun y => if y = x then some v else m₁ y) = fun y => if y = x then some v else if y = a then some va else if y = b then some vb else if stored.contains y = true then m₁ y else m y := by
  funext y
  by_cases e : y = x
  · simp only [e, if_true]
  · simp only [if_neg e]
    by_cases e2 : y = a
    · simp only [e2, if_true]; exact ha
    · simp only [if_neg e2]
      by_cases e3 : y = b
      · simp only [e3, if_true]; exact hb
      · simp only [if_neg e3]
        cases h2 : stored.contains y with
        | true => simp only [if_true]
        | false => simp only [Bool.false_eq_true, if_false]; exact h y e h2
theorem map_eq6 {x a b : Str} {va vb : Value} {stored : List Str} {m₁ m : Str → Option Value} (h : ∀ y, y ≠ x → stored.contains y = false → m₁ y = m y) (ha : m₁ a = some va) (hb : m₁ b = some vb) :
    m₁ = fun y => if y = x then m₁ x else if y = a then some va else if y = b then some vb else if stored.contains y = true then m₁ y else m y := by
  funext y
  by_cases e : y = x
  · simp only [e, if_true]
  · simp only [if_neg e]
    by_cases e2 : y = a
    · simp only [e2, if_true]; exact ha
    · simp only [if_neg e2]
      by_cases e3 : y = b
      · simp only [e3, if_true]; exact hb
      · simp only [if_neg e3]
        cases h2 : stored.contains y with
        | true => simp only [if_true]
        | false => simp only [Bool.false_eq_true, if_false]; exact h y e h2
theorem in_assoc {α : Type} {a b c z own : List α} : ∀ p ∈ a ++ (b ++ (c ++ (z ++ own))), p ∈ (a ++ (b ++ (c ++ z))) ++ own := by
  intro p hp
  rw [List.append_assoc, List.append_assoc, List.append_assoc]
  exact hp
theorem in_assoc' {α : Type} {a b c z own : List α} : ∀ p ∈ (a ++ (b ++ (c ++ z))) ++ own, p ∈ a ++ (b ++ (c ++ (z ++ own))) := by
  intro p hp
  rw [List.append_assoc, List.append_assoc, List.append_assoc] at hp
  exact hp
theorem six_at (k : Int) (h0 : 0 ≤ k) (h1 : k < 6) (t0 t1 t2 t3 t4 t5 : Tok) : ∃ d t, [Value.int 0 t0, .int 1 t1, .int 2 t2, .int 3 t3, .int 5 t4, .int 4 t5][k.toNat]? = some (.int d t) ∧ 0 ≤ d ∧ d ≤ 5 := by
  have hk : k = 0 ∨ k = 1 ∨ k = 2 ∨ k = 3 ∨ k = 4 ∨ k = 5 := by omega
  rcases hk with rfl | rfl | rfl | rfl | rfl | rfl
  · exact ⟨0, t0, rfl, by decide, by decide⟩
  · exact ⟨1, t1, rfl, by decide, by decide⟩
  · exact ⟨2, t2, rfl, by decide, by decide⟩
  · exact ⟨3, t3, rfl, by decide, by decide⟩
  · exact ⟨5, t4, rfl, by decide, by decide⟩
  · exact ⟨4, t5, rfl, by decide, by decide⟩
theorem two_at (k : Int) (h0 : 0 ≤ k) (h1 : k < 2) (t0 t1 : Tok) : ∃ d t, [Value.int 4 t0, .int 9 t1][k.toNat]? = some (.int d t) ∧ (d = 4 ∨ d = 9) := by
  have hk : k = 0 ∨ k = 1 := by omega
  rcases hk with rfl | rfl
  · exact ⟨4, t0, rfl, .inl rfl⟩
  · exact ⟨9, t1, rfl, .inr rfl⟩
theorem range_ok (d : Int) (h0 : 0 ≤ d) (h1 : d < 12) : Builtin.Range.small 0 (12 - d) 1 = true ∧ Builtin.Range.rangeSize 0 (12 - d) 1 = (((12 - d).toNat : Nat) : Int) := by
  obtain ⟨n, rfl⟩ := Int.eq_ofNat_of_zero_le h0
  have hn : n < 12 := Int.ofNat_lt.mp h1
  match n, hn with
  | 0, _ => exact ⟨rfl, rfl⟩
  | 1, _ => exact ⟨rfl, rfl⟩
  | 2, _ => exact ⟨rfl, rfl⟩
  | 3, _ => exact ⟨rfl, rfl⟩
  | 4, _ => exact ⟨rfl, rfl⟩
  | 5, _ => exact ⟨rfl, rfl⟩
  | 6, _ => exact ⟨rfl, rfl⟩
  | 7, _ => exact ⟨rfl, rfl⟩
  | 8, _ => exact ⟨rfl, rfl⟩
  | 9, _ => exact ⟨rfl, rfl⟩
  | 10, _ => exact ⟨rfl, rfl⟩
  | 11, _ => exact ⟨rfl, rfl⟩
theorem disj_one {d : Addr} {o : Obj} {TL : List (Addr × Obj)} (h : ∀ p ∈ TL, p.1 < d) : Disj [(d, o)] TL := by
  intro p hp q hq
  rw [List.mem_singleton.mp hp]
  have := h q hq
  exact fun e => Nat.lt_irrefl d (Nat.lt_of_le_of_lt (Nat.le_of_eq e) this)
theorem led_mem (P : Params) (x : St) : sObj x.S ∈ x.led P ∧ sDict P x.S x.nr x.gen ∈ x.led P ∧ (x.S.rd, x.od) ∈ x.led P ∧ (x.pd, x.po) ∈ x.led P := by
  unfold St.led
  exact ⟨.head _, .tail _ (.head _), .tail _ (.tail _ (.head _)), .tail _ (.tail _ (.tail _ (.head _)))⟩
theorem who_at (a b : Addr) (who : Int) (h : who = 4 ∨ who = 9) : ∃ pa, valueAt [((4 : Int), Value.ref a), (9, .ref b)] who = some (.ref pa) ∧ ((who = 4 ∧ pa = a) ∨ (who = 9 ∧ pa = b)) := by
  rcases h with rfl | rfl
  · exact ⟨a, rfl, .inl ⟨rfl, rfl⟩⟩
  · exact ⟨b, rfl, .inr ⟨rfl, rfl⟩⟩
theorem end_led {α : Type} {a b c t2 t1 z own : List α} : ∀ p ∈ (a ++ (b ++ (c ++ (t2 ++ (t1 ++ z))))) ++ own, p ∈ a ++ (b ++ (c ++ (t2 ++ (t1 ++ (z ++ own))))) := by
  intro p hp
  simp only [List.append_assoc] at hp
  exact hp
theorem end_sub {α : Type} {t2 t1 z own : List α} : ∀ p ∈ t2 ++ (t1 ++ z), p ∈ t2 ++ (t1 ++ (z ++ own)) := by
  intro p hp
  rcases List.mem_append.mp hp with hp | hp
  · exact List.mem_append_left _ hp
  · rcases List.mem_append.mp hp with hp | hp
    · exact List.mem_append_right _ (List.mem_append_left _ hp)
    · exact List.mem_append_right _ (List.mem_append_right _ (List.mem_append_left _ hp))
theorem end_disj {a b c t2 t1 z own : List (Addr × Obj)} (S : Sep4 a b c (t2 ++ (t1 ++ (z ++ own)))) (h2 : Disj t2 (t1 ++ (z ++ own))) (h1 : Disj t1 (z ++ own)) (hz : Disj z own) : Disj (a ++ (b ++ (c ++ (t2 ++ (t1 ++ z))))) own := by
  have ho : ∀ p ∈ own, p ∈ t2 ++ (t1 ++ (z ++ own)) := fun p hp => List.mem_append_right _ (List.mem_append_right _ (List.mem_append_right _ hp))
  exact (S.az.sub ho).append ((S.bz.sub ho).append ((S.cz.sub ho).append ((h2.sub fun p hp => List.mem_append_right _ (List.mem_append_right _ hp)).append ((h1.sub fun p hp => List.mem_append_right _ hp).append hz))))
/-- a deed done alike in both stores -/
theorem both_done {w : World} {sa sb pa pb a4 a9 b4 b9 lf : Addr} {WL : List (Addr × Obj)} {x y x' y' : St} {since : Int} {vs vs' : List Value} {fs fs' : List Int} {n n' : Nat} {Z own T1 T2 : List (Addr × Obj)} {who deed number : Int} {ik : Addr} {wD : Dat} {v v' : Value}
    (L : LawOk w sa sb pa pb a4 a9 b4 b9 lf WL x y since vs fs n Z) (h1 : DoneP w x who deed number ik wD v x' T1) (h2 : DoneP w y who deed number ik wD v' y' T2) (hi : IntsAre vs' fs') (hz : vs'.length ≤ 90)
    (S : Sep4 (x'.led w.params) (y'.led w.params) [(lf, listOf vs'.toArray n')] (T2 ++ (T1 ++ (Z ++ own)))) (hw : DatIn WL (.ref ik) wD) (hwk : kqdOk 7 wD = true) :
    (∃ told, TellsV v told ∧ TellsV v' told) ∧ x'.gen = y'.gen ∧ y'.nr ≤ y.nr + 1 ∧ LawOk w sa sb pa pb a4 a9 b4 b9 lf WL x' y' since vs' fs' n' (T2 ++ (T1 ++ Z)) := by
  obtain ⟨t1, okx, s1, tv1, e1, e2, e3, e4, g1⟩ := h1
  obtain ⟨t2, oky, s2, tv2, f1, f2, f3, f4, g2⟩ := h2
  obtain ⟨rfl, R, ok, n1, n2⟩ := step_rel L.R L.aby L.nr0 s1 s2
  have hZ : ∀ p ∈ Z, p ∈ T2 ++ (T1 ++ Z) := fun p hp => List.mem_append_right _ (List.mem_append_right _ hp)
  have hw' := (hw.mono L.hW).mono hZ
  have n3 : y.nr ≤ y'.nr := n1
  have h0 := L.nr0
  exact ⟨⟨t1, tv1, tv2⟩, R.gen, n2, ⟨okx, oky, ok, R, e1.trans L.hx, f1.trans L.hy, e2.trans L.hpx, f2.trans L.hpy, e3.trans L.x4, e4.trans L.x9, f3.trans L.y4, f4.trans L.y9, hi, hz, S.subZ end_sub,
    g1 _ (term_mono L.tx hZ) hw' hwk (fun p hp => List.mem_append_right _ (List.mem_append_left _ hp)), g2 _ (term_mono L.ty hZ) hw' hwk (fun p hp => List.mem_append_left _ hp), fun p hp => hZ p (L.hW p hp), by omega⟩⟩
theorem nr_x {w : World} {sa sb pa pb a4 a9 b4 b9 lf : Addr} {WL : List (Addr × Obj)} {x y : St} {since : Int} {vs : List Value} {fs : List Int} {n : Nat} {Z : List (Addr × Obj)} (L : LawOk w sa sb pa pb a4 a9 b4 b9 lf WL x y since vs fs n Z) : x.nr = y.nr ∧ x.ab.Ok := ⟨L.R.nr, L.R.ok L.aby⟩
theorem law_nine {a b c d e f g h k y : Str} (hh : [a, b, c, d, e, f, g, h, k].contains y = false) : y ≠ a ∧ y ≠ b ∧ y ≠ c ∧ y ≠ d ∧ y ≠ e ∧ y ≠ f ∧ y ≠ g ∧ y ≠ h ∧ y ≠ k := by
  refine ⟨?_, ?_, ?_, ?_, ?_, ?_, ?_, ?_, ?_⟩ <;> rintro rfl <;> simp at hh

end
section
local macro_rules | `(tactic| walk_at "m_pad") => `(tactic| skip)

section
open PyProof.Rows.LCg PyProof.Rows.LCt
variable {prog : Program} {w : World} {A : Around} {E : Value → Shared → Prop} {s : Shared} {h₀ : Heap} {L : Addr} {m : Str → Option Value} {env : Env}
/-- the turns of a comprehension with a test, by an invariant -/
theorem compRest_inv {ct elt : Expr} {x : Str} {scope : Scope} {cl : List (Str × Addr)} {S : List (Addr × Obj) → Prop} {P : Nat → Value → Prop} {Fin : List Value → List (Addr × Obj) → Prop} {n : Nat} {news : List (Addr × Obj)} (J : Nat → List Value → Prop)
    (fin : ∀ ys, J n ys → Fin ys news)
    (turn : ∀ i ys v I oI C oC D m₂ h tk (E' : Value → Shared → Prop), J i ys → P i v → NsObj oC m₂ → m₂ x = some v → Fr h₀ L h m → News h₀ L h ((I, oI) :: (C, oC) :: (D, lst ys) :: news) → Off3 I C D news →
      wpAny (model prog w) A (isTrue ct (compEnvC scope cl C env) (eval ct (compEnvC scope cl C env))) (fun ok s' => if ok = true then
        wpAny (model prog w) A (eval elt (compEnvC scope cl C env)) (fun y s'' => ∃ h' tk', s'' = { s with heap := h', toks := tk' } ∧ Fr h₀ L h' m ∧ News h₀ L h' ((I, oI) :: (C, oC) :: (D, lst ys) :: news) ∧ J (i + 1) (ys ++ [y])) E' s'
        else (∃ h' tk', s' = { s with heap := h', toks := tk' } ∧ Fr h₀ L h' m ∧ News h₀ L h' ((I, oI) :: (C, oC) :: (D, lst ys) :: news) ∧ J (i + 1) ys)) E' { s with heap := h, toks := tk })
    (hS : S news) : ∀ k i ys, i + k = n → J i ys → CompRestT prog w A h₀ L m env ct elt x scope cl s S P Fin k i ys news := by
  intro k
  induction k with
  | zero => intro i ys hi hj; exact CompRestT.zero (fin ys (by rw [← hi, Nat.add_zero]; exact hj))
  | succ k ih =>
    intro i ys hi hj
    refine CompRestT.succ fun v I oI C oC D m₂ h tk E' hP hn hx hF hN ho _ => ?_
    refine wpAny_mono (turn i ys v I oI C oC D m₂ h tk E' hj hP hn hx hF hN ho) (fun ok s' q => ?_) fun _ _ e => e
    cases ok with
    | true =>
      simp only [if_true] at q ⊢
      refine wpAny_mono q (fun y s'' p => ?_) fun _ _ e => e
      obtain ⟨h', tk', rfl, F', N', hj'⟩ := p
      exact ⟨h', tk', news, rfl, F', N', ho, hS, ih (i + 1) _ (by omega) hj'⟩
    | false =>
      simp only [Bool.false_eq_true, if_false] at q ⊢
      obtain ⟨h', tk', rfl, F', N', hj'⟩ := q
      exact ⟨h', tk', news, rfl, F', N', ho, hS, ih (i + 1) _ (by omega) hj'⟩
/-- a comprehension with a test over the keys of a dict -/
theorem comp_dict {ct elt iter : Expr} {x y : Str} {px py : Pos} {scope : Scope} {cl : List (Str × Addr)} {pos spos : Pos} {Q : Flow → Shared → Prop} (_F₀ : Fr h₀ L s.heap m) (hLe : env.locals = L)
    (hsw : swapsWith (.ListComp elt [⟨.Name x px, iter, [ct], 0⟩] scope pos) (some (.Name y py)) spos.line env = pure true)
    (hclos : closureFor scope env = pure cl) (hcell : ∀ z ∈ scope.names, z.2 ≠ .cell) (hkind : scope.kind = .function)
    (hnames : ∀ z ∈ scope.names, z.2 = .local → scope.names.lookup z.1 = some .local) (hx : scope.names.lookup x = some .local)
    (hy : env.kindOf y = some .local) (hp : (env.scope.kind == .class || (env.scope.kind == .module && env.locals != env.globals)) = false)
    (h : wpAny (model prog w) A (eval iter env) (fun xv s₁ => ∃ d od kvs news, xv = .ref d ∧ A.handled = none ∧ Fr h₀ L s₁.heap m ∧ News h₀ L s₁.heap news ∧ (d, od) ∈ news ∧ od.IsDictOf (PySem.intKind prog w) kvs ∧ (d == sysModules) = false ∧ kvs.length ≤ sizeLine ∧
      ∀ s₂ : Shared, (∃ g, s₂ = { s₁ with heap := g }) → CompRestT prog w A h₀ L m env ct elt x scope cl s₂ (fun nw => (d, od) ∈ nw) (fun i v => ∃ k u, kvs[i]? = some (k, u) ∧ (PySem.intKind prog w).is k v = true) (FinA h₀ L m s₂ y Q) kvs.length 0 [] news) E s)
    (hs : ∀ x, foldedSetIterable iter env x = pure x) :
    wpAny (model prog w) A (exec (.Assign [.Name y py] (.ListComp elt [⟨.Name x px, iter, [ct], 0⟩] scope pos) spos) env) Q E s := by
  subst hLe
  rw [exec_Assign_Name_used _ _ _ _ hsw]
  refine wpAny_bind (wpAny_standAt (wpAny_bind ?_))
  show wpAny _ A (do let _ ← comprehension (.ListComp elt [⟨.Name x px, iter, [ct], 0⟩] scope pos) scope env _ (newList []) false (eval iter env) (some (assign (.Name y py) env))) _ _ s
  refine wpAny_bind (wpAny_mono (wpAny_comprehension_free (use := some (assign (.Name y py) env)) (Q := fun _ s' => Q .next s') rfl hs hclos hkind hnames
    (wpAny_mono h (fun xv s₁ h₁ => ?_) fun _ _ e => e)) (fun _ s' hq => wpAny_pure (wpAny_pure hq)) fun _ _ e => e)
  obtain ⟨d, od, kvs, news, rfl, hh, F, N, hm, hd, lo, hsz, R⟩ := h₁
  obtain ⟨ep, hat⟩ := (kda_dict N hm hd).dictAt
  have hdg : s₁.heap.get? d = some od := (N _ hm).1
  have hlt : d < s₁.heap.objs.size := hat.lt_size
  refine wpAny_pyIter_dict lo hat ?_
  refine block_T (Walks.dictKeys (knd := PySem.intKind prog w) hh s₁.heap.objs.size d (Nat.ne_of_lt hlt) kvs ep) hsz (fun i h st => by obtain ⟨o, e, _⟩ := st.1; exact ⟨o, e⟩) ?_ hcell hkind hx ⟨⟨_, Heap.get?_push_size _ rfl, rfl, rfl⟩, hat.push _⟩ (fun b hb => ?_)
    (F.push _) (fun p hp => ⟨Heap.get?_push_of_some _ (N p hp).1, (N p hp).2⟩) (Nat.ne_of_lt F.ns.lt) (next_is_new F) (fun p hp => Nat.ne_of_lt (Heap.lt_size (N p hp).1)) hm (R _ ⟨_, rfl⟩) ?_
  · intro i h h' o nw st hI hI' _ N' hm'
    refine ⟨st.1.at fun o' e => ?_, hat.at fun o' e => ?_⟩
    · rw [hI] at e; rw [hI', e]
    · rw [hdg] at e; rw [(N' _ hm').1, e]
  · show b < (s₁.heap.push _).objs.size
    rw [Heap.size_push]
    rcases List.mem_cons.mp hb with rfl | hb
    · exact Nat.lt_succ_self _
    · rw [List.mem_singleton.mp hb]; exact Nat.lt_succ_of_lt hlt
  · intro D C h' tk m' ys news' F' N' o1 hn hC₀ hD₀ hCL hDL hCD offC fin
    show wpAny _ A (assign (.Name y py) env (.ref D)) _ _ _
    refine wpAny_assign_Name (wpAny_storeName_local hy F'.ns (fun h₂ hn₂ hs₂ => ?_) hp)
    have hL₀ : h₀.get? env.locals = none := Heap.get?_none_of_le F'.above
    have F₂ : Fr h₀ env.locals h₂ (fun z => if z = y then some (.ref D) else m z) := ⟨hn₂, fun b o e => hs₂.extBut b o (fun q => by rw [q, hL₀] at e; cases e) (F'.keep b o e), F'.above⟩
    refine ⟨m', hn.sameBut hs₂ hCL, fun h'' hs'' => fin D h'' _ (F₂.change hs'' hCL hC₀) (fun p hp => ?_) o1⟩
    have z : h₂.get? p.1 = some p.2 := hs₂.extBut _ _ (N' p hp).2.1 (N' p hp).1
    refine ⟨hs''.extBut _ _ ?_ z, (N' p hp).2⟩
    rcases List.mem_cons.mp hp with rfl | hp
    · exact Ne.symm hCD
    · exact offC p hp
end
/-- a key of a living record -/
noncomputable def lvB (c : List RecA) (k : Int) : Bool := c.any fun r => decide (r.c.key = k ∧ r.c.death < 0)
theorem kv_rec {w : World} {x : St} (ok : x.Ok w) {i : Nat} {k : Int} {u : Value} (h : x.kvs[i]? = some (k, u)) :
    ∃ r nx, r ∈ x.c4 ++ x.c9 ∧ r.c.key = k ∧ valueAt x.kvs k = some (.ref r.a) ∧ rObj r ∈ x.led w.params ∧ rDict w.params r nx ∈ x.led w.params := by
  have h1 : (k, u) ∈ kvOf x.c4 ++ kvOf x.c9 := ok.perm.subset (List.mem_of_getElem? h)
  rw [← kvOf_append] at h1
  obtain ⟨r, hr, e⟩ := List.mem_map.mp h1
  have hk : r.c.key = k := congrArg Prod.fst e
  have hm : ∃ nx, rObj r ∈ x.led w.params ∧ rDict w.params r nx ∈ x.led w.params := by
    rcases List.mem_append.mp hr with h1 | h1
    · obtain ⟨pr, po, hc⟩ := List.append_of_mem h1
      have := chLed_mid w.params (r := r) (post := po) pr
      rw [← hc] at this
      exact ⟨_, List.mem_append_right _ (List.mem_append_left _ this.1), List.mem_append_right _ (List.mem_append_left _ this.2)⟩
    · obtain ⟨pr, po, hc⟩ := List.append_of_mem h1
      have := chLed_mid w.params (r := r) (post := po) pr
      rw [← hc] at this
      exact ⟨_, List.mem_append_right _ (List.mem_append_right _ this.1), List.mem_append_right _ (List.mem_append_right _ this.2)⟩
  obtain ⟨nx, m1, m2⟩ := hm
  exact ⟨r, nx, hr, hk, hk ▸ St.vals ok r hr, m1, m2⟩
theorem lvB_of {x : St} (ab : x.ab.Ok) {r : RecA} (hr : r ∈ x.c4 ++ x.c9) : lvB (x.c4 ++ x.c9) r.c.key = decide (r.c.death < 0) := by
  unfold lvB
  cases hd : decide (r.c.death < 0) with
  | true =>
    rw [List.any_eq_true]
    exact ⟨r, hr, by simpa using hd⟩
  | false =>
    rw [List.any_eq_false]
    intro y hy h
    simp only [decide_eq_true_eq] at h
    have e : y.c = r.c := nodup_key ab.keys (St.key_of y hy) (St.key_of r hr) h.1
    rw [e] at h
    simp only [decide_eq_false_iff_not] at hd
    exact hd h.2
/-- the living keys of the first i pairs -/
noncomputable def lvK (x : St) (i : Nat) : List Int := ((x.kvs.take i).map (·.1)).filter (lvB (x.c4 ++ x.c9))
theorem lvK_succ {x : St} {i : Nat} {k : Int} {u : Value} (h : x.kvs[i]? = some (k, u)) : lvK x (i + 1) = lvK x i ++ if lvB (x.c4 ++ x.c9) k = true then [k] else [] := by
  unfold lvK
  rw [List.take_add_one, h, Option.toList_some, List.map_append, List.filter_append]
  congr 1
  simp only [List.map_cons, List.map_nil, List.filter_cons, List.filter_nil]
theorem lvK_len (x : St) (i : Nat) : (lvK x i).length ≤ x.kvs.length := by
  unfold lvK
  refine Nat.le_trans (List.length_filter_le _ _) ?_
  rw [List.length_map]
  exact List.length_take_le' _ _
theorem ints_of {prog : Program} {w : World} : ∀ {kvs : List (Int × Value)} {vs : List Value}, vs.length = kvs.length → (∀ (j : Nat) (v : Value), vs[j]? = some v → ∃ k u, kvs[j]? = some (k, u) ∧ (PySem.intKind prog w).is k v = true) → IntsAre vs (kvs.map (·.1)) := by
  intro kvs
  induction kvs with
  | nil => intro vs h _; cases vs with
    | nil => exact .nil
    | cons _ _ => simp at h
  | cons p r ih => intro vs h hv; cases vs with
    | nil => simp at h
    | cons v vs =>
      obtain ⟨k, u, e, hk⟩ := hv 0 v rfl
      obtain ⟨t, rfl⟩ := Value.isInt_shape hk
      have e2 : p = (k, u) := by simpa using e
      subst e2
      exact .cons _ _ (ih (by simpa using h) fun j v' hj => hv (j + 1) v' (by simpa using hj))
theorem sorted_dict {prog : Program} {w : World} {A : Around} {E : Value → Shared → Prop} {s : Shared} {h₀ : Heap} {L d : Addr} {m : Str → Option Value} {news : List (Addr × Obj)} {od : Obj} {kvs : List (Int × Value)} {Q : Value → Shared → Prop}
    (hh : A.handled = none) (F : Fr h₀ L s.heap m) (N : News h₀ L s.heap news) (hm : (d, od) ∈ news) (hd : od.IsDictOf (PySem.intKind prog w) kvs) (lo : (d == sysModules) = false) (h64 : kvs.length < 64)
    (h : ∀ B h' tk vs' ns' c, Fr h₀ L h' m → News h₀ L h' ((B, listOf (List.toArray vs') c) :: news) → (∀ q ∈ news, q.1 < B) → IntsAre vs' ns' → ns'.Perm (kvs.map (·.1)) → ns'.Pairwise (fun x y => x ≤ y) → Q (.ref B) { s with heap := h', toks := tk }) :
    wpAny (model prog w) A (call (.builtin "sorted") [.ref d]) Q E s := by
  obtain ⟨ep, hat⟩ := (kda_dict N hm hd).dictAt
  have h3 : (1000 : Nat) ≤ sizeLine := by decide
  refine kdu_sorted (kdl_dict (knd := PySem.intKind prog w) (kvs := kvs) (ep := ep) lo) hh F N hat (by omega) fun B h' tk vs F' N' l1 hl hv => ?_
  have hi : IntsAre vs (kvs.map (·.1)) := ints_of (prog := prog) (w := w) hl hv
  refine ksk_lsort (news' := fun o => (B, o) :: news) F' N' (fun o => Upd.head fun p hp => Nat.ne_of_lt (l1 p hp)) rfl hi (by rw [List.length_map]; exact h64) fun vs' ns' c h'' F'' N'' hI _ hp hP _ => ?_
  exact h B h'' tk vs' ns' c F'' N'' l1 hI hp hP
theorem sorted_eq : ∀ {a b : List Int}, a.Perm b → a.Pairwise (fun x y => x ≤ y) → b.Pairwise (fun x y => x ≤ y) → a = b := by
  intro a
  induction a with
  | nil => intro b h _ _; exact (List.Perm.eq_nil h.symm).symm
  | cons x xs ih =>
    intro b h ha hb
    cases b with
    | nil => exact absurd h.length_eq (by simp)
    | cons y ys =>
      rw [List.pairwise_cons] at ha hb
      have h1 : x ∈ y :: ys := h.subset (.head _)
      have h2 : y ∈ x :: xs := h.symm.subset (.head _)
      have e : x = y := by
        rcases List.mem_cons.mp h1 with e | h1
        · exact e
        · rcases List.mem_cons.mp h2 with e | h2
          · exact e.symm
          · exact Int.le_antisymm (ha.1 y h2) (hb.1 x h1)
      subst e
      rw [ih (List.perm_cons x |>.mp h) ha.2 hb.2]
theorem Sep4.cons {a b c z : List (Addr × Obj)} {d : Addr} {o : Obj} (S : Sep4 a b c z) (h : ∀ p ∈ a ++ (b ++ (c ++ z)), p.1 ≠ d) : Sep4 a b c ((d, o) :: z) := by
  have e : ∀ {l : List (Addr × Obj)}, (∀ p ∈ l, p.1 ≠ d) → Disj l z → Disj l ((d, o) :: z) := fun hl D p hp q hq => by
    rcases List.mem_cons.mp hq with e | hq
    · rw [e]; exact hl p hp
    · exact D p hp q hq
  exact ⟨S.ab, S.ac, e (fun p hp => h p (List.mem_append_left _ hp)) S.az, S.bc, e (fun p hp => h p (List.mem_append_right _ (List.mem_append_left _ hp))) S.bz,
    e (fun p hp => h p (List.mem_append_right _ (List.mem_append_right _ (List.mem_append_left _ hp)))) S.cz⟩
theorem off1_mem {D : Addr} : ∀ {l : List (Addr × Obj)}, PyProof.Rows.LCg.Off1 D l → ∀ p ∈ l, p.1 ≠ D := by
  intro l
  induction l with
  | nil => intro _ p hp; exact absurd hp List.not_mem_nil
  | cons q r ih =>
    intro h p hp
    rcases List.mem_cons.mp hp with rfl | hp
    · exact h.1
    · exact ih h.2 p hp
theorem live_perm {w : World} {x y x' : St} {since : Int} (oky : y.Ok w) (aby : y.ab.Ok) (R : Rel since x.ab y.ab) (okx' : x'.Ok w) (e : x'.ab = sweepAb x.ab) : (lvK y y.kvs.length).Perm (x'.kvs.map (·.1)) := by
  have key : ∀ {z : St}, z.Ok w → (z.kvs.map (·.1)).Perm ((z.c4 ++ z.c9).map (·.c.key)) := fun ok => by
    have := ok.perm.map (·.1)
    rw [← kvOf_append] at this
    simpa only [kvOf, List.map_map, Function.comp_def] using this
  have h3 : lvK y y.kvs.length = (y.kvs.map (·.1)).filter (lvB (y.c4 ++ y.c9)) := by unfold lvK; rw [List.take_length]
  rw [h3]
  refine (((key oky).filter _).trans ?_).trans (key okx').symm
  have h4 : ((y.c4 ++ y.c9).map (·.c.key)).filter (lvB (y.c4 ++ y.c9)) = ((y.c4 ++ y.c9).filter fun r => decide (r.c.death < 0)).map (·.c.key) := by
    rw [List.filter_map]
    congr 1
    exact List.filter_congr fun r hr => lvB_of aby hr
  obtain ⟨s4, s9⟩ := sweep_live R aby
  rw [← e] at s4 s9
  have h5 : ∀ {a b : List RecA}, b.map (·.c) = (a.map (·.c)).filter (fun r => decide (r.death < 0)) → b.map (·.c.key) = (a.filter fun r => decide (r.c.death < 0)).map (·.c.key) := fun h => by
    rw [List.filter_map] at h
    have := congrArg (List.map (·.key)) h
    simpa only [List.map_map, Function.comp_def] using this
  rw [h4, List.filter_append, List.map_append, List.map_append, h5 s4, h5 s9]
/-- two stores that tell alike: the answers do not differ -/
theorem tells_ne {w : World} {A : Around} {Q : Value → Shared → Prop} {Er : Value → Shared → Prop} {s : Shared} {v v' : Value} {t : Told} (h1 : TellsV v t) (h2 : TellsV v' t) (h : Q (.bool false) s) :
    wpAny (model PySem.Challenge.rw_rh0068_01.row.prog w) A (compareOp .NotEq v v') Q Er s := by
  cases h1 <;> cases h2
  all_goals (walk1; simpa using h)

end
section

theorem ne_one {c l : Addr} {o : Obj} (h : ∀ p ∈ [(c, o)], p.1 ≠ l) : @Ne Nat c l := h (c, o) (List.mem_singleton.mpr rfl)
theorem ndA_joinD {a b b' : List (Addr × Obj)} (d : Disj a b) (ha : NdA a) (hb : NdA b') (e : b.map (·.1) = b'.map (·.1)) : NdA (a ++ b) := ndA_of ha (hb.addr e) d
theorem nd_of_news {h₀ h : Heap} {L : Addr} {l : List (Addr × Obj)} (_ : News h₀ L h l) (n : NdA l) : NdA l := n
theorem allLt_cons {d : Addr} {l : List (Addr × Obj)} {o : Obj} (n : NdA l) (h : AllLt d l) : NdA ((d, o) :: l) := ndA_cons (allLt_ne h) n
section
local macro_rules | `(tactic| k_qdec) => `(tactic| decide +kernel)
local macro_rules | `(tactic| walk_at "m_fig") => `(tactic| (k_here; (rename IntsAre _ _ => hI9); (rename Heap.IsList _ _ _ => hL9); (rename ¬ _ < _ => hc9); k_dflt (refine' figures_use ?B ?F ?X ?N ?T ?hk ?hd ?hu ?hL ?hI ?hz ?_; (case B => k_asm); (case F => k_asm); (case X => k_asm); (case N => k_asm); (case T => k_asm); (case hk => first | exact rfl | assumption); (case hd => ktr_room); (case hu => ktr_units); (case hL => exact hL9); (case hI => exact hI9); (case hz => rw [hI9.length]; omega)); k_whole; intro l9 vs9 fs9 n9 h9 tk9 F9 N9 hne9 hi9 hz9; (have hne8 := ne_one hne9); (try dsimp only); (try k_fold)))
local macro_rules | `(tactic| walk_at "call ref") => `(tactic| first
  | ((with_reducible show wpAny _ _ (call (Value.ref 183) _) _ _ _); walk_at "m_fig")
  | (refine Halt.of ?_))
local macro_rules | `(tactic| walk_at "subscriptTail") => `(tactic| first
  | (k_here; (with_reducible show wpAny _ _ (subscriptTail _ _ (Value.ref _) (Value.int _ _)) _ _ _); k_dflt (refine kba_turn (value' := PySem.Expr.Name (PySem.Str.ofString "_") ⟨0, 0, 0, 0⟩) (fun _ => rfl) ?_; refine' kda_item (knd := PySem.intKind _ _) ?N ?m ?d (intKind_is _ _ _ _) ?v ?_; (case N => k_asm); (case m => k_mem); (case d => with_reducible assumption); (case v => with_reducible assumption)))
  | (refine Halt.of ?_))
local macro_rules | `(tactic| walk_at "ite") => `(tactic| first
  | (rw [if_pos (by first | with_reducible rfl | decide | (rw [beq_iff_eq]; omega) | (rw [decide_eq_true_eq]; omega))])
  | (rw [if_neg (by first | (rw [bne_self_eq_false]; exact Bool.false_ne_true) | (rw [bne_iff_ne]; omega) | (rw [beq_iff_eq]; omega) | (rw [decide_eq_true_eq]; omega) | decide)])
  | (refine Halt.of ?_))
local macro_rules | `(tactic| walk_at "exec If") => `(tactic| refine wpAny_If ?_)
local macro_rules | `(tactic| walk_at "call builtin:sorted") => `(tactic| (refine Halt.of ?_))
local macro_rules | `(tactic| walk_at "compareOp NotEq ref ref") => `(tactic| (refine Halt.of ?_))
local macro_rules | `(tactic| walk_at "exec Assign cons ListComp") => `(tactic| (refine Halt.of ?_))
local macro_rules | `(tactic| walk_at "eval ListComp") => `(tactic| (refine Halt.of ?_))
local macro_rules | `(tactic| walk_at "storeName") => `(tactic| ((with_reducible show wpAny _ _ (storeName (envOfC _ _ _ _ _) (Str.ofString "full") _) _ _ _); refine Halt.of ?_))
theorem law_try : PySem.Challenge.rw_rh0068_01.Holds := by
  refine hd ?_
  w_strict (k_go0; (all_goals try k_fold))
  (rename Shared => s1)
  (rename World => w)
  k_steps
  rename_i co right N0 X0 lf vs fs nf _ _ hne9 hi9 hz9 hne8 _ _ dv _ lv dl _ ll ds _ ls di _ li dc _ lc wl _ lw _ kF kN
  have ND0 := nd_of_news kN (by (simp only [NdA, List.map_cons, List.map_nil, List.nodup_cons, List.mem_cons, List.not_mem_nil, or_false, not_or, List.nodup_nil, and_true, not_false_eq_true]; (and_intros <;> first | with_reducible assumption | (refine Ne.symm ?_; with_reducible assumption) | omega)))
  clear N0 X0 hne9 lv ll ls li lc lw hne8
  refine Halt.to ?_
  (rename Fr _ _ _ _ => aF); (rename News _ _ _ _ => aN)
  k_dflt (refine' Meets.use (pre := []) ?gB1 aF ?gX1 aN ?gD1 ?gT1 ?gk1 (store_meets _) ?gd1 ?gu1 ?_)
  (case gB1 => k_asm)
  (case gX1 => k_asm)
  (case gD1 => exact fun _ hp => absurd hp List.not_mem_nil)
  (case gT1 => k_asm)
  (case gk1 => first | exact rfl | assumption)
  (case gd1 => ktr_room)
  (case gu1 => ktr_units)
  k_whole
  rintro r9 tl9 h9 tk9 F1 N1 D1 ⟨S1, od1, e9, hod1, lo1, e9', nd1⟩
  subst e9
  subst e9'
  have ND1 := ndA_joinD D1 nd1 ND0 rfl
  clear aF aN
  dsimp only [List.cons_append, List.nil_append, sObj, sDict, pObj, pDict] at N1 ND1
  try dsimp only
  try k_fold
  k_steps
  refine Halt.to ?_
  (rename Fr _ _ _ _ => aF); (rename News _ _ _ _ => aN)
  k_dflt (refine' Meets.use (pre := []) ?gB2 aF ?gX2 aN ?gD2 ?gT2 ?gk2 (store_meets _) ?gd2 ?gu2 ?_)
  (case gB2 => k_asm)
  (case gX2 => k_asm)
  (case gD2 => exact fun _ hp => absurd hp List.not_mem_nil)
  (case gT2 => k_asm)
  (case gk2 => first | exact rfl | assumption)
  (case gd2 => ktr_room)
  (case gu2 => ktr_units)
  k_whole
  rintro r9 tl9 h9 tk9 F2 N2 D2 ⟨S2, od2, e9, hod2, lo2, e9', nd2⟩
  subst e9
  subst e9'
  have ND2 := ndA_joinD D2 nd2 ND1 rfl
  clear aF aN
  dsimp only [List.cons_append, List.nil_append, sObj, sDict, pObj, pDict] at N2 ND2
  try dsimp only
  try k_fold
  k_steps
  refine Halt.to ?_
  (rename Fr _ _ _ _ => aF); (rename News _ _ _ _ => aN)
  refine stCN (own := [_, _, _, _, _, _, _, _, _, _, _, _, _]) (rest := []) aF aN rfl right ?own (fun p hp => absurd hp List.not_mem_nil) ?_
  case own => exact fun p hp => (ndA_append (a := [_, _, _, _, _, _, _, _, _, _, _, _, _]) (b := [_]) ND2).2.2 p hp _ (.head _)
  intro h3 co' F3 N3 right'
  replace ND2 := ND2.addr (b := [_, _, _, _, _, _, _, _, _, _, _, _, _, (s1.heap.objs.size + 1, co')]) rfl
  clear aF aN right
  dsimp only [List.cons_append, List.nil_append] at N3 ND2
  try dsimp only
  k_steps
  rename_i md _ mo kF kN mlo mhd ml
  have NDm := allLt_cons (d := md) (o := mo) ND2 (by simp only [AllLt, and_true]; exact ml)
  refine Halt.to ?_
  (rename Fr _ _ _ _ => aF); (rename News _ _ _ _ => aN)
  k_dflt (refine' Meets.use (pre := []) ?gB3 aF ?gX3 aN ?gD3 ?gT3 ?gk3 (proc_meets _ _ _ _ _) ?gd3 ?gu3 ?_)
  (case gB3 => k_asm)
  (case gX3 => k_asm)
  (case gD3 => exact fun _ hp => absurd hp List.not_mem_nil)
  (case gT3 => k_asm)
  (case gk3 => first | exact rfl | assumption)
  (case gd3 => ktr_room)
  (case gu3 => ktr_units)
  k_whole
  rintro r9 tl9 h9 tk9 F3 N3 D3 ⟨P3, e9, fn3, e9', nd3⟩
  subst e9
  subst e9'
  have ND3 := ndA_joinD D3 nd3 NDm rfl
  clear aF aN
  dsimp only [List.cons_append, List.nil_append, sObj, sDict, pObj, pDict] at N3 ND3
  try dsimp only
  try k_fold
  have e31 : @Ne Nat P3.a md := D3 _ (.head _) _ (.head _)
  have e32 : @Ne Nat P3.d md := D3 _ (.tail _ (.head _)) _ (.head _)
  k_steps
  refine Halt.to ?_
  (rename Fr _ _ _ _ => aF); (rename News _ _ _ _ => aN)
  k_dflt (refine' Meets.use (pre := []) ?gB4 aF ?gX4 aN ?gD4 ?gT4 ?gk4 (proc_meets _ _ _ _ _) ?gd4 ?gu4 ?_)
  (case gB4 => k_asm)
  (case gX4 => k_asm)
  (case gD4 => exact fun _ hp => absurd hp List.not_mem_nil)
  (case gT4 => k_asm)
  (case gk4 => first | exact rfl | assumption)
  (case gd4 => ktr_room)
  (case gu4 => ktr_units)
  k_whole
  rintro r9 tl9 h9 tk9 F4 N4 D4 ⟨P4, e9, fn4, e9', nd4⟩
  subst e9
  subst e9'
  have ND4 := ndA_joinD D4 nd4 ND3 rfl
  clear aF aN
  dsimp only [List.cons_append, List.nil_append, sObj, sDict, pObj, pDict] at N4 ND4
  try dsimp only
  try k_fold
  have e41 : @Ne Nat P4.a md := D4 _ (.head _) _ (.tail _ (.tail _ (.head _)))
  have e42 : @Ne Nat P4.d md := D4 _ (.tail _ (.head _)) _ (.tail _ (.tail _ (.head _)))
  k_steps
  rename_i mo2 mhd2 _ kF0 kN0 yd _ yo kF kN ylo yhd yl
  have NDy := allLt_cons (d := yd) (o := yo) ND4 (by simp only [AllLt, and_true]; exact yl)
  clear kF0 kN0
  refine Halt.to ?_
  (rename Fr _ _ _ _ => aF); (rename News _ _ _ _ => aN)
  k_dflt (refine' Meets.use (pre := []) ?gB5 aF ?gX5 aN ?gD5 ?gT5 ?gk5 (proc_meets _ _ _ _ _) ?gd5 ?gu5 ?_)
  (case gB5 => k_asm)
  (case gX5 => k_asm)
  (case gD5 => exact fun _ hp => absurd hp List.not_mem_nil)
  (case gT5 => k_asm)
  (case gk5 => first | exact rfl | assumption)
  (case gd5 => ktr_room)
  (case gu5 => ktr_units)
  k_whole
  rintro r9 tl9 h9 tk9 F5 N5 D5 ⟨P5, e9, fn5, e9', nd5⟩
  subst e9
  subst e9'
  have ND5 := ndA_joinD D5 nd5 NDy rfl
  clear aF aN
  dsimp only [List.cons_append, List.nil_append, sObj, sDict, pObj, pDict] at N5 ND5
  try dsimp only
  try k_fold
  have e51 : @Ne Nat P5.a yd := D5 _ (.head _) _ (.head _)
  have e52 : @Ne Nat P5.d yd := D5 _ (.tail _ (.head _)) _ (.head _)
  k_steps
  refine Halt.to ?_
  (rename Fr _ _ _ _ => aF); (rename News _ _ _ _ => aN)
  k_dflt (refine' Meets.use (pre := []) ?gB6 aF ?gX6 aN ?gD6 ?gT6 ?gk6 (proc_meets _ _ _ _ _) ?gd6 ?gu6 ?_)
  (case gB6 => k_asm)
  (case gX6 => k_asm)
  (case gD6 => exact fun _ hp => absurd hp List.not_mem_nil)
  (case gT6 => k_asm)
  (case gk6 => first | exact rfl | assumption)
  (case gd6 => ktr_room)
  (case gu6 => ktr_units)
  k_whole
  rintro r9 tl9 h9 tk9 F6 N6 D6 ⟨P6, e9, fn6, e9', nd6⟩
  subst e9
  subst e9'
  have ND6 := ndA_joinD D6 nd6 ND5 rfl
  clear aF aN
  dsimp only [List.cons_append, List.nil_append, sObj, sDict, pObj, pDict] at N6 ND6
  try dsimp only
  try k_fold
  have e61 : @Ne Nat P6.a yd := D6 _ (.head _) _ (.tail _ (.tail _ (.head _)))
  have e62 : @Ne Nat P6.d yd := D6 _ (.tail _ (.head _)) _ (.tail _ (.tail _ (.head _)))
  k_steps
  refine Halt.to ?_
  rename_i yo2 yhd2 _ _ _ kF kN
  obtain ⟨t1, t2, t3, t4, t5, t6, t7, kN2⟩ : ∃ t1 t2 t3 t4 t5 t6 t7, News _ _ _ ([pObj P6, pDict _ P6 (-1) (-1), pObj P5, pDict _ P5 (-1) (-1), (yd, yo2), pObj P4, pDict _ P4 (-1) (-1), pObj P3, pDict _ P3 (-1) (-1), (md, mo2), sObj S2, sDict _ S2 0 0, (S2.rd, od2), sObj S1, sDict _ S1 0 0, (S1.rd, od1)] ++
      ([(wl, listOf [.ref dv, .ref dl, .ref ds, .ref dc].toArray 0), (dc, tupO [.str (Str.ofString "const") t5, .ref di]), (di, tupO [.int 4 t6, .int 4 t7]), (ds, tupO [.str (Str.ofString "struct") t3, .int 4 t4]), (dl, tupO [.str (Str.ofString "list") t2]), (dv, tupO [.str (Str.ofString "var") t1])] ++ [(lf, listOf vs.toArray nf), (s1.heap.objs.size + 1, co')])) := ⟨_, _, _, _, _, _, _, kN⟩
  obtain ⟨x, y, L0, hnr0, hsub⟩ := law_start _ S1 S2 od1 od2 mo2 yo2 co' md yd lf _ P3 P4 P5 P6 [(wl, listOf [.ref dv, .ref dl, .ref ds, .ref dc].toArray 0), (dc, tupO [.str (Str.ofString "const") t5, .ref di]), (di, tupO [.int 4 t6, .int 4 t7]), (ds, tupO [.str (Str.ofString "struct") t3, .int 4 t4]), (dl, tupO [.str (Str.ofString "list") t2]), (dv, tupO [.str (Str.ofString "var") t1])] vs fs nf hod1 hod2 lo1 lo2 mlo ylo mhd2 yhd2 fn3 fn4 fn5 fn6 hi9 hz9 (ND6.addr rfl)
  have N0 := news_sub kN2 hsub
  have W0 := words_in wl dv dl ds di dc t1 t2 t3 t4 t5 t6 t7 [(s1.heap.objs.size + 1, co')]
  clear kN kN2 hsub
  generalize hWL : [(wl, listOf [Value.ref dv, .ref dl, .ref ds, .ref dc].toArray 0), (dc, tupO [.str (Str.ofString "const") t5, .ref di]), (di, tupO [.int 4 t6, .int 4 t7]), (ds, tupO [.str (Str.ofString "struct") t3, .int 4 t4]), (dl, tupO [.str (Str.ofString "list") t2]), (dv, tupO [.str (Str.ofString "var") t1])] ++ [(s1.heap.objs.size + 1, co')] = WL at L0 N0 W0
  have hcell := by exact (show (s1.heap.objs.size + 1, co') ∈ WL by rw [← hWL]; exact List.mem_append_right _ (.head _))
  clear hWL ND0 ND1 ND2 ND3 ND4 ND5 ND6 NDm NDy D1 D2 D3 D4 D5 D6 nd1 nd2 nd3 nd4 nd5 nd6 yl ml yhd yhd2 mhd mhd2 hod1 hod2 lo1 lo2 mlo ylo fn3 fn4 fn5 fn6 e31 e32 e41 e42 e51 e52 e61 e62 hi9 hz9
  generalize [Value.ref dv, Value.ref dl, .ref ds, .ref dc] = ws at W0
  k_dflt (refine' draw_use (c := []) (E := []) (TL := x.led w.params ++ (y.led w.params ++ ([(lf, listOf vs.toArray nf)] ++ WL))) ?dB kF ?dX N0 ?dT ?dk ?dd ?du ?dE (fun p hp => hp) L0.sep L0.hi L0.hz ?d0 ?_)
  (case dB => k_asm)
  (case dX => k_asm)
  (case dT => k_asm)
  (case dk => first | exact rfl | assumption)
  (case dd => ktr_room)
  (case du => ktr_units)
  (case dE => exact fun _ hp => absurd hp List.not_mem_nil)
  (case d0 => decide)
  k_whole
  intro d0 t0 vs1 fs1 n1 h1 tk1 hd0 hd1 hi1 hz1 F1 N1 sp1 _
  clear kF N0
  try dsimp only
  k_steps
  refine Halt.to ?_
  rename_i F1 N1 _ _ _ _ _ _ hR kF kN _
  obtain ⟨rg1, rg2⟩ := range_ok d0 hd0 hd1
  have L1 : LawOk w S1.a S2.a md yd P3.a P4.a P5.a P6.a lf WL x y 0 vs1 fs1 n1 WL := { L0 with hi := hi1, hz := hz1, sep := sp1 }
  clear L0
  obtain ⟨sa, hsa⟩ : ∃ sa, sa = S1.a := ⟨_, rfl⟩
  obtain ⟨sb, hsb⟩ : ∃ sb, sb = S2.a := ⟨_, rfl⟩
  rw [← hsa] at L1 kF
  rw [← hsb] at L1 right'
  clear hsa hsb
  k_dflt (refine' for_range (n := (12 - d0).toNat) (led := x.led w.params ++ (y.led w.params ++ ([(lf, listOf vs1.toArray n1)] ++ WL))) (fun m₀ i m₁ led₁ => (∀ y, y ≠ Str.ofString "turn" → [Str.ofString "deed", Str.ofString "living", Str.ofString "dropped", Str.ofString "since", Str.ofString "who", Str.ofString "number", Str.ofString "word", Str.ofString "told", Str.ofString "made"].contains y = false → m₁ y = m₀ y) ∧
    ∃ x y since made ts tm vs fs n Z, m₁ (Str.ofString "since") = some (.int since ts) ∧ m₁ (Str.ofString "made") = some (.int made tm) ∧ 0 ≤ made ∧ St.nr y ≤ (i : Int) ∧ LawOk w sa sb md yd P3.a P4.a P5.a P6.a lf WL x y since vs fs n Z ∧
      led₁ = x.led w.params ++ (y.led w.params ++ ([(lf, listOf vs.toArray n)] ++ Z))) rfl hR rg1 rg2 kF kN ?hj ?turn ?done)
  case hj => exact ⟨fun _ _ _ => rfl, x, y, 0, 0, _, _, vs1, fs1, n1, WL, rfl, rfl, Int.le_refl _, Int.le_of_eq hnr0, L1, rfl⟩
  case turn =>
    clear L1 hnr0 hR sp1 hi1 hz1 F1 N1
    intro s₂ i t m₁ led₁ h tk own hs8 hin hj8 hD F₁ N₁
    refine hidePost fun Q9 hQ9 => ?_
    obtain ⟨_, rfl⟩ := hs8
    refine hideG fun G9 hG9 => ?_
    obtain ⟨hm, x, y, since, made, ts, tm, vs, fs, n, Z, hsn, hmd, hm0, hnr, L, rfl⟩ := hj8 <;> (refine hG9 ?_; clear hG9)
    rw [map_eq5 hm hsn hmd] at F₁
    have hm' := hm
    clear kF kN hm
    have hx := L.hx
    have hy := L.hy
    have hpx := L.hpx
    have hpy := L.hpy
    subst hx hy hpx hpy
    have hox := L.okx.hod
    have hoy := L.oky.hod
    have hpox := L.okx.hpo
    have hpoy := L.oky.hpo
    have sp := L.sep.addF hD
    obtain ⟨TL, hTL, N₂⟩ : ∃ TL, (∀ p ∈ x.led w.params ++ (y.led w.params ++ ([(lf, listOf vs.toArray n)] ++ (Z ++ own))), p ∈ TL) ∧ News _ _ _ TL := ⟨_, fun _ hp => hp, news_sub N₁ in_assoc⟩
    clear N₁
    k_steps
    refine Halt.to ?_
    rename_i lw _ kF kN llw
    obtain ⟨u0, u1, u2, u3, u4, u5, kN2⟩ : ∃ u0 u1 u2 u3 u4 u5, News _ _ _ ((lw, listOf [Value.int 0 u0, .int 1 u1, .int 2 u2, .int 3 u3, .int 5 u4, .int 4 u5].toArray 0) :: TL) := ⟨_, _, _, _, _, _, kN⟩
    clear kN
    (rename News _ _ _ _ => kN)
    k_dflt (refine' draw_use (c := []) (E := [(lw, listOf [Value.int 0 u0, .int 1 u1, .int 2 u2, .int 3 u3, .int 5 u4, .int 4 u5].toArray 0)]) (TL := TL) ?dB1 kF ?dX1 kN ?dT1 ?dk1 ?dd1 ?du1 (disj_one llw) hTL sp L.hi L.hz ?d01 ?_)
    (case dB1 => k_asm)
    (case dX1 => k_asm)
    (case dT1 => k_asm)
    (case dk1 => first | exact rfl | assumption)
    (case dd1 => ktr_room)
    (case du1 => ktr_units)
    (case d01 => decide)
    k_whole
    intro d1 td vs2 fs2 n2 h2 tk2 hd2 hd3 hi2 hz2 F2 N2 sp2 E2
    clear kF kN
    try dsimp only
    obtain ⟨TL2, hTL2, N3⟩ : ∃ TL2, (∀ p ∈ x.led w.params ++ (y.led w.params ++ ([(lf, listOf vs2.toArray n2)] ++ (Z ++ own))), p ∈ TL2) ∧ News _ _ _ ((lw, listOf [Value.int 0 u0, .int 1 u1, .int 2 u2, .int 3 u3, .int 5 u4, .int 4 u5].toArray 0) :: TL2) := ⟨_, fun _ hp => hp, N2⟩
    clear N2 E2 hTL llw
    k_steps
    refine Halt.to ?_
    (rename Fr _ _ _ _ => kF); (rename News _ _ _ _ => kN)
    obtain ⟨deed, td2, hdv, hp0, hp5⟩ := six_at ((0 + (i : Int) + d1).fmod 6) (Int.fmod_nonneg_of_pos _ (by decide)) (Int.fmod_lt_of_pos _ (by decide)) u0 u1 u2 u3 u4 u5
    k_dflt (refine' sub_list kN mem_here (Int.fmod_nonneg_of_pos _ (by decide)) (Int.lt_trans (Int.fmod_lt_of_pos _ (by decide)) (by decide)) hdv ?_ ?ss1)
    (case ss1 => with_unfolding_all rfl)
    k_whole
    have N4 := news_sub kN (l' := TL2) (fun p hp => .tail _ hp)
    clear kN hdv
    have hWZ : ∀ p ∈ WL, p ∈ Z ++ own := fun p hp => List.mem_append_left _ (L.hW p hp)
    by_cases h5 : deed = 5
    · subst h5
      have mA1 := in_a hTL2 _ (led_mem w.params x).1
      have mA2 := in_a hTL2 _ (led_mem w.params x).2.1
      have mA3 := in_a hTL2 _ (led_mem w.params x).2.2.1
      have mA4 := in_a hTL2 _ (led_mem w.params x).2.2.2
      have mB1 := in_b hTL2 _ (led_mem w.params y).1
      have mB2 := in_b hTL2 _ (led_mem w.params y).2.1
      have mB3 := in_b hTL2 _ (led_mem w.params y).2.2.1
      have mB4 := in_b hTL2 _ (led_mem w.params y).2.2.2
      have mW := in_z hTL2 _ (hWZ _ W0.h)
      have mC := in_z hTL2 _ (hWZ _ hcell)

      k_steps
      refine Halt.to ?_
      (rename Fr _ _ _ _ => kF); (rename News _ _ _ _ => kN)
      obtain ⟨hnn, abx⟩ := nr_x L
      have hin2 : i < 12 := by omega
      have hny : y.nr ≤ 18 := by omega
      have hnx : x.nr ≤ 18 := by omega
      k_dflt (refine' comp_dict kF ?l1 ?l2 ?l3 ?l4 ?l5 ?l6 ?l7 ?l8 ?l9 ?_ ?l10)
      (case l1 => rfl)
      (case l2 => with_unfolding_all rfl)
      (case l3 => with_unfolding_all rfl)
      (case l4 => decide)
      (case l5 => rfl)
      (case l6 => decide)
      (case l7 => rfl)
      (case l8 => rfl)
      (case l9 => rfl)
      (case l10 => intro _; rfl)
      iterate 3 walk1
      (rename Fr _ _ _ _ => kF); (rename News _ _ _ _ => kN)
      refine ⟨y.S.rd, y.od, y.kvs, TL2, rfl, rfl, kF, kN, mB3, hoy, L.oky.lo, (size_ok L.oky L.aby hny).1, ?_⟩
      rintro s₃ ⟨g3, rfl⟩
      refine compRest_inv (fun j ys => IntsAre ys (lvK y j)) ?fin ?tn mB3 y.kvs.length 0 [] (Nat.zero_add _) .nil
      case tn =>
        rintro j ys v I oI C oC D m₂ h8 tk8 E' hj ⟨k, u, hk, hkv⟩ hn hx F8 N8 off
        obtain ⟨tv, rfl⟩ := Value.isInt_shape hkv
        obtain ⟨r, nx, hr, hkr, hval, r1, r2⟩ := kv_rec L.oky hk
        replace r1 := in_b hTL2 _ r1
        replace r2 := in_b hTL2 _ r2
        clear kF kN
        iterate 12 walk1
        by_cases hdl : r.c.death < 0
        · rw [if_pos (by simpa using hdl)]
          walk1
          refine ⟨_, _, rfl, F8, N8, ?_⟩
          rw [lvK_succ hk, if_pos (by rw [← hkr, lvB_of L.aby hr]; simpa using hdl)]
          exact ints_snoc hj k _
        · rw [if_neg (by simpa using hdl)]
          refine ⟨_, _, rfl, F8, N8, ?_⟩
          rw [lvK_succ hk, if_neg (by rw [← hkr, lvB_of L.aby hr]; simpa using hdl), List.append_nil]
          exact hj
      case fin =>
        intro ys hys D h8 tk8 F8 N8 offD
        clear kF kN
        have hkl := St.kvlen L.oky
        have hkx := St.kvlen L.okx
        obtain ⟨z1, z2, z3⟩ := size_ok L.oky L.aby hny
        obtain ⟨z4, z5, z6⟩ := size_ok L.okx abx hnx
        have hyl : ys.length ≤ 1000 := by
          have := hys.length
          have := lvK_len y y.kvs.length
          omega
        have hy38 : ys.length ≤ 38 := by
          have := hys.length
          have := lvK_len y y.kvs.length
          omega
        have hxl : x.kvs.length ≤ 16777216 := by omega
        have hlx := L.okx.lo
        obtain ⟨nl, N9⟩ : ∃ nl, News _ _ _ ((D, listOf ys.toArray nl) :: TL2) := ⟨_, N8⟩
        clear N8
        try dsimp only
        have hoff := off1_mem offD
        iterate 22 walk1
        k_steps
        refine Halt.to ?_
        (rename Fr _ _ _ _ => kF); (rename News _ _ _ _ => kN)
        have spD := sp2.cons (d := D) (o := listOf ys.toArray nl) (fun p hp => hoff p (hTL2 p hp))
        k_dflt (refine' sweep_use1 (a := []) (E := []) (TL := (D, listOf ys.toArray nl) :: TL2) ?gB kF ?gX kN ?gT ?gk ?gd ?gu L.okx abx hnx rfl rfl (in_four (fun p hp => .tail _ (in_a hTL2 p hp)) (fun p hp => .tail _ (in_b hTL2 p hp)) (fun p hp => .tail _ (in_c hTL2 p hp)) (fun p hp => (List.mem_cons.mp hp).elim (fun e => e ▸ .head _) fun h => .tail _ (in_z hTL2 p h))) spD ?_)
        (case gB => k_asm)
        (case gX => k_asm)
        (case gT => k_asm)
        (case gk => first | exact rfl | assumption)
        (case gd => ktr_room)
        (case gu => ktr_units)
        k_whole
        rintro v1 x' T' h9 tk9 ⟨rfl, t9, rfl, okx', abx', ex1, ex2, ex3, ex4, tx'⟩ nd9 F9 N10 sp9 _
        clear kF kN
        have hperm := live_perm L.oky L.aby L.R okx' abx'
        have hcnt : (x'.kvs.length : Int) = (ys.length : Int) := by
          have h1 := hperm.length_eq
          rw [List.length_map] at h1
          rw [hys.length, h1]
        try dsimp only
        obtain ⟨TL3, hTL3, N11⟩ : ∃ TL3, (∀ p ∈ x'.led w.params ++ (y.led w.params ++ ([(lf, listOf vs2.toArray n2)] ++ ((D, listOf ys.toArray nl) :: (Z ++ own)))), p ∈ TL3) ∧ News _ _ _ TL3 := ⟨_, fun _ hp => hp, N10⟩
        clear N10 mA1 mA2 mA3 mA4 mB1 mB2 mB3 mB4 mW mC
        have hWZ3 : ∀ p ∈ WL, p ∈ (D, listOf ys.toArray nl) :: (Z ++ own) := fun p hp => .tail _ (hWZ p hp)
        have mA1 := in_a hTL3 _ (led_mem w.params x').1
        have mA2 := in_a hTL3 _ (led_mem w.params x').2.1
        have mA3 := in_a hTL3 _ (led_mem w.params x').2.2.1
        have mA4 := in_a hTL3 _ (led_mem w.params x').2.2.2
        have mB1 := in_b hTL3 _ (led_mem w.params y).1
        have mB2 := in_b hTL3 _ (led_mem w.params y).2.1
        have mB3 := in_b hTL3 _ (led_mem w.params y).2.2.1
        have mB4 := in_b hTL3 _ (led_mem w.params y).2.2.2
        have mW := in_z hTL3 _ (hWZ3 _ W0.h)
        have mC := in_z hTL3 _ (hWZ3 _ hcell)
        have mD := in_z hTL3 _ (.head _)
        have mA1' : (x.S.a, instObj 165 x'.S.d) ∈ TL3 := by rw [← ex1]; exact mA1
        have hox' := okx'.hod
        have hlx' := okx'.lo
        iterate 3 walk1
        rw [if_neg (by rw [bne_iff_ne]; omega)]
        k_steps
        refine Halt.to ?_
        (rename Fr _ _ _ _ => kF); (rename News _ _ _ _ => kN)
        k_dflt (refine' sorted_dict ?sA kF kN mA3 hox' hlx' ?sL ?_)
        (case sA => rfl)
        (case sL => omega)
        k_whole
        intro B1 h10 tk10 vs6 ns6 c6 F10 N12 l10 hi6 hp6 ho6
        clear kF kN
        try dsimp only
        k_steps
        refine Halt.to ?_
        (rename Fr _ _ _ _ => kF); (rename News _ _ _ _ => kN)
        k_dflt (refine' kso_sorted kF kN ⟨_, (kN _ (.tail _ mD)).1, rfl, nl, rfl⟩ hys ?tL ?_)
        (case tL => rw [← hys.length]; omega)
        k_whole
        intro B2 vs7 ns7 c7 h11 F11 N13 l11 hi7 _ hp7 ho7 _
        clear kF kN
        try dsimp only
        have heq : ns6 = ns7 := sorted_eq (hp6.trans (hperm.symm.trans hp7.symm)) ho6 ho7
        k_steps
        refine Halt.to ?_
        (rename Fr _ _ _ _ => kF); (rename News _ _ _ _ => kN)
        k_dflt (refine' ke_ne_ints (ns := ns6) (ms := ns7) ⟨_, (kN _ (.tail _ (.head _))).1, rfl, c6, rfl⟩ ⟨_, (kN _ (.head _)).1, rfl, c7, rfl⟩ hi6 hi7 ?cu ?_)
        (case cu => ktr_units)
        k_whole
        rw [decide_eq_true heq]
        have N14 := news_sub kN (l' := TL3) (fun p hp => .tail _ (.tail _ hp))
        clear kN hi6 hi7 l10 l11
        have R2 : Rel y.gen x'.ab y.ab := abx' ▸ sweep_rel L.R L.aby
        have hge : x'.gen = y.gen := R2.gen
        try dsimp only
        have R3 : Rel x'.gen x'.ab y.ab := by rw [hge]; exact R2
        have L2 : LawOk w x.S.a y.S.a x.pd y.pd P3.a P4.a P5.a P6.a lf WL x' y x'.gen vs2 fs2 n2 Z := ⟨okx', L.oky, L.aby, R3, ex1, rfl, ex2, rfl, ex3.trans L.x4, ex4.trans L.x9, L.y4, L.y9, hi2, hz2, sp9.subZ (fun p hp => .tail _ (List.mem_append_left _ hp)), tx' _ L.tx, L.ty, L.hW, L.nr0⟩
        have ho : ∀ p ∈ own, p ∈ (D, listOf ys.toArray nl) :: (Z ++ own) := fun p hp => .tail _ (List.mem_append_right _ hp)
        have hdj : Disj (x'.led w.params ++ (y.led w.params ++ ([(lf, listOf vs2.toArray n2)] ++ Z))) own := (sp9.az.sub ho).append ((sp9.bz.sub ho).append ((sp9.cz.sub ho).append hD.r.r.r))
        have hfin : ∀ p ∈ (x'.led w.params ++ (y.led w.params ++ ([(lf, listOf vs2.toArray n2)] ++ Z))) ++ own, p ∈ TL3 := fun p hp => in_four (in_a hTL3) (in_b hTL3) (in_c hTL3) (fun q hq => in_z hTL3 q (.tail _ hq)) p (in_assoc' p hp)
        walk1
        rw [if_neg (by decide)]
        k_steps
        (rename Fr _ _ _ _ => kF); (rename News _ _ _ _ => kN)
        refine hQ9 _ _ ?_
        refine FdPost.intro (led' := x'.led w.params ++ (y.led w.params ++ ([(lf, listOf vs2.toArray n2)] ++ Z))) kF (news_sub kN hfin) hdj ⟨fun z z1 z2 => ?_, x', y, x'.gen, made, _, _, vs2, fs2, n2, Z, rfl, rfl, hm0, ?_, L2, rfl⟩
        · have z3 := law_nine z2
          have z4 := hm' z z1 z2
          repeat (first | exact z4 | refine (if_neg (by first | exact z1 | exact z3.1 | exact z3.2.1 | exact z3.2.2.1 | exact z3.2.2.2.1 | exact z3.2.2.2.2.1 | exact z3.2.2.2.2.2.1 | exact z3.2.2.2.2.2.2.1 | exact z3.2.2.2.2.2.2.2.1 | exact z3.2.2.2.2.2.2.2.2 | (rw [z2]; exact Bool.false_ne_true))).trans ?_)
          all_goals (repeat (first | with_reducible rfl | refine Eq.trans ?_ (if_neg (by first | exact z1 | exact z3.1 | exact z3.2.1 | exact z3.2.2.1 | exact z3.2.2.2.1 | exact z3.2.2.2.2.1 | exact z3.2.2.2.2.2.1 | exact z3.2.2.2.2.2.2.1 | exact z3.2.2.2.2.2.2.2.1 | exact z3.2.2.2.2.2.2.2.2 | (rw [z2]; exact Bool.false_ne_true))).symm))
        · rw [Int.natCast_add]; omega
    · skip
      k_steps
      refine Halt.to ?_
      rename_i lx _ kF kN llx
      obtain ⟨u6, u7, kN2⟩ : ∃ u6 u7, News _ _ _ ((lx, listOf [Value.int 4 u6, .int 9 u7].toArray 0) :: TL2) := ⟨_, _, kN⟩
      clear kN
      (rename News _ _ _ _ => kN)
      k_dflt (refine' draw_use (c := []) (E := [(lx, listOf [Value.int 4 u6, .int 9 u7].toArray 0)]) (TL := TL2) ?dB2 kF ?dX2 kN ?dT2 ?dk2 ?dd2 ?du2 (disj_one llx) hTL2 sp2 hi2 hz2 ?d02 ?_)
      (case dB2 => k_asm)
      (case dX2 => k_asm)
      (case dT2 => k_asm)
      (case dk2 => first | exact rfl | assumption)
      (case dd2 => ktr_room)
      (case du2 => ktr_units)
      (case d02 => decide)
      k_whole
      intro d3 ta vs3 fs3 n3 h3 tk3 hd4 hd5 hi3 hz3 F3 N5 sp3 E3
      clear kF kN
      try dsimp only
      obtain ⟨TL3, hTL3, N6⟩ : ∃ TL3, (∀ p ∈ x.led w.params ++ (y.led w.params ++ ([(lf, listOf vs3.toArray n3)] ++ (Z ++ own))), p ∈ TL3) ∧ News _ _ _ ((lx, listOf [Value.int 4 u6, .int 9 u7].toArray 0) :: TL3) := ⟨_, fun _ hp => hp, N5⟩
      clear N5 E3 llx
      k_steps
      refine Halt.to ?_
      (rename Fr _ _ _ _ => kF); (rename News _ _ _ _ => kN)
      obtain ⟨who, tb, hwv, hwho⟩ := two_at d3 hd4 hd5 u6 u7
      k_dflt (refine' sub_list kN mem_here hd4 (Int.lt_trans hd5 (by decide)) hwv ?_ ?ss2)
      (case ss2 => with_unfolding_all rfl)
      k_whole
      have N7 := news_sub kN (l' := TL3) (fun p hp => .tail _ hp)
      clear kN hwv
      obtain ⟨pa, hva, hpa⟩ := who_at x.P4.a x.P9.a who hwho
      obtain ⟨pb, hvb, hpb⟩ := who_at y.P4.a y.P9.a who hwho
      obtain ⟨hnn, abx⟩ := nr_x L
      have hin2 : i < 12 := by omega
      have hny : y.nr ≤ 18 := by omega
      have hnx : x.nr ≤ 18 := by omega
      have hp4 : deed ≤ 4 := by omega
      by_cases h3 : deed = 3
      · k_steps
        refine Halt.to ?_
        (rename Fr _ _ _ _ => kF); (rename News _ _ _ _ => kN)
        k_dflt (refine' draw_use (c := []) (E := []) (TL := TL3) ?dB3 kF ?dX3 kN ?dT3 ?dk3 ?dd3 ?du3 (fun _ hp => absurd hp List.not_mem_nil) hTL3 sp3 hi3 hz3 ?d03 ?_)
        (case dB3 => k_asm)
        (case dX3 => k_asm)
        (case dT3 => k_asm)
        (case dk3 => first | exact rfl | assumption)
        (case dd3 => ktr_room)
        (case du3 => ktr_units)
        (case d03 => omega)
        k_whole
        intro d4 te vs4 fs4 n4 h4 tk4 _ _ hi4 hz4 F4 N7 sp4 E4
        clear kF kN
        try dsimp only
        obtain ⟨TL7, hTL7, N6⟩ : ∃ TL7, (∀ p ∈ x.led w.params ++ (y.led w.params ++ ([(lf, listOf vs4.toArray n4)] ++ (Z ++ own))), p ∈ TL7) ∧ News _ _ _ TL7 := ⟨_, fun _ hp => hp, N7⟩
        clear N7 E4
        k_steps
        refine Halt.to ?_
        (rename Fr _ _ _ _ => kF); (rename News _ _ _ _ => kN)
        k_dflt (refine' draw_use (c := []) (E := []) (TL := TL7) ?dBwp kF ?dXwp kN ?dTwp ?dkwp ?ddwp ?duwp (fun _ hp => absurd hp List.not_mem_nil) hTL7 sp4 hi4 hz4 ?d0wp ?_)
        (case dBwp => k_asm)
        (case dXwp => k_asm)
        (case dTwp => k_asm)
        (case dkwp => first | exact rfl | assumption)
        (case ddwp => ktr_room)
        (case duwp => ktr_units)
        (case d0wp => decide)
        k_whole
        intro d5 tc vs5 fs5 n5 h5x tk5 hd6 hd7 hi5 hz5 F5 N7 sp5 E5
        clear kF kN
        try dsimp only
        obtain ⟨TL4, hTL4, N8⟩ : ∃ TL4, (∀ p ∈ x.led w.params ++ (y.led w.params ++ ([(lf, listOf vs5.toArray n5)] ++ (Z ++ own))), p ∈ TL4) ∧ News _ _ _ TL4 := ⟨_, fun _ hp => hp, N7⟩
        clear N7 E5
        have mA1 := in_a hTL4 _ (led_mem w.params x).1
        have mA2 := in_a hTL4 _ (led_mem w.params x).2.1
        have mA3 := in_a hTL4 _ (led_mem w.params x).2.2.1
        have mA4 := in_a hTL4 _ (led_mem w.params x).2.2.2
        have mB1 := in_b hTL4 _ (led_mem w.params y).1
        have mB2 := in_b hTL4 _ (led_mem w.params y).2.1
        have mB3 := in_b hTL4 _ (led_mem w.params y).2.2.1
        have mB4 := in_b hTL4 _ (led_mem w.params y).2.2.2
        have mW := in_z hTL4 _ (hWZ _ W0.h)
        have mC := in_z hTL4 _ (hWZ _ hcell)
        k_steps
        refine Halt.to ?_
        (rename Fr _ _ _ _ => kF); (rename News _ _ _ _ => kN)
        obtain ⟨ik, wD, hwv, hwd, hwk⟩ := W0.g d5 hd6 hd7
        k_dflt (refine' sub_list kN mW hd6 (Int.lt_trans hd7 (by decide)) hwv ?_ ?ssp)
        (case ssp => with_unfolding_all rfl)
        k_whole
        k_steps
        refine Halt.to ?_
        (rename Fr _ _ _ _ => kF); (rename News _ _ _ _ => kN)
        k_dflt (refine' done_use1 (a := []) (E := []) (TL := TL4) ?eBap kF ?eXap kN ?eTap ?ekap ?edap ?euap L.okx abx hnx wD rfl hpa hp0 hp4 hTL4 sp5 ?_)
        (case eBap => k_asm)
        (case eXap => k_asm)
        (case eTap => k_asm)
        (case ekap => first | exact rfl | assumption)
        (case edap => ktr_room)
        (case euap => ktr_units)
        k_whole
        intro v1 x' T1 h6 tk6 P1 nd1 F6 N9 sp6 dj1
        clear kF kN
        try dsimp only
        obtain ⟨TL5, hTL5, N10⟩ : ∃ TL5, (∀ p ∈ x'.led w.params ++ (y.led w.params ++ ([(lf, listOf vs5.toArray n5)] ++ (T1 ++ (Z ++ own)))), p ∈ TL5) ∧ News _ _ _ TL5 := ⟨_, fun _ hp => hp, N9⟩
        clear N9 mA1 mA2 mA3 mA4 mB1 mB2 mB3 mB4 mW mC
        have hWZ5 : ∀ p ∈ WL, p ∈ T1 ++ (Z ++ own) := fun p hp => List.mem_append_right _ (hWZ p hp)
        have mA1 := in_a hTL5 _ (led_mem w.params x').1
        have mA2 := in_a hTL5 _ (led_mem w.params x').2.1
        have mA3 := in_a hTL5 _ (led_mem w.params x').2.2.1
        have mA4 := in_a hTL5 _ (led_mem w.params x').2.2.2
        have mB1 := in_b hTL5 _ (led_mem w.params y).1
        have mB2 := in_b hTL5 _ (led_mem w.params y).2.1
        have mB3 := in_b hTL5 _ (led_mem w.params y).2.2.1
        have mB4 := in_b hTL5 _ (led_mem w.params y).2.2.2
        have mW := in_z hTL5 _ (hWZ5 _ W0.h)
        have mC := in_z hTL5 _ (hWZ5 _ hcell)
        k_steps
        refine Halt.to ?_
        (rename Fr _ _ _ _ => kF); (rename News _ _ _ _ => kN)
        k_dflt (refine' done_use2 (b := []) (E := []) (TL := TL5) ?eBbp kF ?eXbp kN ?eTbp ?ekbp ?edbp ?eubp L.oky L.aby hny wD rfl hpb hp0 hp4 hTL5 sp6 ?_)
        (case eBbp => k_asm)
        (case eXbp => k_asm)
        (case eTbp => k_asm)
        (case ekbp => first | exact rfl | assumption)
        (case edbp => ktr_room)
        (case eubp => ktr_units)
        k_whole
        intro v2 y' T2 h7 tk7 P2 nd2 F7 N11 sp7 dj2
        clear kF kN
        try dsimp only
        obtain ⟨TL6, hTL6, N12⟩ : ∃ TL6, (∀ p ∈ x'.led w.params ++ (y'.led w.params ++ ([(lf, listOf vs5.toArray n5)] ++ (T2 ++ (T1 ++ (Z ++ own))))), p ∈ TL6) ∧ News _ _ _ TL6 := ⟨_, fun _ hp => hp, N11⟩
        clear N11 mA1 mA2 mA3 mA4 mB1 mB2 mB3 mB4 mW mC
        have hWZ6 : ∀ p ∈ WL, p ∈ T2 ++ (T1 ++ (Z ++ own)) := fun p hp => List.mem_append_right _ (hWZ5 p hp)
        have mA1 := in_a hTL6 _ (led_mem w.params x').1
        have mA2 := in_a hTL6 _ (led_mem w.params x').2.1
        have mA3 := in_a hTL6 _ (led_mem w.params x').2.2.1
        have mA4 := in_a hTL6 _ (led_mem w.params x').2.2.2
        have mB1 := in_b hTL6 _ (led_mem w.params y').1
        have mB2 := in_b hTL6 _ (led_mem w.params y').2.1
        have mB3 := in_b hTL6 _ (led_mem w.params y').2.2.1
        have mB4 := in_b hTL6 _ (led_mem w.params y').2.2.2
        have mW := in_z hTL6 _ (hWZ6 _ W0.h)
        have mC := in_z hTL6 _ (hWZ6 _ hcell)
        obtain ⟨⟨told, tv1, tv2⟩, hge, hn6, L6⟩ := both_done L P1 P2 hi5 hz5 sp7 hwd hwk
        have ex1 := L6.hx
        have ey1 := L6.hy
        have mA1' : (x.S.a, instObj 165 x'.S.d) ∈ TL6 := by rw [← ex1]; exact mA1
        have mB1' : (y.S.a, instObj 165 y'.S.d) ∈ TL6 := by rw [← ey1]; exact mB1
        have hdj : Disj (x'.led w.params ++ (y'.led w.params ++ ([(lf, listOf vs5.toArray n5)] ++ (T2 ++ (T1 ++ Z))))) own := end_disj sp7 dj2 dj1 hD.r.r.r
        have hfin := fun p hp => hTL6 p (end_led p hp)
        clear P1 P2 hTL4 hTL5 hTL6 sp5 sp6 sp7 dj1 dj2 nd1 nd2
        k_steps
        refine tells_ne tv1 tv2 ?_
        k_steps
        (rename Fr _ _ _ _ => kF); (rename News _ _ _ _ => kN)
        refine hQ9 _ _ ?_
        refine FdPost.intro (led' := x'.led w.params ++ (y'.led w.params ++ ([(lf, listOf vs5.toArray n5)] ++ (T2 ++ (T1 ++ Z))))) kF (news_sub kN hfin) hdj ⟨fun z z1 z2 => ?_, x', y', since, made, _, _, vs5, fs5, n5, T2 ++ (T1 ++ Z), rfl, rfl, ?_, ?_, L6, rfl⟩
        · have z3 := law_nine z2
          have z4 := hm' z z1 z2
          repeat (first | exact z4 | refine (if_neg (by first | exact z1 | exact z3.1 | exact z3.2.1 | exact z3.2.2.1 | exact z3.2.2.2.1 | exact z3.2.2.2.2.1 | exact z3.2.2.2.2.2.1 | exact z3.2.2.2.2.2.2.1 | exact z3.2.2.2.2.2.2.2.1 | exact z3.2.2.2.2.2.2.2.2 | (rw [z2]; exact Bool.false_ne_true))).trans ?_)
          all_goals (repeat (first | with_reducible rfl | refine Eq.trans ?_ (if_neg (by first | exact z1 | exact z3.1 | exact z3.2.1 | exact z3.2.2.1 | exact z3.2.2.2.1 | exact z3.2.2.2.2.1 | exact z3.2.2.2.2.2.1 | exact z3.2.2.2.2.2.2.1 | exact z3.2.2.2.2.2.2.2.1 | exact z3.2.2.2.2.2.2.2.2 | (rw [z2]; exact Bool.false_ne_true))).symm))
        · omega
        · rw [Int.natCast_add]; omega
      · k_steps
        refine Halt.to ?_
        (rename Fr _ _ _ _ => kF); (rename News _ _ _ _ => kN)
        k_dflt (refine' draw_use (c := []) (E := []) (TL := TL3) ?dBwr kF ?dXwr kN ?dTwr ?dkwr ?ddwr ?duwr (fun _ hp => absurd hp List.not_mem_nil) hTL3 sp3 hi3 hz3 ?d0wr ?_)
        (case dBwr => k_asm)
        (case dXwr => k_asm)
        (case dTwr => k_asm)
        (case dkwr => first | exact rfl | assumption)
        (case ddwr => ktr_room)
        (case duwr => ktr_units)
        (case d0wr => decide)
        k_whole
        intro d5 tc vs5 fs5 n5 h5x tk5 hd6 hd7 hi5 hz5 F5 N7 sp5 E5
        clear kF kN
        try dsimp only
        obtain ⟨TL4, hTL4, N8⟩ : ∃ TL4, (∀ p ∈ x.led w.params ++ (y.led w.params ++ ([(lf, listOf vs5.toArray n5)] ++ (Z ++ own))), p ∈ TL4) ∧ News _ _ _ TL4 := ⟨_, fun _ hp => hp, N7⟩
        clear N7 E5
        have mA1 := in_a hTL4 _ (led_mem w.params x).1
        have mA2 := in_a hTL4 _ (led_mem w.params x).2.1
        have mA3 := in_a hTL4 _ (led_mem w.params x).2.2.1
        have mA4 := in_a hTL4 _ (led_mem w.params x).2.2.2
        have mB1 := in_b hTL4 _ (led_mem w.params y).1
        have mB2 := in_b hTL4 _ (led_mem w.params y).2.1
        have mB3 := in_b hTL4 _ (led_mem w.params y).2.2.1
        have mB4 := in_b hTL4 _ (led_mem w.params y).2.2.2
        have mW := in_z hTL4 _ (hWZ _ W0.h)
        have mC := in_z hTL4 _ (hWZ _ hcell)
        k_steps
        refine Halt.to ?_
        (rename Fr _ _ _ _ => kF); (rename News _ _ _ _ => kN)
        obtain ⟨ik, wD, hwv, hwd, hwk⟩ := W0.g d5 hd6 hd7
        k_dflt (refine' sub_list kN mW hd6 (Int.lt_trans hd7 (by decide)) hwv ?_ ?ssr)
        (case ssr => with_unfolding_all rfl)
        k_whole
        k_steps
        refine Halt.to ?_
        (rename Fr _ _ _ _ => kF); (rename News _ _ _ _ => kN)
        k_dflt (refine' done_use1 (a := []) (E := []) (TL := TL4) ?eBar kF ?eXar kN ?eTar ?ekar ?edar ?euar L.okx abx hnx wD rfl hpa hp0 hp4 hTL4 sp5 ?_)
        (case eBar => k_asm)
        (case eXar => k_asm)
        (case eTar => k_asm)
        (case ekar => first | exact rfl | assumption)
        (case edar => ktr_room)
        (case euar => ktr_units)
        k_whole
        intro v1 x' T1 h6 tk6 P1 nd1 F6 N9 sp6 dj1
        clear kF kN
        try dsimp only
        obtain ⟨TL5, hTL5, N10⟩ : ∃ TL5, (∀ p ∈ x'.led w.params ++ (y.led w.params ++ ([(lf, listOf vs5.toArray n5)] ++ (T1 ++ (Z ++ own)))), p ∈ TL5) ∧ News _ _ _ TL5 := ⟨_, fun _ hp => hp, N9⟩
        clear N9 mA1 mA2 mA3 mA4 mB1 mB2 mB3 mB4 mW mC
        have hWZ5 : ∀ p ∈ WL, p ∈ T1 ++ (Z ++ own) := fun p hp => List.mem_append_right _ (hWZ p hp)
        have mA1 := in_a hTL5 _ (led_mem w.params x').1
        have mA2 := in_a hTL5 _ (led_mem w.params x').2.1
        have mA3 := in_a hTL5 _ (led_mem w.params x').2.2.1
        have mA4 := in_a hTL5 _ (led_mem w.params x').2.2.2
        have mB1 := in_b hTL5 _ (led_mem w.params y).1
        have mB2 := in_b hTL5 _ (led_mem w.params y).2.1
        have mB3 := in_b hTL5 _ (led_mem w.params y).2.2.1
        have mB4 := in_b hTL5 _ (led_mem w.params y).2.2.2
        have mW := in_z hTL5 _ (hWZ5 _ W0.h)
        have mC := in_z hTL5 _ (hWZ5 _ hcell)
        k_steps
        refine Halt.to ?_
        (rename Fr _ _ _ _ => kF); (rename News _ _ _ _ => kN)
        k_dflt (refine' done_use2 (b := []) (E := []) (TL := TL5) ?eBbr kF ?eXbr kN ?eTbr ?ekbr ?edbr ?eubr L.oky L.aby hny wD rfl hpb hp0 hp4 hTL5 sp6 ?_)
        (case eBbr => k_asm)
        (case eXbr => k_asm)
        (case eTbr => k_asm)
        (case ekbr => first | exact rfl | assumption)
        (case edbr => ktr_room)
        (case eubr => ktr_units)
        k_whole
        intro v2 y' T2 h7 tk7 P2 nd2 F7 N11 sp7 dj2
        clear kF kN
        try dsimp only
        obtain ⟨TL6, hTL6, N12⟩ : ∃ TL6, (∀ p ∈ x'.led w.params ++ (y'.led w.params ++ ([(lf, listOf vs5.toArray n5)] ++ (T2 ++ (T1 ++ (Z ++ own))))), p ∈ TL6) ∧ News _ _ _ TL6 := ⟨_, fun _ hp => hp, N11⟩
        clear N11 mA1 mA2 mA3 mA4 mB1 mB2 mB3 mB4 mW mC
        have hWZ6 : ∀ p ∈ WL, p ∈ T2 ++ (T1 ++ (Z ++ own)) := fun p hp => List.mem_append_right _ (hWZ5 p hp)
        have mA1 := in_a hTL6 _ (led_mem w.params x').1
        have mA2 := in_a hTL6 _ (led_mem w.params x').2.1
        have mA3 := in_a hTL6 _ (led_mem w.params x').2.2.1
        have mA4 := in_a hTL6 _ (led_mem w.params x').2.2.2
        have mB1 := in_b hTL6 _ (led_mem w.params y').1
        have mB2 := in_b hTL6 _ (led_mem w.params y').2.1
        have mB3 := in_b hTL6 _ (led_mem w.params y').2.2.1
        have mB4 := in_b hTL6 _ (led_mem w.params y').2.2.2
        have mW := in_z hTL6 _ (hWZ6 _ W0.h)
        have mC := in_z hTL6 _ (hWZ6 _ hcell)
        obtain ⟨⟨told, tv1, tv2⟩, hge, hn6, L6⟩ := both_done L P1 P2 hi5 hz5 sp7 hwd hwk
        have ex1 := L6.hx
        have ey1 := L6.hy
        have mA1' : (x.S.a, instObj 165 x'.S.d) ∈ TL6 := by rw [← ex1]; exact mA1
        have mB1' : (y.S.a, instObj 165 y'.S.d) ∈ TL6 := by rw [← ey1]; exact mB1
        have hdj : Disj (x'.led w.params ++ (y'.led w.params ++ ([(lf, listOf vs5.toArray n5)] ++ (T2 ++ (T1 ++ Z))))) own := end_disj sp7 dj2 dj1 hD.r.r.r
        have hfin := fun p hp => hTL6 p (end_led p hp)
        clear P1 P2 hTL4 hTL5 hTL6 sp5 sp6 sp7 dj1 dj2 nd1 nd2
        k_steps
        refine tells_ne tv1 tv2 ?_
        by_cases h2 : deed < 3
        · k_steps
          (rename Fr _ _ _ _ => kF); (rename News _ _ _ _ => kN)
          refine hQ9 _ _ ?_
          refine FdPost.intro (led' := x'.led w.params ++ (y'.led w.params ++ ([(lf, listOf vs5.toArray n5)] ++ (T2 ++ (T1 ++ Z))))) kF (news_sub kN hfin) hdj ⟨fun z z1 z2 => ?_, x', y', since, (made + 1), _, _, vs5, fs5, n5, T2 ++ (T1 ++ Z), rfl, rfl, ?_, ?_, L6, rfl⟩
          · have z3 := law_nine z2
            have z4 := hm' z z1 z2
            repeat (first | exact z4 | refine (if_neg (by first | exact z1 | exact z3.1 | exact z3.2.1 | exact z3.2.2.1 | exact z3.2.2.2.1 | exact z3.2.2.2.2.1 | exact z3.2.2.2.2.2.1 | exact z3.2.2.2.2.2.2.1 | exact z3.2.2.2.2.2.2.2.1 | exact z3.2.2.2.2.2.2.2.2 | (rw [z2]; exact Bool.false_ne_true))).trans ?_)
            all_goals (repeat (first | with_reducible rfl | refine Eq.trans ?_ (if_neg (by first | exact z1 | exact z3.1 | exact z3.2.1 | exact z3.2.2.1 | exact z3.2.2.2.1 | exact z3.2.2.2.2.1 | exact z3.2.2.2.2.2.1 | exact z3.2.2.2.2.2.2.1 | exact z3.2.2.2.2.2.2.2.1 | exact z3.2.2.2.2.2.2.2.2 | (rw [z2]; exact Bool.false_ne_true))).symm))
          · omega
          · rw [Int.natCast_add]; omega
        · k_steps
          (rename Fr _ _ _ _ => kF); (rename News _ _ _ _ => kN)
          refine hQ9 _ _ ?_
          refine FdPost.intro (led' := x'.led w.params ++ (y'.led w.params ++ ([(lf, listOf vs5.toArray n5)] ++ (T2 ++ (T1 ++ Z))))) kF (news_sub kN hfin) hdj ⟨fun z z1 z2 => ?_, x', y', since, made, _, _, vs5, fs5, n5, T2 ++ (T1 ++ Z), rfl, rfl, ?_, ?_, L6, rfl⟩
          · have z3 := law_nine z2
            have z4 := hm' z z1 z2
            repeat (first | exact z4 | refine (if_neg (by first | exact z1 | exact z3.1 | exact z3.2.1 | exact z3.2.2.1 | exact z3.2.2.2.1 | exact z3.2.2.2.2.1 | exact z3.2.2.2.2.2.1 | exact z3.2.2.2.2.2.2.1 | exact z3.2.2.2.2.2.2.2.1 | exact z3.2.2.2.2.2.2.2.2 | (rw [z2]; exact Bool.false_ne_true))).trans ?_)
            all_goals (repeat (first | with_reducible rfl | refine Eq.trans ?_ (if_neg (by first | exact z1 | exact z3.1 | exact z3.2.1 | exact z3.2.2.1 | exact z3.2.2.2.1 | exact z3.2.2.2.2.1 | exact z3.2.2.2.2.2.1 | exact z3.2.2.2.2.2.2.1 | exact z3.2.2.2.2.2.2.2.1 | exact z3.2.2.2.2.2.2.2.2 | (rw [z2]; exact Bool.false_ne_true))).symm))
          · omega
          · rw [Int.natCast_add]; omega
  case done =>
    intro s₂ m₁ led₁ h tk hs8 hj8 F₁ N₁
    refine hideG fun G9 hG9 => ?_
    obtain ⟨_, rfl⟩ := hs8
    obtain ⟨hm, x, y, since, made, ts, tm, vs, fs, n, Z, hsn, hmd, hm0, hnr, L, rfl⟩ := hj8 <;> (refine hG9 ?_; clear hG9)
    rw [map_eq6 hm hsn hmd] at F₁
    clear kF kN hm
    have hx := L.hx
    have hy := L.hy
    have hpx := L.hpx
    have hpy := L.hpy
    subst hx hy hpx hpy
    have hWZ := L.hW
    have sp := L.sep
    obtain ⟨hnn, abx⟩ := nr_x L
    have hin2 : (12 - d0).toNat ≤ 12 := by omega
    have hny : y.nr ≤ 18 := by omega
    have hnx : x.nr ≤ 18 := by omega
    obtain ⟨TL, hTL, N₂⟩ : ∃ TL, (∀ p ∈ x.led w.params ++ (y.led w.params ++ ([(lf, listOf vs.toArray n)] ++ Z)), p ∈ TL) ∧ News _ _ _ TL := ⟨_, fun _ hp => hp, N₁⟩
    clear N₁
    have mA1 := in_a hTL _ (led_mem w.params x).1
    have mA2 := in_a hTL _ (led_mem w.params x).2.1
    have mA3 := in_a hTL _ (led_mem w.params x).2.2.1
    have mA4 := in_a hTL _ (led_mem w.params x).2.2.2
    have mB1 := in_b hTL _ (led_mem w.params y).1
    have mB2 := in_b hTL _ (led_mem w.params y).2.1
    have mB3 := in_b hTL _ (led_mem w.params y).2.2.1
    have mB4 := in_b hTL _ (led_mem w.params y).2.2.2
    have mW := in_z hTL _ (hWZ _ W0.h)
    have mC := in_z hTL _ (hWZ _ hcell)

    try dsimp only
    k_steps
    refine Halt.to ?_
    (rename Fr _ _ _ _ => kF); (rename News _ _ _ _ => kN)
    k_dflt (refine' draw_use (c := []) (E := []) (TL := TL) ?dBy1 kF ?dXy1 kN ?dTy1 ?dky1 ?ddy1 ?duy1 (fun _ hp => absurd hp List.not_mem_nil) hTL sp L.hi L.hz ?d0y1 ?_)
    (case dBy1 => k_asm)
    (case dXy1 => k_asm)
    (case dTy1 => k_asm)
    (case dky1 => first | exact rfl | assumption)
    (case ddy1 => ktr_room)
    (case duy1 => ktr_units)
    (case d0y1 => decide)
    k_whole
    intro d5 tc vs5 fs5 n5 h5 tk5 hd6 hd7 hi5 hz5 F5 N5 sp5 E5
    clear kF kN
    try dsimp only
    obtain ⟨TL4, hTL4, N6⟩ : ∃ TL4, (∀ p ∈ x.led w.params ++ (y.led w.params ++ ([(lf, listOf vs5.toArray n5)] ++ Z)), p ∈ TL4) ∧ News _ _ _ TL4 := ⟨_, fun _ hp => hp, N5⟩
    clear N5 E5 mA1 mA2 mA3 mA4 mB1 mB2 mB3 mB4 mW mC
    have mA1 := in_a hTL4 _ (led_mem w.params x).1
    have mA2 := in_a hTL4 _ (led_mem w.params x).2.1
    have mA3 := in_a hTL4 _ (led_mem w.params x).2.2.1
    have mA4 := in_a hTL4 _ (led_mem w.params x).2.2.2
    have mB1 := in_b hTL4 _ (led_mem w.params y).1
    have mB2 := in_b hTL4 _ (led_mem w.params y).2.1
    have mB3 := in_b hTL4 _ (led_mem w.params y).2.2.1
    have mB4 := in_b hTL4 _ (led_mem w.params y).2.2.2
    have mW := in_z hTL4 _ (hWZ _ W0.h)
    have mC := in_z hTL4 _ (hWZ _ hcell)
    k_steps
    refine Halt.to ?_
    (rename Fr _ _ _ _ => kF); (rename News _ _ _ _ => kN)
    obtain ⟨ik, wD, hwv, hwd, hwk⟩ := W0.g d5 hd6 hd7
    k_dflt (refine' sub_list kN mW hd6 (Int.lt_trans hd7 (by decide)) hwv ?_ ?ssy)
    (case ssy => with_unfolding_all rfl)
    k_whole
    k_steps
    refine Halt.to ?_
    (rename Fr _ _ _ _ => kF); (rename News _ _ _ _ => kN)
    have hgx : x.gen = y.gen := L.R.gen
    have hsl : since ≤ y.gen := L.R.hi
    k_dflt (refine' draw_use (c := []) (E := []) (TL := TL4) ?dBy2 kF ?dXy2 kN ?dTy2 ?dky2 ?ddy2 ?duy2 (fun _ hp => absurd hp List.not_mem_nil) hTL4 sp5 hi5 hz5 ?d0y2 ?_)
    (case dBy2 => k_asm)
    (case dXy2 => k_asm)
    (case dTy2 => k_asm)
    (case dky2 => first | exact rfl | assumption)
    (case ddy2 => ktr_room)
    (case duy2 => ktr_units)
    (case d0y2 => omega)
    k_whole
    intro d6 td6 vs6 fs6 n6 h6 tk6 hd8 hd9 hi6 hz6 F6 N7 sp6 E6
    clear kF kN
    try dsimp only
    obtain ⟨TL5, hTL5, N8⟩ : ∃ TL5, (∀ p ∈ x.led w.params ++ (y.led w.params ++ ([(lf, listOf vs6.toArray n6)] ++ Z)), p ∈ TL5) ∧ News _ _ _ TL5 := ⟨_, fun _ hp => hp, N7⟩
    clear N7 E6 mA1 mA2 mA3 mA4 mB1 mB2 mB3 mB4 mW mC
    have mA1 := in_a hTL5 _ (led_mem w.params x).1
    have mA2 := in_a hTL5 _ (led_mem w.params x).2.1
    have mA3 := in_a hTL5 _ (led_mem w.params x).2.2.1
    have mA4 := in_a hTL5 _ (led_mem w.params x).2.2.2
    have mB1 := in_b hTL5 _ (led_mem w.params y).1
    have mB2 := in_b hTL5 _ (led_mem w.params y).2.1
    have mB3 := in_b hTL5 _ (led_mem w.params y).2.2.1
    have mB4 := in_b hTL5 _ (led_mem w.params y).2.2.2
    have mW := in_z hTL5 _ (hWZ _ W0.h)
    have mC := in_z hTL5 _ (hWZ _ hcell)
    k_steps
    refine Halt.to ?_
    rename_i lq _ kF kN llq
    obtain ⟨ta, tb, tc2, kN2⟩ : ∃ ta tb tc, News _ _ _ ((lq, listOf [Value.int since ta, .int (since + d6) tb, .int x.gen tc].toArray 0) :: TL5) := ⟨_, _, _, kN⟩
    clear kN
    k_dflt (refine' for_list (fun vs l nn m₀ i m₁ led₁ => (∀ z, z ≠ Str.ofString "when" → m₁ z = m₀ z) ∧ led₁ = (l, listOf vs.toArray nn) :: TL5) rfl kF kN2 mem_here ?wj ?wJ ?wturn ?wdone)
    case wj => exact ⟨fun _ _ => rfl, rfl⟩
    case wJ => rintro _ _ _ ⟨_, rfl⟩; exact mem_here
    case wturn =>
      intro s₃ i v m₂ led₂ h8 tk8 own2 hs8 hx hj8 hD2 F₂ N₂
      refine hidePost fun Q9 hQ9 => ?_
      obtain ⟨_, rfl⟩ := hs8
      refine hideG fun G9 hG9 => ?_
      obtain ⟨hm2, rfl⟩ := hj8 <;> (refine hG9 ?_; clear hG9)
      rw [map_eq hm2] at F₂
      clear kF kN2 hm2
      obtain ⟨g, tg, rfl, hg⟩ : ∃ g tg, v = .int g tg ∧ since ≤ g := by
        match i, hx with
        | 0, hx => exact ⟨_, _, (Option.some.inj hx).symm, Int.le_refl _⟩
        | 1, hx => exact ⟨_, _, (Option.some.inj hx).symm, by omega⟩
        | 2, hx => exact ⟨_, _, (Option.some.inj hx).symm, by omega⟩
        | i + 3, hx => simp at hx
      obtain ⟨TL6, hs6, N9⟩ : ∃ TL6, (∀ p ∈ ((lq, listOf [Value.int since ta, .int (since + d6) tb, .int x.gen tc2].toArray 0) :: TL5) ++ own2, p ∈ TL6) ∧ News _ _ _ TL6 := ⟨_, fun _ h => h, N₂⟩
      clear N₂
      have h56 : ∀ p ∈ TL5, p ∈ TL6 := fun p hp => hs6 p (List.mem_append_left _ (.tail _ hp))
      have hTL6 := fun p hp => h56 p (hTL5 p hp)
      clear mA1 mA2 mA3 mA4 mB1 mB2 mB3 mB4 mW mC
      have mA1 := in_a hTL6 _ (led_mem w.params x).1
      have mA2 := in_a hTL6 _ (led_mem w.params x).2.1
      have mA3 := in_a hTL6 _ (led_mem w.params x).2.2.1
      have mA4 := in_a hTL6 _ (led_mem w.params x).2.2.2
      have mB1 := in_b hTL6 _ (led_mem w.params y).1
      have mB2 := in_b hTL6 _ (led_mem w.params y).2.1
      have mB3 := in_b hTL6 _ (led_mem w.params y).2.2.1
      have mB4 := in_b hTL6 _ (led_mem w.params y).2.2.2
      have mW := in_z hTL6 _ (hWZ _ W0.h)
      have mC := in_z hTL6 _ (hWZ _ hcell)
      k_steps
      refine Halt.to ?_
      (rename Fr _ _ _ _ => kF); (rename News _ _ _ _ => kN)
      k_dflt (refine' alike_use (a := []) (b := []) (c := []) (z := []) (E := []) (TL := TL6) ?zB kF ?zX kN ?zT ?zk ?zd ?zu L.okx L.oky L.aby hny (in_a hTL6) (in_b hTL6) (term_mono L.tx (in_z hTL6)) (term_mono L.ty (in_z hTL6)) rfl rfl rfl rfl L.R hg ((hwd.mono L.hW).mono (in_z hTL6)) (kqdOk_succ 7 _ hwk) ?_)
      (case zB => k_asm)
      (case zX => k_asm)
      (case zT => k_asm)
      (case zk => first | exact rfl | assumption)
      (case zd => ktr_room)
      (case zu => ktr_units)
      k_whole
      intro h9 tk9 F9 N10
      clear kF kN
      try dsimp only
      k_steps
      (rename Fr _ _ _ _ => kF); (rename News _ _ _ _ => kN)
      refine hQ9 _ _ ?_
      refine FdPost.intro (led' := (lq, listOf [Value.int since ta, .int (since + d6) tb, .int x.gen tc2].toArray 0) :: TL5) kF (news_sub kN hs6) hD2 ⟨fun z z1 => by simp only [z1, if_false], rfl⟩
    case wdone =>
      intro s₃ m₂ led₂ h8 tk8 hs8 hj8 F₂ N₂
      refine hideG fun G9 hG9 => ?_
      obtain ⟨_, rfl⟩ := hs8
      obtain ⟨hm2, rfl⟩ := hj8 <;> (refine hG9 ?_; clear hG9)
      rw [map_eq4 (stored := []) (fun y h _ => hm2 y h)] at F₂
      have N9 := news_sub N₂ (l' := TL5) (fun p hp => .tail _ hp)
      clear kF kN2 hm2 N₂
      k_steps
      refine Halt.to ?_
      (rename Fr _ _ _ _ => kF); (rename News _ _ _ _ => kN)
      k_dflt (refine' sweep_use1 (a := []) (E := []) (TL := TL5) ?gBh1 kF ?gXh1 kN ?gTh1 ?gkh1 ?gdh1 ?guh1 L.okx abx hnx rfl rfl hTL5 sp6 ?_)
      (case gBh1 => k_asm)
      (case gXh1 => k_asm)
      (case gTh1 => k_asm)
      (case gkh1 => first | exact rfl | assumption)
      (case gdh1 => ktr_room)
      (case guh1 => ktr_units)
      k_whole
      rintro v1 x' T' h9 tk9 ⟨rfl, t9, rfl, okx', abx', ex1, ex2, ex3, ex4, tx'⟩ nd9 F9 N10 sp9 _
      clear kF kN
      try dsimp only
      have abx2 : x'.ab.Ok := abx' ▸ sweepAb_ok abx
      have hnx2 : x'.nr ≤ 18 := by
        have e : x'.nr = x.nr := congrArg Ab.nr abx'
        omega
      obtain ⟨TL6, hTL6, N11⟩ : ∃ TL6, (∀ p ∈ x'.led w.params ++ (y.led w.params ++ ([(lf, listOf vs6.toArray n6)] ++ Z)), p ∈ TL6) ∧ News _ _ _ TL6 := ⟨_, fun _ hp => hp, N10⟩
      have sp10 : Sep4 (x'.led w.params) (y.led w.params) [(lf, listOf vs6.toArray n6)] Z := sp9
      clear N10 sp9 nd9 mA1 mA2 mA3 mA4 mB1 mB2 mB3 mB4 mW mC
      have mA1 := in_a hTL6 _ (led_mem w.params x').1
      have mA2 := in_a hTL6 _ (led_mem w.params x').2.1
      have mA3 := in_a hTL6 _ (led_mem w.params x').2.2.1
      have mA4 := in_a hTL6 _ (led_mem w.params x').2.2.2
      have mB1 := in_b hTL6 _ (led_mem w.params y).1
      have mB2 := in_b hTL6 _ (led_mem w.params y).2.1
      have mB3 := in_b hTL6 _ (led_mem w.params y).2.2.1
      have mB4 := in_b hTL6 _ (led_mem w.params y).2.2.2
      have mW := in_z hTL6 _ (hWZ _ W0.h)
      have mC := in_z hTL6 _ (hWZ _ hcell)
      have mA1' : (x.S.a, instObj 165 x'.S.d) ∈ TL6 := by rw [← ex1]; exact mA1
      k_steps
      refine Halt.to ?_
      (rename Fr _ _ _ _ => kF); (rename News _ _ _ _ => kN)
      k_dflt (refine' sweep_use1 (a := []) (E := []) (TL := TL6) ?gBh2 kF ?gXh2 kN ?gTh2 ?gkh2 ?gdh2 ?guh2 okx' abx2 hnx2 ex1.symm ex2.symm hTL6 sp10 ?_)
      (case gBh2 => k_asm)
      (case gXh2 => k_asm)
      (case gTh2 => k_asm)
      (case gkh2 => first | exact rfl | assumption)
      (case gdh2 => ktr_room)
      (case guh2 => ktr_units)
      k_whole
      rintro v2 x2 T2 h10 tk10 ⟨rfl, t10, rfl, ok2, ab2, ey1, ey2, ey3, ey4, ty'⟩ nd9 F10 N12 sp9 _
      clear kF kN
      try dsimp only
      have hab : x2.ab = x'.ab := by rw [ab2, abx', sweep_idem]
      have hcnt : (x'.kvs.length : Int) - (x2.kvs.length : Int) = 0 := by
        have e1 := St.kvlen okx'
        have e2 := St.kvlen ok2
        have e3 : x2.c4.length = x'.c4.length := by simpa only [St.ab, List.length_map] using congrArg (fun a => (Ab.q4 a).length) hab
        have e4 : x2.c9.length = x'.c9.length := by simpa only [St.ab, List.length_map] using congrArg (fun a => (Ab.q9 a).length) hab
        omega
      obtain ⟨TL7, hTL7, N13⟩ : ∃ TL7, (∀ p ∈ x2.led w.params ++ (y.led w.params ++ ([(lf, listOf vs6.toArray n6)] ++ Z)), p ∈ TL7) ∧ News _ _ _ TL7 := ⟨_, fun _ hp => hp, N12⟩
      have R2 : Rel y.gen x2.ab y.ab := by rw [ab2, abx']; exact sweep_rel (sweep_rel L.R L.aby) L.aby
      have tx2 := ty' _ (tx' _ L.tx)
      clear N12 sp9 sp10 nd9 mA1 mA2 mA3 mA4 mB1 mB2 mB3 mB4 mW mC mA1'
      have mA1 := in_a hTL7 _ (led_mem w.params x2).1
      have mA2 := in_a hTL7 _ (led_mem w.params x2).2.1
      have mA3 := in_a hTL7 _ (led_mem w.params x2).2.2.1
      have mA4 := in_a hTL7 _ (led_mem w.params x2).2.2.2
      have mB1 := in_b hTL7 _ (led_mem w.params y).1
      have mB2 := in_b hTL7 _ (led_mem w.params y).2.1
      have mB3 := in_b hTL7 _ (led_mem w.params y).2.2.1
      have mB4 := in_b hTL7 _ (led_mem w.params y).2.2.2
      have mW := in_z hTL7 _ (hWZ _ W0.h)
      have mC := in_z hTL7 _ (hWZ _ hcell)
      have mA1' : (x.S.a, instObj 165 x2.S.d) ∈ TL7 := by rw [← ex1, ← ey1]; exact mA1
      k_steps
      refine Halt.to ?_
      (rename Fr _ _ _ _ => kF); (rename News _ _ _ _ => kN)
      k_dflt (refine' alike_use (a := []) (b := []) (c := []) (z := []) (E := []) (TL := TL7) ?vB kF ?vX kN ?vT ?vk ?vd ?vu ok2 L.oky L.aby hny (in_a hTL7) (in_b hTL7) (term_mono tx2 (in_z hTL7)) (term_mono L.ty (in_z hTL7)) (ey1.trans ex1).symm rfl (ey2.trans ex2).symm rfl R2 (Int.le_refl _) ((hwd.mono L.hW).mono (in_z hTL7)) (kqdOk_succ 7 _ hwk) ?_)
      (case vB => k_asm)
      (case vX => k_asm)
      (case vT => k_asm)
      (case vk => first | exact rfl | assumption)
      (case vd => ktr_room)
      (case vu => ktr_units)
      k_whole
      intro h11 tk11 F11 N14
      clear kF kN
      try dsimp only
      k_steps
end

end
end Mine68
theorem PySem.Challenge.cw_rh0068_01_holds : PySem.Challenge.rw_rh0068_01.Holds :=
  Mine68.law_try
