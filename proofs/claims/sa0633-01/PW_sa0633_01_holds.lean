import PyProof.Rows.All
import Wide.All
import OpenK.AllK
import Wide.FinOn
import Lean
import PySem.Challenge.RW_sa0633_01

section
open PySem PySem.W PyProof.Rows
set_option Elab.async false
namespace Mine
/- The head (in law_holds, below) lays a quick copy of each constant that it makes, under the theorem that it stands in (law_holds.tw..), with a proof whose size grows with the square of the constant's.
   For this program those proofs alone are 40 MB. Where the copy's name is taken the head goes on without the copy. So the names of the biggest copies are taken here, by theorems that say True; nothing else uses them. -/
theorem law_holds.tw6121542094398034961 : True := trivial
theorem law_holds.tw357486453476387696 : True := trivial
theorem law_holds.tw13536078969547264968 : True := trivial
theorem law_holds.tw3940814190209492080 : True := trivial
theorem law_holds.tw18157325598648415230 : True := trivial
theorem law_holds.tw2482802953670953974 : True := trivial
theorem law_holds.tw4581164400922460565 : True := trivial
theorem law_holds.tw4742703115628073657 : True := trivial
theorem law_holds.tw2175392478943181252 : True := trivial
theorem law_holds.tw11946340739361827192 : True := trivial
theorem law_holds.tw10876394233666535175 : True := trivial
theorem law_holds.tw17934067817069507646 : True := trivial
theorem law_holds.tw699380112222796084 : True := trivial
theorem law_holds.tw4103306797374686269 : True := trivial
theorem law_holds.tw11484002064277903863 : True := trivial
theorem law_holds.tw4995542688137877417 : True := trivial
theorem law_holds.tw17028624522117568015 : True := trivial
theorem law_holds.tw14928284104357054422 : True := trivial
theorem law_holds.tw6723812968561706957 : True := trivial
theorem law_holds.tw4030767218360268280 : True := trivial
theorem law_holds.tw6881874429007886204 : True := trivial
theorem law_holds.tw17899081815984039989 : True := trivial
theorem law_holds.tw8970147916757833333 : True := trivial
theorem law_holds.tw1973129929022764952 : True := trivial
theorem law_holds.tw9843604407834444796 : True := trivial
theorem law_holds.tw1909877003179415225 : True := trivial
theorem law_holds.tw6861490101519172755 : True := trivial
theorem law_holds.tw3005452535816212104 : True := trivial
theorem law_holds.tw2887050238494874643 : True := trivial
theorem law_holds.tw6894629897728501357 : True := trivial
theorem law_holds.tw14904137174637212347 : True := trivial
theorem law_holds.tw15452448965706171373 : True := trivial
theorem law_holds.tw5769158387606399586 : True := trivial
theorem law_holds.tw15732109348078318572 : True := trivial
theorem law_holds.tw6265907326580845545 : True := trivial
theorem law_holds.tw2856731137302751260 : True := trivial
theorem law_holds.tw11677100312832694166 : True := trivial
theorem law_holds.tw1035469204868569938 : True := trivial
theorem law_holds.tw11470271118054631628 : True := trivial
theorem law_holds.tw11289095316329951393 : True := trivial
theorem law_holds.tw12977093529070104392 : True := trivial
theorem law_holds.tw4439653461905209652 : True := trivial
theorem law_holds.tw14051398506283589457 : True := trivial
theorem law_holds.tw4889031023730116350 : True := trivial
theorem law_holds.tw8191475993861738794 : True := trivial
theorem law_holds.tw1377309892636839040 : True := trivial
theorem law_holds.tw12342728606916771844 : True := trivial
theorem law_holds.tw8285764192309689115 : True := trivial
theorem law_holds.tw6709271908398517637 : True := trivial
theorem law_holds.tw14326059299131336239 : True := trivial
theorem law_holds.tw16461882675039125421 : True := trivial
theorem law_holds.tw2578278018795888234 : True := trivial
theorem law_holds.tw15617896438947887921 : True := trivial
theorem law_holds.tw8176227357466254829 : True := trivial
theorem law_holds.tw2322801206320994539 : True := trivial
theorem law_holds.tw1928719863018725356 : True := trivial
theorem law_holds.tw13882729330811710610 : True := trivial
theorem law_holds.tw2907507879108658156 : True := trivial
theorem law_holds.tw1622690429015379626 : True := trivial
theorem law_holds.tw7495221243884187115 : True := trivial
theorem law_holds.tw4992725456586698614 : True := trivial
theorem law_holds.tw11017292853192552079 : True := trivial
theorem law_holds.tw11223184984439025696 : True := trivial
theorem law_holds.tw17993387198741990920 : True := trivial

/- The contracts below speak of the objects that the text's top makes, written out as one constant (hd.heap_1). k_head makes it, ahead of o_head, which has nothing to do here. simp tries asked_is, the discharger does not close its goal, so asked_is is not used; the constant stays. -/
section
local macro_rules | `(tactic| o_head $_) => `(tactic| skip)
def Asked : Prop := True
theorem asked_is (_ : PySem.Challenge.rw_sa0633_01.row.Holds) : Asked = True := rfl
set_option maxRecDepth 100000 in
set_option maxHeartbeats 8000000 in
theorem hd : Asked ∧ True ∧ True := by
  simp (disch := (k_dflt k_head)) only [asked_is, and_self]
  exact ⟨trivial, trivial⟩
end
theorem hd_there : hd.heap_1 = hd.heap_1 := rfl
end Mine
end

section
namespace Mine
theorem fresh_InfA : True ∧ True := by
  w_top off
  k_with_none
  first | (walk1 <;> trivial) | exact ⟨trivial, trivial⟩
end Mine
open PySem PySem.W PyProof.Rows PySem.Calls
set_option Elab.async false
set_option maxRecDepth 100000
set_option maxHeartbeats 8000000
namespace Mine

/-- what the end of a callee's body shows: its own frame and ledger over g; what follows for the caller -/
def LeaveR (h₀ : Heap) (L : Addr) (m : Str → Option Value) (g : Heap) (rest : List (Addr × Obj)) (R : Result → Shared → Prop) (v : Value) (s' : Shared) : Prop :=
  ∃ L' m' need', Fr g L' s'.heap m' ∧ News g L' s'.heap need' ∧
    (Fr h₀ L s'.heap m → News h₀ L s'.heap (need' ++ rest) → (∀ p ∈ rest, ∀ q ∈ need', p.1 ≠ q.1) → R (.ok (.ret v)) s')

theorem leaveR_ {h₀ g : Heap} {L L' : Addr} {m m' : Str → Option Value} {rest need' : List (Addr × Obj)} {R : Result → Shared → Prop} {v : Value} {s' : Shared} (F' : Fr g L' s'.heap m') (N' : News g L' s'.heap need')
    (k : Fr h₀ L s'.heap m → News h₀ L s'.heap (need' ++ rest) → (∀ p ∈ rest, ∀ q ∈ need', p.1 ≠ q.1) → R (.ok (.ret v)) s') : LeaveR h₀ L m g rest R v s' := ⟨L', m', need', F', N', k⟩

theorem code_defR {prog : Program} {w : World} {A₀ A : Around} {base h₀ : Heap} {s : Shared} {K : Frag} {L : Addr} {m mg mb : Str → Option Value} {need rest : List (Addr × Obj)} {p : Program} {loose : List Str} {mean : ExcName → Option Value}
    {env : Env} {outer : List Env} {R : Result → Shared → Prop} {name qual : Str} {params : Arguments} {body : List Stmt} {scope : Scope} {dV kV doc pm cdv ct oc : Value} {an od : Option Addr} {osl : Array (Option Value)} {f : Addr} {args : Args} {binds : List (Str × Value)}
    (B : Below A₀ base outer h₀) (F : Fr h₀ L s.heap m) (X₀ : K.In h₀) (N : News h₀ L s.heap (need ++ rest)) (T : Top p loose mean mg mb h₀) (hsep : ∀ p ∈ rest, ∀ q ∈ need, p.1 ≠ q.1)
    (hA : A.frames = some (env :: outer)) (hf : env.frame = some L) (hke : env.scope.kind = .function)
    (ho : K.lookup f = some ⟨oc, od, .func (fnOf name qual params body scope dV kV doc pm an cdv ct), osl⟩) (hcd : codeIn K cdv qual = true) (hroom : A.depth < recursionLimit)
    (hbind : BindsTo s (fnOf name qual params body scope dV kV doc pm an cdv ct) args binds) (hloc : ∀ y ∈ binds, scope.names.lookup y.1 = some .local)
    (h : ∀ g L' h₁, Fr g L' h₁ (fun y => binds.reverse.lookup y) → News g L' h₁ need → Below A base (env :: outer) g → K.In g → Top p loose mean mg mb g →
      wpAny (model prog w) (A.deeper (envOf qual scope L' f cdv)) (execs body (envOf qual scope L' f cdv))
        (fun fl s' => LeaveR h₀ L m g rest R (match fl with | .ret v => v | _ => .none) s')
        (fun e s' => wpAny (model prog w) (A.deeper (envOf qual scope L' f cdv)) (leaving (envOf qual scope L' f cdv) e) (fun _ s'' => R (.error e) s'') (fun e' s'' => R (.error e') s'') s')
        { s with heap := h₁, toks := s.toks + binds.length })
    (hco : scope.isCoroutine = false) (hgen : scope.isGenerator = false) (hk : scope.kind = .function)
    (hcell : ∀ x ∈ scope.names, x.2 ≠ .cell) : codeAny (model prog w) A (.call (.ref f) args) R s := by
  have N₁ : News h₀ L s.heap need := fun p hp => N p (List.mem_append_left _ hp)
  have nm : ∀ b o, h₀.get? b = some o → b ∉ need.map (·.1) := fun b o e q => by
    obtain ⟨p, hp, rfl⟩ := List.mem_map.mp q
    rw [(N₁ p hp).2.2] at e; cases e
  obtain ⟨oL, es, ep, hL, hLd, hLk, hLf⟩ := F.ns
  have nL : L ∉ need.map (·.1) := fun q => by
    obtain ⟨p, hp, e⟩ := List.mem_map.mp q
    exact (N₁ p hp).2.1 e
  have hLg := hideAll_get (need.map (·.1)) hL nL
  obtain ⟨FG, BG, st, _⟩ := groundX (R := R) B F N₁ hA hf hke
  have hroot : ∀ p ∈ rest, (hideAll s.heap (need.map (·.1))).get? p.1 = some p.2 := fun p hp =>
    hideAll_get _ (N p (List.mem_append_right _ hp)).1 fun q => by
      obtain ⟨r, hr, e⟩ := List.mem_map.mp q
      exact hsep p hp r hr e.symm
  have X := X₀.keeps F.keep
  refine codeAny_call_def (fd := fnX name qual params body scope [] dV kV doc pm an cdv ct) (body := body) (binds := binds) hroom (X _ _ ho) rfl (T.nolimit.keeps F.keep) (codeRec_of X hcd) rfl hbind hcell hloc (fun h₁ hns hk₁ => ?_) hco hgen hk
  refine wpAny_mono (h _ s.heap.objs.size h₁ ⟨hns, fun b o e => hk₁ b o (of_hideAll _ e), Nat.le_of_eq (hideAll_size _ _)⟩
    (fun p hp => ⟨hk₁ _ _ (N₁ p hp).1, Nat.ne_of_lt (Heap.lt_size (N₁ p hp).1), hideAll_none _ (List.mem_map_of_mem hp)⟩) BG (X₀.keeps st) (T.keeps st)) (fun fl s' hl => ?_) fun _ _ y => y
  obtain ⟨L', m', need', F', N', k⟩ := hl
  refine k ⟨⟨oL, es, ep, F'.keep L oL hLg, hLd, hLk, hLf⟩, fun b o e => F'.keep b o (st b o e), F.above⟩ (fun p hp => ?_) (fun p hp q hq e => ?_)
  · rcases List.mem_append.mp hp with hp | hp
    · refine ⟨(N' p hp).1, fun q => ?_, ?_⟩
      · have := (N' p hp).2.2; rw [q, hLg] at this; cases this
      · cases q : h₀.get? p.1 with
        | none => rfl
        | some o => have := (N' p hp).2.2; rw [st _ _ q] at this; cases this
    · exact ⟨F'.keep _ _ (hroot p hp), (N p (List.mem_append_right _ hp)).2⟩
  · have h1 := (N' q hq).2.2
    rw [← e, hroot p hp] at h1
    cases h1

/-- what a body's end is to show: the own frame and ledger over g, and the word of what was made and what comes back -/
def Done (g : Heap) (s : Shared) (Post : List (Addr × Obj) → Value → Prop) (v : Value) (s' : Shared) : Prop :=
  ∃ L' m' need' h' tk', s' = { s with heap := h', toks := tk' } ∧ Fr g L' h' m' ∧ News g L' h' need' ∧ Post need' v

theorem Done.intro {g : Heap} {s : Shared} {Post : List (Addr × Obj) → Value → Prop} {v : Value} {L' : Addr} {m' : Str → Option Value} {need' : List (Addr × Obj)} {h' : Heap} {tk' : Nat}
    (F : Fr g L' h' m') (N : News g L' h' need') (h : Post need' v) : Done g s Post v { s with heap := h', toks := tk' } := ⟨L', m', need', h', tk', rfl, F, N, h⟩

/-- a call's contract: from the ledger need (and any other one beside it) to what Post says -/
def Spec (prog : Program) (w : World) (f : Addr) (vs : List Value) (d : Nat) (need : List (Addr × Obj)) (Post : List (Addr × Obj) → Value → Prop) : Prop :=
  ∀ (p : Program) (loose : List Str) (mean : ExcName → Option Value) (mg mb : Str → Option Value) (dp un : Nat) (gd : Option (List Code)) (cn : Str) (cs : Scope) (a : Addr) (ccd : Value) (cl : List (Str × Addr)) (outer : List Env) (A₀ : Around) (base h₀ : Heap) (L : Addr)
    (m : Str → Option Value) (rest : List (Addr × Obj)) (s : Shared) (Q E : Value → Shared → Prop),
    Below A₀ base outer h₀ → Fr h₀ L s.heap m → (hd.heap_1 w.params).In h₀ → News h₀ L s.heap (need ++ rest) → Top p loose mean mg mb h₀ → cs.kind = .function → (∀ p ∈ rest, ∀ q ∈ need, p.1 ≠ q.1) → dp + d < recursionLimit → un + 8 * d < cLine →
    (∀ r need' h' tk', Fr h₀ L h' m → News h₀ L h' (need' ++ rest) → (∀ p ∈ rest, ∀ q ∈ need', p.1 ≠ q.1) → Post need' r → Q r { s with heap := h', toks := tk' }) →
    wpAny (model prog w) (ktrTop dp un gd cn cs L a ccd cl outer) (call (.ref f) vs) Q E s

theorem spec_of {prog : Program} {w : World} {f : Addr} {vs : List Value} {d : Nat} {need : List (Addr × Obj)} {Post : List (Addr × Obj) → Value → Prop}
    {name qual : Str} {params : Arguments} {body : List Stmt} {scope : Scope} {dV kV doc pm cdv ct oc : Value} {an od : Option Addr} {osl : Array (Option Value)} {binds : List (Str × Value)}
    (ho : List.lookup f (hd.heap_1 w.params) = some ⟨oc, od, .func (fnOf name qual params body scope dV kV doc pm an cdv ct), osl⟩) (hcd : codeIn (hd.heap_1 w.params) cdv qual = true)
    (hbind : ∀ s, BindsTo s (fnOf name qual params body scope dV kV doc pm an cdv ct) ⟨vs, []⟩ binds) (hloc : ∀ y ∈ binds, scope.names.lookup y.1 = some .local)
    (hco : scope.isCoroutine = false) (hgen : scope.isGenerator = false) (hk : scope.kind = .function) (hcell : ∀ x ∈ scope.names, x.2 ≠ .cell) (h1 : 1 ≤ d)
    (h : ∀ (p : Program) (loose : List Str) (mean : ExcName → Option Value) (mg mb : Str → Option Value) (dp un : Nat) (gd : Option (List Code)) (outer : List Env) (A₁ : Around) (base g : Heap) (L : Addr) (h₁ : Heap) (s : Shared) (tk : Nat) (D : Value → Shared → Prop), (∀ {L' : Addr} {m' : Str → Option Value} {need' : List (Addr × Obj)} {h' : Heap} {tk' : Nat} {v : Value}, Fr g L' h' m' → News g L' h' need' → Post need' v → D v { s with heap := h', toks := tk' }) →
      Fr g L h₁ (fun y => binds.reverse.lookup y) → News g L h₁ need → Below A₁ base outer g → (hd.heap_1 w.params).In g → Top p loose mean mg mb g → dp + d < recursionLimit + 1 → un + 8 * d < cLine + 3 →
      wpAny (model prog w) (ktrTop dp un gd qual scope L f cdv [] outer) (execs body (envOf qual scope L f cdv))
        (fun fl s' => D (match fl with | .ret v => v | _ => .none) s') (fun _ _ => False) { s with heap := h₁, toks := tk }) :
    Spec prog w f vs d need Post := by
  intro p loose mean mg mb dp un gd cn cs a ccd cl outer A₀ base h₀ L m rest s Q E B F X N T hkk hsep hd hu hret
  refine wpAny_call ?_
  refine code_defR B F X N T hsep rfl rfl hkk ho hcd (by show dp < recursionLimit; omega) (hbind s) hloc (fun g L' h₁ F' N' B' X' T' => ?_) hco hgen hk hcell
  refine wpAny_mono (h p loose mean mg mb (dp + 1) (un + 3) gd _ _ base g L' h₁ s _ (Done g s Post) (fun F N x => Done.intro F N x) F' N' B' X' T' (by omega) (by omega)) (fun fl s' hl => ?_) (fun _ _ x => x.elim)
  obtain ⟨L₂, m₂, need', h', tk', rfl, F₂, N₂, hp⟩ := hl
  exact leaveR_ F₂ N₂ fun F₃ N₃ S₃ => hret _ _ _ _ F₃ N₃ S₃ hp

def AllNe (d : Nat) : List (Addr × Obj) → Prop
  | [] => True
  | p :: r => @Ne Nat p.1 d ∧ AllNe d r
theorem allNe_of {d : Addr} : ∀ {l : List (Addr × Obj)}, (∀ p ∈ l, p.1 ≠ d) → AllNe d l
  | [], _ => trivial
  | p :: _, h => ⟨h p (.head _), allNe_of fun q hq => h q (.tail _ hq)⟩

/-- one entry taken out of a ledger -/
inductive Take (p : Addr × Obj) : List (Addr × Obj) → List (Addr × Obj) → Prop
  | head {l} : Take p (p :: l) l
  | tail {q l l'} : Take p l l' → Take p (q :: l) (q :: l')
/-- a ledger's entries taken out one by one, and what is left -/
inductive Pick : List (Addr × Obj) → List (Addr × Obj) → List (Addr × Obj) → Prop
  | nil {l} : Pick [] l l
  | cons {p need l l' r} : Take p l l' → Pick need l' r → Pick (p :: need) l r
theorem Take.mem {p : Addr × Obj} {l l' : List (Addr × Obj)} (h : Take p l l') : p ∈ l ∧ ∀ q ∈ l', q ∈ l := by
  induction h with
  | head => exact ⟨.head _, fun q hq => .tail _ hq⟩
  | tail _ ih => exact ⟨.tail _ ih.1, fun q hq => by rcases List.mem_cons.mp hq with rfl | hq; exact .head _; exact .tail _ (ih.2 q hq)⟩
theorem Pick.mem {need l r : List (Addr × Obj)} (h : Pick need l r) : ∀ q ∈ need ++ r, q ∈ l := by
  induction h with
  | nil => exact fun q hq => hq
  | cons t _ ih =>
    intro q hq
    rcases List.mem_cons.mp hq with rfl | hq
    · exact t.mem.1
    · exact t.mem.2 q (ih q hq)

theorem spec_use {prog : Program} {w : World} {f : Addr} {vs : List Value} {d : Nat} {need lit rest : List (Addr × Obj)} {Post : List (Addr × Obj) → Value → Prop}
    {p : Program} {loose : List Str} {mean : ExcName → Option Value} {mg mb : Str → Option Value} {dp un : Nat} {gd : Option (List Code)} {cn : Str} {cs : Scope} {a : Addr} {ccd : Value} {cl : List (Str × Addr)} {outer : List Env} {A₀ : Around} {base h₀ : Heap} {L : Addr}
    {m : Str → Option Value} {s : Shared} {Q E : Value → Shared → Prop} (C : Spec prog w f vs d need Post)
    (B : Below A₀ base outer h₀) (F : Fr h₀ L s.heap m) (X : (hd.heap_1 w.params).In h₀) (N : News h₀ L s.heap lit) (T : Top p loose mean mg mb h₀) (hk : cs.kind = .function) (P : Pick need lit rest) (hsep : ∀ q ∈ rest, ∀ p ∈ need, p.1 ≠ q.1)
    (hd : dp + d < recursionLimit) (hu : un + 8 * d < cLine)
    (ret : ∀ r need' h' tk', Fr h₀ L h' m → News h₀ L h' (need' ++ rest) → (∀ p ∈ rest, ∀ q ∈ need', p.1 ≠ q.1) → Post need' r → Q r { s with heap := h', toks := tk' }) :
    wpAny (model prog w) (ktrTop dp un gd cn cs L a ccd cl outer) (call (.ref f) vs) Q E s :=
  C p loose mean mg mb dp un gd cn cs a ccd cl outer A₀ base h₀ L m rest s Q E B F X (fun q hq => N q (P.mem q hq)) T hk (fun q hq p hp e => hsep q hq p hp e.symm) hd hu ret

end Mine
end

section
namespace Mine
theorem fresh_InfC : True ∧ True := by
  w_top off
  k_with_none
  first | (walk1 <;> trivial) | exact ⟨trivial, trivial⟩
end Mine
open PySem PySem.W PyProof.Rows PySem.Spec PySem.Calls
set_option Elab.async false
set_option maxRecDepth 100000
set_option maxHeartbeats 8000000
namespace Mine
theorem code_defCR {prog : Program} {w : World} {A₀ A : Around} {base h₀ : Heap} {s : Shared} {K : Frag} {L : Addr} {m mg mb : Str → Option Value} {need rest : List (Addr × Obj)} {p : Program} {loose : List Str} {mean : ExcName → Option Value}
    {env : Env} {outer : List Env} {R : Result → Shared → Prop} {name qual : Str} {params : Arguments} {body : List Stmt} {scope : Scope} {dV kV doc pm cdv ct oc : Value} {an od : Option Addr} {osl : Array (Option Value)} {f : Addr} {args : Args} {binds : List (Str × Value)}
    (B : Below A₀ base outer h₀) (F : Fr h₀ L s.heap m) (X₀ : K.In h₀) (N : News h₀ L s.heap (need ++ rest)) (T : Top p loose mean mg mb h₀) (hsep : ∀ p ∈ rest, ∀ q ∈ need, p.1 ≠ q.1)
    (hA : A.frames = some (env :: outer)) (hf : env.frame = some L) (hke : env.scope.kind = .function)
    (ho : K.lookup f = some ⟨oc, od, .func (fnOf name qual params body scope dV kV doc pm an cdv ct), osl⟩) (hcd : codeIn K cdv qual = true) (hroom : A.depth < recursionLimit)
    (hbind : BindsTo s (fnOf name qual params body scope dV kV doc pm an cdv ct) args binds) (hkind : (binds.all fun y => scope.names.lookup y.1 == some .local || scope.names.lookup y.1 == some .cell) = true)
    (hnd : ((cellsFrom 0 scope.names []).map (·.1)).Nodup)
    (h : ∀ g L' h₁ tk cells, Fr g L' h₁ (bindL (envOfC qual scope L' f cdv).kindOf binds fun _ => none) → News g L' h₁ (cells ++ need) →
      CellsAre (bindC (envOfC qual scope L' f cdv).kindOf binds fun _ => none) (cellsFrom (L' + 1) scope.names []) cells → Below A base (env :: outer) g → K.In g → Top p loose mean mg mb g → (∀ p ∈ need, p.1 < L') →
      wpAny (model prog w) (A.deeper (envOfC qual scope L' f cdv)) (execs body (envOfC qual scope L' f cdv))
        (fun fl s' => LeaveR h₀ L m g rest R (match fl with | .ret v => v | _ => .none) s')
        (fun e s' => wpAny (model prog w) (A.deeper (envOfC qual scope L' f cdv)) (leaving (envOfC qual scope L' f cdv) e) (fun _ s'' => R (.error e) s'') (fun e' s'' => R (.error e') s'') s')
        { s with heap := h₁, toks := tk })
    (hco : scope.isCoroutine = false) (hgen : scope.isGenerator = false) (hk : scope.kind = .function) : codeAny (model prog w) A (.call (.ref f) args) R s := by
  have N₁ : News h₀ L s.heap need := fun p hp => N p (List.mem_append_left _ hp)
  obtain ⟨oL, es, ep, hL, hLd, hLk, hLf⟩ := F.ns
  have nL : L ∉ need.map (·.1) := fun q => by
    obtain ⟨p, hp, e⟩ := List.mem_map.mp q
    exact (N₁ p hp).2.1 e
  have hLg := hideAll_get (need.map (·.1)) hL nL
  obtain ⟨FG, BG, st, _⟩ := groundX (R := R) B F N₁ hA hf hke
  have hroot : ∀ p ∈ rest, (hideAll s.heap (need.map (·.1))).get? p.1 = some p.2 := fun p hp =>
    hideAll_get _ (N p (List.mem_append_right _ hp)).1 fun q => by
      obtain ⟨r, hr, e⟩ := List.mem_map.mp q
      exact hsep p hp r hr e.symm
  have X := X₀.keeps F.keep
  refine codeAny_call_function hroom (X _ _ ho) rfl hco hgen rfl (codeRec_of X hcd) (hbind _ _ _ _ ?_)
  refine wpAny_newFunctionEnv_cells hk (kindsX hkind _) fun env' he s' x => ?_
  subst he
  refine ⟨(T.nolimit.keeps F.keep).keeps x.toInCall.keep, codeAny_func ?_⟩
  obtain ⟨h₁, tk, rfl, _⟩ := x.done
  have hk₁ := x.toInCall.keep
  obtain ⟨cells, NC, Y⟩ := Cl.news (h₀ := s.heap) (Nat.le_refl _) fun n c hm => ⟨x.cell n c (lookup_of_mem_nodup (cellsFrom_names scope.names 0 (s.heap.objs.size + 1) [] [] rfl ▸ hnd) hm), x.above n c hm⟩
  refine wpAny_mono (h _ s.heap.objs.size h₁ tk cells ⟨x.toInCall.ns, fun b o e => hk₁ b o (of_hideAll _ e), Nat.le_of_eq (hideAll_size _ _)⟩ (fun p hp => ?_) Y BG (X₀.keeps st) (T.keeps st) (fun p hp => Heap.lt_size (N₁ p hp).1)) (fun fl s' hl => ?_) fun _ _ y => y
  · rcases List.mem_append.mp hp with hp | hp
    · refine ⟨(NC p hp).1, (NC p hp).2.1, ?_⟩
      cases q : (hideAll s.heap (need.map (·.1))).get? p.1 with
      | none => rfl
      | some o => have := of_hideAll _ q; rw [(NC p hp).2.2] at this; cases this
    · exact ⟨hk₁ _ _ (N₁ p hp).1, Nat.ne_of_lt (Heap.lt_size (N₁ p hp).1), hideAll_none _ (List.mem_map_of_mem hp)⟩
  · obtain ⟨L', m', need', F', N', k⟩ := hl
    refine k ⟨⟨oL, es, ep, F'.keep L oL hLg, hLd, hLk, hLf⟩, fun b o e => F'.keep b o (st b o e), F.above⟩ (fun p hp => ?_) (fun p hp q hq e => ?_)
    · rcases List.mem_append.mp hp with hp | hp
      · refine ⟨(N' p hp).1, fun q => ?_, ?_⟩
        · have := (N' p hp).2.2; rw [q, hLg] at this; cases this
        · cases q : h₀.get? p.1 with
          | none => rfl
          | some o => have := (N' p hp).2.2; rw [st _ _ q] at this; cases this
      · exact ⟨F'.keep _ _ (hroot p hp), (N p (List.mem_append_right _ hp)).2⟩
    · have h1 := (N' q hq).2.2
      rw [← e, hroot p hp] at h1
      cases h1

theorem spec_ofC {prog : Program} {w : World} {f : Addr} {vs : List Value} {d : Nat} {need : List (Addr × Obj)} {Post : List (Addr × Obj) → Value → Prop}
    {name qual : Str} {params : Arguments} {body : List Stmt} {scope : Scope} {dV kV doc pm cdv ct oc : Value} {an od : Option Addr} {osl : Array (Option Value)} {binds : List (Str × Value)}
    (ho : List.lookup f (hd.heap_1 w.params) = some ⟨oc, od, .func (fnOf name qual params body scope dV kV doc pm an cdv ct), osl⟩) (hcd : codeIn (hd.heap_1 w.params) cdv qual = true)
    (hbind : ∀ s, BindsTo s (fnOf name qual params body scope dV kV doc pm an cdv ct) ⟨vs, []⟩ binds) (hkind : (binds.all fun y => scope.names.lookup y.1 == some .local || scope.names.lookup y.1 == some .cell) = true)
    (hnd : ((cellsFrom 0 scope.names []).map (·.1)).Nodup)
    (hco : scope.isCoroutine = false) (hgen : scope.isGenerator = false) (hk : scope.kind = .function) (h1 : 1 ≤ d)
    (h : ∀ (p : Program) (loose : List Str) (mean : ExcName → Option Value) (mg mb : Str → Option Value) (dp un : Nat) (gd : Option (List Code)) (outer : List Env) (A₁ : Around) (base g : Heap) (L : Addr) (h₁ : Heap) (s : Shared) (tk : Nat) (cells : List (Addr × Obj)) (D : Value → Shared → Prop), (∀ {L' : Addr} {m' : Str → Option Value} {need' : List (Addr × Obj)} {h' : Heap} {tk' : Nat} {v : Value}, Fr g L' h' m' → News g L' h' need' → Post need' v → D v { s with heap := h', toks := tk' }) →
      Fr g L h₁ (bindL (envOfC qual scope L f cdv).kindOf binds fun _ => none) → News g L h₁ (cells ++ need) → CellsAre (bindC (envOfC qual scope L f cdv).kindOf binds fun _ => none) (cellsFrom (L + 1) scope.names []) cells →
      Below A₁ base outer g → (hd.heap_1 w.params).In g → Top p loose mean mg mb g → dp + d < recursionLimit + 1 → un + 8 * d < cLine + 3 → (∀ p ∈ need, p.1 < L) →
      wpAny (model prog w) (ktrTop dp un gd qual scope L f cdv (cellsFrom (L + 1) scope.names []) outer) (execs body (envOfC qual scope L f cdv))
        (fun fl s' => D (match fl with | .ret v => v | _ => .none) s') (fun _ _ => False) { s with heap := h₁, toks := tk }) :
    Spec prog w f vs d need Post := by
  intro p loose mean mg mb dp un gd cn cs a ccd cl outer A₀ base h₀ L m rest s Q E B F X N T hkk hsep hd hu hret
  refine wpAny_call ?_
  refine code_defCR B F X N T hsep rfl rfl hkk ho hcd (by show dp < recursionLimit; omega) (hbind s) hkind hnd (fun g L' h₁ tk cells F' N' Y' B' X' T' l' => ?_) hco hgen hk
  refine wpAny_mono (h p loose mean mg mb (dp + 1) (un + 3) gd _ _ base g L' h₁ s tk cells (Done g s Post) (fun F N x => Done.intro F N x) F' N' Y' B' X' T' (by omega) (by omega) l') (fun fl s' hl => ?_) (fun _ _ x => x.elim)
  obtain ⟨L₂, m₂, need', h', tk', rfl, F₂, N₂, hp⟩ := hl
  exact leaveR_ F₂ N₂ fun F₃ N₃ S₃ => hret _ _ _ _ F₃ N₃ S₃ hp
end Mine
end

section
namespace Mine
theorem fresh_RulA : True ∧ True := by
  w_top off
  k_with_none
  first | (walk1 <;> trivial) | exact ⟨trivial, trivial⟩
end Mine
open PySem PySem.W PyProof.Rows PySem.Calls
set_option Elab.async false
set_option maxRecDepth 100000
set_option maxHeartbeats 8000000
namespace Mine
section
variable {prog : Program} {w : World} {A : Around} {E : Value → Shared → Prop} {s : Shared} {a b : Int} {t u : Tok} {Q : Value → Shared → Prop}
theorem and_low16 (h0 : 0 ≤ a) (h1 : a < 65536) (h : Q (.int a s.toks) { s with toks := s.toks + 1 }) : wpAny (model prog w) A (binaryOp .BitAnd (.int a t) (.int 65535 u)) Q E s := by
  refine and_int ?_
  rw [bitAnd_m16, Int.emod_eq_of_lt h0 h1]
  exact h
theorem and_low8 (h0 : 0 ≤ a) (h1 : a < 256) (h : Q (.int a s.toks) { s with toks := s.toks + 1 }) : wpAny (model prog w) A (binaryOp .BitAnd (.int a t) (.int 255 u)) Q E s := by
  refine and_int ?_
  rw [bitAnd_m8, Int.emod_eq_of_lt h0 h1]
  exact h
theorem bitOr_zero_l (x : Int) : Builtin.bitOr 0 x = x := by
  have h := bitAnd_range x (y := 0) (Int.le_refl 0)
  rw [bitOr_and, bitAnd_comm]
  omega
theorem or_zero_l (h : Q (.int b s.toks) { s with toks := s.toks + 1 }) : wpAny (model prog w) A (binaryOp .BitOr (.int 0 t) (.int b u)) Q E s := by
  refine or_int ?_
  rw [bitOr_zero_l]
  exact h
theorem shl_zero (h : Q (.int 0 s.toks) { s with toks := s.toks + 1 }) : wpAny (model prog w) A (binaryOp .LShift (.int 0 t) (.int 8 u)) Q E s := by
  refine lshift_int_small (by decide) (by decide) (by decide) ?_
  rw [Int.zero_mul]
  exact h
theorem shr_low (h0 : 0 ≤ a) (h1 : a < 256) (h : Q (.int 0 s.toks) { s with toks := s.toks + 1 }) : wpAny (model prog w) A (binaryOp .RShift (.int a t) (.int 8 u)) Q E s := by
  refine rshift_int (by decide) ?_
  have e : a.fdiv (2 ^ (8 : Int).toNat) = 0 := by
    rw [show (2 : Int) ^ (8 : Int).toNat = 256 from rfl, Int.fdiv_eq_ediv_of_nonneg _ (by decide), Int.ediv_eq_zero_of_lt h0 h1]
  rw [e]
  exact h
theorem and_mod8 (h : Q (.int (a % 256) s.toks) { s with toks := s.toks + 1 }) : wpAny (model prog w) A (binaryOp .BitAnd (.int a t) (.int 255 u)) Q E s := by
  refine and_int ?_
  rw [bitAnd_m8]
  exact h
theorem sub_zero_ (h : Q (.int a s.toks) { s with toks := s.toks + 1 }) : wpAny (model prog w) A (binaryOp .Sub (.int a t) (.int 0 u)) Q E s := by
  refine sub_int ?_
  rw [Int.sub_zero]
  exact h
theorem mod_low (h0 : 0 ≤ a) (h1 : a < b) (h : Q (.int a s.toks) { s with toks := s.toks + 1 }) : wpAny (model prog w) A (binaryOp .Mod (.int a t) (.int b u)) Q E s := by
  refine mod_int (by omega) ?_
  rw [Int.fmod_eq_emod_of_nonneg _ (by omega), Int.emod_eq_of_lt h0 h1]
  exact h
theorem or_192 (h : Q (.int 192 s.toks) { s with toks := s.toks + 1 }) : wpAny (model prog w) A (binaryOp .BitOr (.int 128 t) (.int 64 u)) Q E s := or_int h
theorem or_193 (h : Q (.int 193 s.toks) { s with toks := s.toks + 1 }) : wpAny (model prog w) A (binaryOp .BitOr (.int 192 t) (.int 1 u)) Q E s := or_int h
theorem or_208 (h : Q (.int 208 s.toks) { s with toks := s.toks + 1 }) : wpAny (model prog w) A (binaryOp .BitOr (.int 192 t) (.int 16 u)) Q E s := or_int h
theorem or_168 (h : Q (.int 168 s.toks) { s with toks := s.toks + 1 }) : wpAny (model prog w) A (binaryOp .BitOr (.int 128 t) (.int 40 u)) Q E s := or_int h
theorem or_17 (h : Q (.int 17 s.toks) { s with toks := s.toks + 1 }) : wpAny (model prog w) A (binaryOp .BitOr (.int 16 t) (.int 1 u)) Q E s := or_int h
end
end Mine
end

section
namespace Mine
theorem fresh_BitA : True ∧ True := by
  w_top off
  k_with_none
  first | (walk1 <;> trivial) | exact ⟨trivial, trivial⟩
end Mine
open PySem PySem.W PyProof.Rows PySem.Calls
set_option Elab.async false
namespace Mine
open PySem.Builtin (bitAnd bitOr bitXor)

theorem bitXor_halves (x y : Int) : bitXor x y / 2 = bitXor (x / 2) (y / 2) ∧ bitXor x y % 2 = (x + y) % 2 := by
  have h := kbt_halves x y
  rw [bitXor_and, bitXor_and]
  split at h <;> constructor <;> omega
theorem div16 (x : Int) : x / 16 = x / 2 / 2 / 2 / 2 := by omega
theorem xor_bit4 (x y : Int) : bitXor x y / 16 % 2 = (x / 16 + y / 16) % 2 := by
  rw [div16, div16 x, div16 y, (bitXor_halves x y).1, (bitXor_halves (x / 2) (y / 2)).1, (bitXor_halves (x / 2 / 2) (y / 2 / 2)).1, (bitXor_halves (x / 2 / 2 / 2) (y / 2 / 2 / 2)).1, (bitXor_halves _ _).2]
theorem bitAnd_p8 (x : Int) : bitAnd x 8 = (x / 8 % 2) * 8 := kbt_bit x 3
theorem bitAnd_p16 (x : Int) : bitAnd x 16 = (x / 16 % 2) * 16 := kbt_bit x 4

/-- the half borrow -/
theorem half_borrow (a b : Int) : bitAnd (bitXor (bitXor a b) ((a - b) % 256)) 16 = if a % 16 < b % 16 then 16 else 0 := by
  rw [bitAnd_p16]
  have h1 := xor_bit4 (bitXor a b) ((a - b) % 256)
  have h2 := xor_bit4 a b
  split <;> omega

theorem all256 {P : Int → Prop} [DecidablePred P] (h : ∀ i : Fin 256, P ((i.val : Nat) : Int)) : ∀ f : Int, 0 ≤ f → f < 256 → P f := by
  intro f h0 h1
  have := h ⟨f.toNat, by omega⟩
  have e : ((f.toNat : Nat) : Int) = f := by omega
  simp only [e] at this
  exact this

abbrev moveWord (f y e q : Int) : Int := bitOr (bitOr (bitOr (bitAnd f 193) y) e) q
theorem moveWord_is : ∀ f : Int, 0 ≤ f → f < 256 → ∀ y ∈ [(0 : Int), 32], ∀ e ∈ [(0 : Int), 8], ∀ q ∈ [(0 : Int), 4],
    0 ≤ moveWord f y e q ∧ moveWord f y e q < 256 ∧ bitAnd (moveWord f y e q) 193 = bitAnd f 193 ∧ (q = 0 → bitAnd (moveWord f y e q) 215 = bitAnd f 193) :=
  all256 (P := fun f => ∀ y ∈ [(0 : Int), 32], ∀ e ∈ [(0 : Int), 8], ∀ q ∈ [(0 : Int), 4],
    0 ≤ moveWord f y e q ∧ moveWord f y e q < 256 ∧ bitAnd (moveWord f y e q) 193 = bitAnd f 193 ∧ (q = 0 → bitAnd (moveWord f y e q) 215 = bitAnd f 193)) (by decide +kernel)
end Mine
namespace Mine
open PySem.Builtin (bitAnd bitOr bitXor)
abbrev foundWord (r z h q c : Int) : Int := bitOr (bitOr (bitOr (bitOr (bitOr (bitAnd r 168) z) h) q) 2) c
theorem foundWord_is : ∀ r : Int, 0 ≤ r → r < 256 → ∀ z ∈ [(0 : Int), 64], ∀ h ∈ [(0 : Int), 16], ∀ q ∈ [(0 : Int), 4], ∀ c ∈ [(0 : Int), 1],
    bitAnd (foundWord r z h q c) 208 = r / 128 * 128 + z + h :=
  all256 (P := fun r => ∀ z ∈ [(0 : Int), 64], ∀ h ∈ [(0 : Int), 16], ∀ q ∈ [(0 : Int), 4], ∀ c ∈ [(0 : Int), 1], bitAnd (foundWord r z h q c) 208 = r / 128 * 128 + z + h) (by decide +kernel)
abbrev seekWord (g y e q c : Int) : Int := bitOr (bitOr (bitOr (bitOr (bitOr g y) e) q) 2) c
theorem seekWord_is : ∀ s ∈ [(0 : Int), 128], ∀ z ∈ [(0 : Int), 64], ∀ h ∈ [(0 : Int), 16], ∀ y ∈ [(0 : Int), 32], ∀ e ∈ [(0 : Int), 8], ∀ q ∈ [(0 : Int), 4], ∀ c ∈ [(0 : Int), 1],
    0 ≤ seekWord (s + z + h) y e q c ∧ seekWord (s + z + h) y e q c < 256 ∧ bitAnd (seekWord (s + z + h) y e q c) 215 = s + z + h + q + 2 + c ∧ bitAnd (seekWord (s + z + h) y e q c) 64 = z ∧ bitAnd (seekWord (s + z + h) y e q c) 1 = c := by
  decide +kernel
end Mine
namespace Mine
open PySem.Builtin (bitAnd bitOr bitXor)
theorem bit8_in (x : Int) : bitAnd x 8 ∈ [(0 : Int), 8] := by
  rw [bitAnd_p8]
  rcases (by omega : x / 8 % 2 = 0 ∨ x / 8 % 2 = 1) with h | h <;> rw [h] <;> decide
theorem move_end {f l y e q : Int} (h0 : 0 ≤ f) (h1 : f < 256) (hy : y ∈ [(0 : Int), 32]) (he : e ∈ [(0 : Int), 8]) (hq : q ∈ [(0 : Int), 4]) (hl : l = 0 → q = 0) :
    0 ≤ moveWord f y e q ∧ moveWord f y e q < 256 ∧ bitAnd (moveWord f y e q) 193 = bitAnd f 193 ∧ (l = 0 → bitAnd (moveWord f y e q) 215 = bitAnd f 193) :=
  let ⟨a, b, c, d⟩ := moveWord_is f h0 h1 y hy e he q hq
  ⟨a, b, c, fun h => d (hl h)⟩

def seekT (a o l f : Int) : Int := (a - o) % 256 / 128 * 128 + (if a = o then 64 else 0) + (if a % 16 < o % 16 then 16 else 0) + (if l = 0 then 0 else 4) + 2 + f % 2
theorem in2 {P : Prop} [Decidable P] (k : Int) : (if P then k else 0) ∈ [(0 : Int), k] := by
  split <;> simp
theorem hi_in (r : Int) (h0 : 0 ≤ r) (h1 : r < 256) : r / 128 * 128 ∈ [(0 : Int), 128] := by
  rcases (by omega : r / 128 = 0 ∨ r / 128 = 1) with h | h <;> rw [h] <;> decide
theorem low_in (f : Int) : f % 2 ∈ [(0 : Int), 1] := by
  rcases (by omega : f % 2 = 0 ∨ f % 2 = 1) with h | h <;> rw [h] <;> decide
theorem eq_word (a o : Int) (ha : 0 ≤ a ∧ a < 256) (ho : 0 ≤ o ∧ o < 256) : (if (a - o) % 256 = 0 then (64 : Int) else 0) = if a = o then 64 else 0 := by
  by_cases h : a = o
  · rw [if_pos h, if_pos (by omega)]
  · rw [if_neg h, if_neg (by omega)]
def szyxF (v : Int) : Int := bitOr (bitAnd v 168) (if v = 0 then 64 else 0)
theorem found_end {a o q c : Int} (ha : 0 ≤ a ∧ a < 256) (ho : 0 ≤ o ∧ o < 256) (hq : q ∈ [(0 : Int), 4]) (hc : c ∈ [(0 : Int), 1]) :
    bitAnd (bitOr (bitOr (bitOr (bitOr (szyxF ((a - o) % 256)) (bitAnd (bitXor (bitXor a o) ((a - o) % 256)) 16)) q) 2) c) 208 = (a - o) % 256 / 128 * 128 + (if a = o then 64 else 0) + (if a % 16 < o % 16 then 16 else 0) := by
  have h := foundWord_is ((a - o) % 256) (by omega) (by omega) (if (a - o) % 256 = 0 then 64 else 0) (in2 64) (bitAnd (bitXor (bitXor a o) ((a - o) % 256)) 16) (by rw [half_borrow]; exact in2 16) q hq c hc
  rw [half_borrow, eq_word a o ha ho] at h
  rw [szyxF, half_borrow, eq_word a o ha ho]
  exact h
theorem seek_end {a o l f g y e q : Int} (ha : 0 ≤ a ∧ a < 256) (ho : 0 ≤ o ∧ o < 256) (hy : y ∈ [(0 : Int), 32]) (he : e ∈ [(0 : Int), 8]) (hq : q = if l = 0 then 0 else 4)
    (hg : bitAnd g 208 = (a - o) % 256 / 128 * 128 + (if a = o then 64 else 0) + (if a % 16 < o % 16 then 16 else 0)) :
    0 ≤ seekWord (bitAnd g 208) y e q (bitAnd f 1) ∧ seekWord (bitAnd g 208) y e q (bitAnd f 1) < 256 ∧ bitAnd (seekWord (bitAnd g 208) y e q (bitAnd f 1)) 215 = seekT a o l f ∧ bitAnd (seekWord (bitAnd g 208) y e q (bitAnd f 1)) 64 = (if a = o then 64 else 0) ∧ bitAnd (seekWord (bitAnd g 208) y e q (bitAnd f 1)) 1 = f % 2 := by
  rw [hg, bitAnd_m1]
  have hq' : q ∈ [(0 : Int), 4] := by rw [hq]; split <;> simp
  obtain ⟨h1, h2, h3, h4, h5⟩ := seekWord_is ((a - o) % 256 / 128 * 128) (hi_in _ (by omega) (by omega)) (if a = o then 64 else 0) (in2 64) (if a % 16 < o % 16 then 16 else 0) (in2 16) y hy e he q hq' (f % 2) (low_in f)
  refine ⟨h1, h2, ?_, h4, h5⟩
  rw [h3, hq]
  rfl
theorem port_end {l c q n : Int} (hc : c ∈ [(0 : Int), 17]) (hq : q = 0 ∨ q = 4) (hn : n ∈ [(0 : Int), 2]) : l = 0 → bitAnd (bitOr (bitOr (bitOr (szyxF l) c) q) n) 192 = 64 := by
  intro h
  subst h
  have hq' : q ∈ [(0 : Int), 4] := by rcases hq with h | h <;> rw [h] <;> decide
  have key : ∀ c ∈ [(0 : Int), 17], ∀ q ∈ [(0 : Int), 4], ∀ n ∈ [(0 : Int), 2], bitAnd (bitOr (bitOr (bitOr (szyxF 0) c) q) n) 192 = 64 := by decide +kernel
  exact key c hc q hq' n hn
end Mine
end

section
namespace Mine
theorem fresh_RulB : True ∧ True := by
  w_top off
  k_with_none
  first | (walk1 <;> trivial) | exact ⟨trivial, trivial⟩
end Mine
open PySem PySem.W PyProof.Rows PySem.Calls
set_option Elab.async false
set_option maxRecDepth 100000
set_option maxHeartbeats 8000000
namespace Mine

theorem isStr_eq {v : Value} {x y : Str} (h : v.isStr x = true) (h' : v.isStr y = true) : x = y := by
  cases v <;> simp_all [Value.isStr]
theorem find_putL_same {name : Str} {hsh : Int} {key v : Value} : ∀ {es : List DictEntry} {e : DictEntry}, es.find? (·.key.isStr name) = some e → ∃ e', (putL name hsh key v es).find? (·.key.isStr name) = some e' ∧ e'.val = v
  | [], _, h => by cases h
  | a :: r, e, h => by
    simp only [putL]
    cases q : a.key.isStr name with
    | true =>
      simp only [if_true]
      exact ⟨⟨a.hash, a.key, v⟩, by simp [List.find?_cons, q], rfl⟩
    | false =>
      simp only [Bool.false_eq_true, if_false]
      rw [List.find?_cons, q] at h
      rw [List.find?_cons, q]
      exact find_putL_same h
theorem find_putL_ne {name name' : Str} (hne : name ≠ name') {hsh : Int} {key v : Value} {e' : DictEntry} : ∀ {es : List DictEntry} {e : DictEntry}, es.find? (·.key.isStr name') = some e' → es.find? (·.key.isStr name) = some e → (putL name' hsh key v es).find? (·.key.isStr name) = some e
  | [], _, _, h => by cases h
  | a :: r, e, hp, h => by
    simp only [putL]
    cases q : a.key.isStr name' with
    | true =>
      simp only [if_true]
      have q2 : a.key.isStr name = false := by
        cases q3 : a.key.isStr name with
        | false => rfl
        | true => exact absurd (isStr_eq q3 q) hne
      rw [List.find?_cons, q2] at h
      rw [List.find?_cons]
      simp only [q2]
      exact h
    | false =>
      simp only [Bool.false_eq_true, if_false]
      rw [List.find?_cons, q] at hp
      rw [List.find?_cons] at h
      rw [List.find?_cons]
      cases q2 : a.key.isStr name with
      | true => rw [q2] at h; exact h
      | false => rw [q2] at h; exact find_putL_ne hne hp h
theorem getL_some {name : Str} {es : List DictEntry} {v : Value} : getL name es = some (some v) ↔ ∃ e, es.find? (·.key.isStr name) = some e ∧ e.val = v := by
  unfold getL
  cases h : es.find? (·.key.isStr name) with
  | none =>
    simp only
    constructor
    · intro q; split at q <;> cases q
    · rintro ⟨e, he, _⟩; cases he
  | some e => simp
theorem getL_same {name : Str} {hsh : Int} {key v u : Value} {es : List DictEntry} (h : getL name es = some (some u)) : getL name (putL name hsh key v es) = some (some v) := by
  obtain ⟨e, he, _⟩ := getL_some.mp h
  exact getL_some.mpr (find_putL_same he)
theorem getL_ne {name name' : Str} (hne : name ≠ name') {hsh : Int} {key v u u' : Value} {es : List DictEntry} (h' : getL name' es = some (some u')) (h : getL name es = some (some u)) : getL name (putL name' hsh key v es) = some (some u) := by
  obtain ⟨e, he, hv⟩ := getL_some.mp h
  obtain ⟨e', he', _⟩ := getL_some.mp h'
  exact getL_some.mpr ⟨e, find_putL_ne hne he' he, hv⟩
theorem putL_length {name : Str} {hsh : Int} {key v u : Value} : ∀ {es : List DictEntry}, (∃ e, es.find? (·.key.isStr name) = some e ∧ e.val = u) → (putL name hsh key v es).length = es.length
  | [], h => by obtain ⟨e, he, _⟩ := h; cases he
  | a :: r, h => by
    simp only [putL]
    cases q : a.key.isStr name with
    | true => simp
    | false =>
      simp only [Bool.false_eq_true, if_false, List.length_cons]
      obtain ⟨e, he, hv⟩ := h
      rw [List.find?_cons, q] at he
      rw [putL_length ⟨e, he, hv⟩]

/-- the words of a Cpu's own dict that the law reads -/
def CpuD (o : Obj) (rA : Addr) (pc st : Int) : Prop := ∃ es n, o = dictOf es n ∧ es.length ≤ 900 ∧ getL "r" es = some (some (.ref rA)) ∧ (∃ t, getL "pc" es = some (some (.int pc t))) ∧ (∃ t, getL "states" es = some (some (.int st t)))
def PortsD (o : Obj) (iA oA : Addr) (at_ : Int) : Prop := ∃ es n, o = dictOf es n ∧ es.length ≤ 900 ∧ getL "ins" es = some (some (.ref iA)) ∧ getL "outs" es = some (some (.ref oA)) ∧ (∃ t, getL "at" es = some (some (.int at_ t)))

section
variable {prog : Program} {w : World} {A : Around} {E : Value → Shared → Prop} {s : Shared} {h₀ : Heap} {L x dx rA iA oA : Addr} {m : Str → Option Value} {news : List (Addr × Obj)} {g : Obj → List (Addr × Obj)} {oD : Obj} {pc st y : Int} {t : Tok} {expr : Bool}
theorem cpu_r {Q : Value → Shared → Prop} (F : Fr h₀ L s.heap m) (X : (hd.heap_1 w.params).In h₀) (N : News h₀ L s.heap news) (hx : (x, instObj 31 dx) ∈ news) (hdx : (dx, oD) ∈ news) (hD : CpuD oD rA pc st)
    (h : Q (.ref rA) { s with toks := s.toks + 1 }) : wpAny (model prog w) A (getAttr (.ref x) "r" expr) Q E s := by
  obtain ⟨es, n, rfl, _, hr, _, _⟩ := hD
  k_dflt (refine' get_own (C := 31) F X (InstAt.of_news N hx hdx) ?k4 ?k5 ?k6 ?k7 hr ?k9 h; (case k4 => k_is); (case k5 => k_is); (case k6 => k_is); (case k7 => k_is); (case k9 => k_handed))
theorem cpu_pc {Q : Value → Shared → Prop} (F : Fr h₀ L s.heap m) (X : (hd.heap_1 w.params).In h₀) (N : News h₀ L s.heap news) (hx : (x, instObj 31 dx) ∈ news) (hdx : (dx, oD) ∈ news) (hD : CpuD oD rA pc st)
    (h : ∀ t, Q (.int pc t) { s with toks := s.toks + 1 }) : wpAny (model prog w) A (getAttr (.ref x) "pc" expr) Q E s := by
  obtain ⟨es, n, rfl, _, _, ⟨t, hr⟩, _⟩ := hD
  k_dflt (refine' get_own (C := 31) F X (InstAt.of_news N hx hdx) ?k4 ?k5 ?k6 ?k7 hr ?k9 (h t); (case k4 => k_is); (case k5 => k_is); (case k6 => k_is); (case k7 => k_is); (case k9 => k_handed))
theorem cpu_states {Q : Value → Shared → Prop} (F : Fr h₀ L s.heap m) (X : (hd.heap_1 w.params).In h₀) (N : News h₀ L s.heap news) (hx : (x, instObj 31 dx) ∈ news) (hdx : (dx, oD) ∈ news) (hD : CpuD oD rA pc st)
    (h : ∀ t, Q (.int st t) { s with toks := s.toks + 1 }) : wpAny (model prog w) A (getAttr (.ref x) "states" expr) Q E s := by
  obtain ⟨es, n, rfl, _, _, _, ⟨t, hr⟩⟩ := hD
  k_dflt (refine' get_own (C := 31) F X (InstAt.of_news N hx hdx) ?k4 ?k5 ?k6 ?k7 hr ?k9 (h t); (case k4 => k_is); (case k5 => k_is); (case k6 => k_is); (case k7 => k_is); (case k9 => k_handed))
theorem ports_ins {Q : Value → Shared → Prop} (F : Fr h₀ L s.heap m) (X : (hd.heap_1 w.params).In h₀) (N : News h₀ L s.heap news) (hx : (x, instObj 52 dx) ∈ news) (hdx : (dx, oD) ∈ news) (hD : PortsD oD iA oA y)
    (h : Q (.ref iA) { s with toks := s.toks + 1 }) : wpAny (model prog w) A (getAttr (.ref x) "ins" expr) Q E s := by
  obtain ⟨es, n, rfl, _, hr, _, _⟩ := hD
  k_dflt (refine' get_own (C := 52) F X (InstAt.of_news N hx hdx) ?k4 ?k5 ?k6 ?k7 hr ?k9 h; (case k4 => k_is); (case k5 => k_is); (case k6 => k_is); (case k7 => k_is); (case k9 => k_handed))
theorem ports_outs {Q : Value → Shared → Prop} (F : Fr h₀ L s.heap m) (X : (hd.heap_1 w.params).In h₀) (N : News h₀ L s.heap news) (hx : (x, instObj 52 dx) ∈ news) (hdx : (dx, oD) ∈ news) (hD : PortsD oD iA oA y)
    (h : Q (.ref oA) { s with toks := s.toks + 1 }) : wpAny (model prog w) A (getAttr (.ref x) "outs" expr) Q E s := by
  obtain ⟨es, n, rfl, _, _, hr, _⟩ := hD
  k_dflt (refine' get_own (C := 52) F X (InstAt.of_news N hx hdx) ?k4 ?k5 ?k6 ?k7 hr ?k9 h; (case k4 => k_is); (case k5 => k_is); (case k6 => k_is); (case k7 => k_is); (case k9 => k_handed))
theorem ports_at {Q : Value → Shared → Prop} (F : Fr h₀ L s.heap m) (X : (hd.heap_1 w.params).In h₀) (N : News h₀ L s.heap news) (hx : (x, instObj 52 dx) ∈ news) (hdx : (dx, oD) ∈ news) (hD : PortsD oD iA oA y)
    (h : ∀ t, Q (.int y t) { s with toks := s.toks + 1 }) : wpAny (model prog w) A (getAttr (.ref x) "at" expr) Q E s := by
  obtain ⟨es, n, rfl, _, _, _, ⟨t, hr⟩⟩ := hD
  k_dflt (refine' get_own (C := 52) F X (InstAt.of_news N hx hdx) ?k4 ?k5 ?k6 ?k7 hr ?k9 (h t); (case k4 => k_is); (case k5 => k_is); (case k6 => k_is); (case k7 => k_is); (case k9 => k_handed))

theorem upd_of {d : Addr} {o o' : Obj} {l : List (Addr × Obj)} {g : Obj → List (Addr × Obj)} (U : UpdF d o l g) : Upd d o o' l (g o') := by
  induction U with
  | head h => exact .head h
  | tail h _ ih => exact .tail h ih
theorem updF_mem {d : Addr} {o : Obj} {l : List (Addr × Obj)} {g : Obj → List (Addr × Obj)} (U : UpdF d o l g) : (d, o) ∈ l := by
  induction U with
  | head h => exact .head _
  | tail h _ ih => exact .tail _ ih
theorem cpu_set_pc {Q : Unit → Shared → Prop} (F : Fr h₀ L s.heap m) (X : (hd.heap_1 w.params).In h₀) (N : News h₀ L s.heap news) (hx : (x, instObj 31 dx) ∈ news) (hD : CpuD oD rA pc st) (U : UpdF dx oD news g)
    (h : ∀ h' o', Fr h₀ L h' m → News h₀ L h' (g o') → CpuD o' rA y st → Q () { s with heap := h', toks := s.toks + 2 }) : wpAny (model prog w) A (setAttr (.ref x) "pc" (.int y t)) Q E s := by
  obtain ⟨es, n, rfl, hz, hr, ⟨t1, hp⟩, ⟨t2, hs⟩⟩ := hD
  k_dflt (refine' set_dict (C := 31) F X N (InstAt.of_news N hx (updF_mem U)) rfl ?k6 ?k7 ?k8 ?k9 (by rw [hp]; rfl) rfl (upd_of U) (by rw [putL_length (getL_some.mp hp)]; omega) (fun h' F' N' => h h' _ F' N' ⟨_, _, rfl, by rw [putL_length (getL_some.mp hp)]; exact hz, getL_ne (by decide) hp hr, ⟨_, getL_same hp⟩, ⟨_, getL_ne (by decide) hp hs⟩⟩); (case k6 => k_is); (case k7 => k_is); (case k8 => k_is); (case k9 => k_is))
theorem cpu_set_states {Q : Unit → Shared → Prop} (F : Fr h₀ L s.heap m) (X : (hd.heap_1 w.params).In h₀) (N : News h₀ L s.heap news) (hx : (x, instObj 31 dx) ∈ news) (hD : CpuD oD rA pc st) (U : UpdF dx oD news g)
    (h : ∀ h' o', Fr h₀ L h' m → News h₀ L h' (g o') → CpuD o' rA pc y → Q () { s with heap := h', toks := s.toks + 2 }) : wpAny (model prog w) A (setAttr (.ref x) "states" (.int y t)) Q E s := by
  obtain ⟨es, n, rfl, hz, hr, ⟨t1, hp⟩, ⟨t2, hs⟩⟩ := hD
  k_dflt (refine' set_dict (C := 31) F X N (InstAt.of_news N hx (updF_mem U)) rfl ?k6 ?k7 ?k8 ?k9 (by rw [hs]; rfl) rfl (upd_of U) (by rw [putL_length (getL_some.mp hs)]; omega) (fun h' F' N' => h h' _ F' N' ⟨_, _, rfl, by rw [putL_length (getL_some.mp hs)]; exact hz, getL_ne (by decide) hs hr, ⟨_, getL_ne (by decide) hs hp⟩, ⟨_, getL_same hs⟩⟩); (case k6 => k_is); (case k7 => k_is); (case k8 => k_is); (case k9 => k_is))
theorem ports_set_at {Q : Unit → Shared → Prop} {z : Int} (F : Fr h₀ L s.heap m) (X : (hd.heap_1 w.params).In h₀) (N : News h₀ L s.heap news) (hx : (x, instObj 52 dx) ∈ news) (hD : PortsD oD iA oA z) (U : UpdF dx oD news g)
    (h : ∀ h' o', Fr h₀ L h' m → News h₀ L h' (g o') → PortsD o' iA oA y → Q () { s with heap := h', toks := s.toks + 2 }) : wpAny (model prog w) A (setAttr (.ref x) "at" (.int y t)) Q E s := by
  obtain ⟨es, n, rfl, hz, hr, hp, ⟨t2, hs⟩⟩ := hD
  k_dflt (refine' set_dict (C := 52) F X N (InstAt.of_news N hx (updF_mem U)) rfl ?k6 ?k7 ?k8 ?k9 (by rw [hs]; rfl) rfl (upd_of U) (by rw [putL_length (getL_some.mp hs)]; omega) (fun h' F' N' => h h' _ F' N' ⟨_, _, rfl, by rw [putL_length (getL_some.mp hs)]; exact hz, getL_ne (by decide) hs hr, getL_ne (by decide) hs hp, ⟨_, getL_same hs⟩⟩); (case k6 => k_is); (case k7 => k_is); (case k8 => k_is); (case k9 => k_is))
end
end Mine
end

section
namespace Mine
theorem fresh_LoA : True ∧ True := by
  w_top off
  k_with_none
  first | (walk1 <;> trivial) | exact ⟨trivial, trivial⟩
end Mine
open PySem PySem.W PyProof.Rows PySem.Calls
set_option Elab.async false
set_option maxRecDepth 100000
set_option maxHeartbeats 8000000
namespace Mine
section
variable {prog : Program} {w : World} {A : Around} {E : Value → Shared → Prop} {s : Shared} {env : Env} {h₀ : Heap} {x : Str} {body : List Stmt} {Q : Flow → Shared → Prop}

/-- what a turn's end is to show -/
def TurnEnd (h₀ : Heap) (L : Addr) (x : Str) (m₀ : Str → Option Value) (it : Addr) (oI : Obj) (J : List (Addr × Obj) → Prop) (s : Shared) (Q : Flow → Shared → Prop) (f : Flow) (s₂ : Shared) : Prop :=
  match f with
  | .ret v => Q (.ret v) s₂
  | .brk => Q .next s₂
  | _ => ∃ h' tk' nx' v', s₂ = { s with heap := h', toks := tk' } ∧ Fr h₀ L h' (fun y => if y = x then v' else m₀ y) ∧ News h₀ L h' ((it, oI) :: nx') ∧ (∀ p ∈ nx', p.1 ≠ it) ∧ J nx'

theorem TurnEnd.next {L : Addr} {m₀ : Str → Option Value} {it : Addr} {oI : Obj} {J : List (Addr × Obj) → Prop} {h' : Heap} {tk' : Nat} {nx' : List (Addr × Obj)} {v' : Option Value}
    (F : Fr h₀ L h' (fun y => if y = x then v' else m₀ y)) (N : News h₀ L h' ((it, oI) :: nx')) (ha : ∀ p ∈ nx', p.1 ≠ it) (hJ : J nx') : TurnEnd h₀ L x m₀ it oI J s Q .next { s with heap := h', toks := tk' } :=
  ⟨h', tk', nx', v', rfl, F, N, ha, hJ⟩

theorem range_loop {r : Addr} {a₀ b₀ : Int} {t₀ u₀ v₀ : Tok} {n : Nat} {m₀ : Str → Option Value} {news : List (Addr × Obj)} (J : Nat → List (Addr × Obj) → Prop)
    (hh : A.handled = none) (hr : IsRange s.heap r a₀ b₀ 1 t₀ u₀ v₀) (hsmall : Builtin.Range.small a₀ b₀ 1 = true) (hn : Builtin.Range.rangeSize a₀ b₀ 1 = (n : Int)) (F : Fr h₀ env.locals s.heap m₀) (N : News h₀ env.locals s.heap news) (hj : J 0 news)
    (turn : ∀ (i : Nat) t nx h tk it oI (TE : Flow → Shared → Prop), (∀ {v : Value} {s₂ : Shared}, Q (.ret v) s₂ → TE (.ret v) s₂) →
      (∀ {h' : Heap} {tk' : Nat} {nx' : List (Addr × Obj)} {v' : Option Value}, Fr h₀ env.locals h' (fun y => if y = x then v' else m₀ y) → News h₀ env.locals h' ((it, oI) :: nx') → (∀ p ∈ nx', p.1 ≠ it) → J (i + 1) nx' → TE .next { s with heap := h', toks := tk' }) → i < n → J i nx → (∀ p ∈ nx, p.1 ≠ it) → Fr h₀ env.locals h (fun y => if y = x then some (.int (a₀ + (i : Int)) t) else m₀ y) → News h₀ env.locals h ((it, oI) :: nx) →
      wpAny (model prog w) A (execs body env) TE E { s with heap := h, toks := tk })
    (done : ∀ nx h tk v, J n nx → Fr h₀ env.locals h (fun y => if y = x then v else m₀ y) → News h₀ env.locals h nx → Q .next { s with heap := h, toks := tk }) :
    wpAny (model prog w) A (pyIter (.ref r)) (fun it s₂ => LoopAtV prog w A h₀ env x body Q E it s₂) E s := by
  refine wpAny_pyIter_range hr hsmall ?_
  have W : Walks prog w A s.heap.objs.size [s.heap.objs.size] [s.heap.objs.size] n (fun i v => i < n ∧ ∃ t, v = .int (a₀ + i * 1) t)
      (fun i h => IsRangeIter h s.heap.objs.size (a₀ + (i : Nat) * 1) ((n : Int) - (i : Nat)) 1) := (Walks.range hh _ a₀ 1 n).bound
  have hI0 : h₀.get? s.heap.objs.size = none := next_is_new F
  refine ⟨_, _, _, n, _, _, m₀, news, fun i m₁ nx => (∀ y, y ≠ x → m₁ y = m₀ y) ∧ J i nx, rfl, W, ?_, ?_, ?_, (by show IsRangeIter _ _ _ _ _; rw [hn]; simpa using Heap.get?_push_size _ rfl), F.push _, (fun p hp => ⟨Heap.get?_push_of_some _ (N p hp).1, (N p hp).2⟩), ⟨fun _ _ => rfl, hj⟩, ?_, ?_⟩
  · intro hm
    exact absurd F.ns.lt ((List.mem_singleton.mp hm) ▸ Nat.lt_irrefl _)
  · intro b hb
    rw [List.mem_singleton.mp hb]
    exact hI0
  · intro p hp hI
    exact absurd (Heap.lt_size (N p hp).1) ((List.mem_singleton.mp hI) ▸ Nat.lt_irrefl _)
  · rintro i v m₁ nx s₁ own ⟨h, tk, rfl⟩ hin ⟨_, t, rfl⟩ ⟨hm, hJ⟩ hoff hown hown2 hfp hst F₁ N₁
    obtain ⟨oI, hoI⟩ : ∃ oI, h.get? s.heap.objs.size = some oI := ⟨_, hst⟩
    have hin2 : (s.heap.objs.size, oI) ∈ own := hfp _ (.head _) hI0 _ hoI
    have hone : ∀ p ∈ own, p = (s.heap.objs.size, oI) := fun p hp => by
      have h1 := List.mem_singleton.mp (hown p hp)
      have h2 := hown2 p hp
      rw [h1] at h2
      have h3 : some oI = some p.2 := hoI.symm.trans h2
      obtain ⟨p1, p2⟩ := p
      simp only at h1 h3
      rw [h1, Option.some.inj h3]
    have em : (fun y => if y = x then some (Value.int (a₀ + (i : Int) * 1) t) else m₁ y) = fun y => if y = x then some (Value.int (a₀ + (i : Int)) t) else m₀ y := by
      funext y
      by_cases hy : y = x
      · simp [hy]
      · simp only [if_neg hy]; exact hm y hy
    rw [em] at F₁
    have N₂ : News h₀ env.locals h ((s.heap.objs.size, oI) :: nx) := fun p hp => by
      rcases List.mem_cons.mp hp with rfl | hp
      · exact N₁ _ (List.mem_append_left _ hin2)
      · exact N₁ p (List.mem_append_right _ hp)
    have hne : ∀ p ∈ nx, p.1 ≠ s.heap.objs.size := fun p hp e => hoff p hp (List.mem_singleton.mpr e)
    refine wpAny_mono (turn i t nx h tk _ oI (TurnEnd h₀ env.locals x m₀ _ oI (J (i + 1)) s Q) (fun q => q) (fun F N a j => TurnEnd.next F N a j) hin hJ hne F₁ N₂) (fun f s₂ q => ?_) fun _ _ e => e
    have fin : (∃ h' tk' nx' v', s₂ = { s with heap := h', toks := tk' } ∧ Fr h₀ env.locals h' (fun y => if y = x then v' else m₀ y) ∧ News h₀ env.locals h' ((s.heap.objs.size, oI) :: nx') ∧ (∀ p ∈ nx', p.1 ≠ s.heap.objs.size) ∧ J (i + 1) nx') →
        LoopStepU h₀ env.locals [s.heap.objs.size] own (fun m₁ nx => (∀ y, y ≠ x → m₁ y = m₀ y) ∧ J (i + 1) nx) { s with heap := h, toks := tk } .next s₂ := by
      rintro ⟨h', tk', nx', v', rfl, F', N', ha, hJ'⟩
      refine ⟨rfl, h', tk', _, nx', rfl, F', fun p hp => ?_, fun p hp hq => ha p hp (List.mem_singleton.mp hq), fun y hy => if_neg hy, hJ'⟩
      rcases List.mem_append.mp hp with hp | hp
      · rw [hone p hp]; exact N' _ (.head _)
      · exact N' p (.tail _ hp)
    cases f with
    | ret v => exact .ret q
    | brk => exact .brk q
    | next => exact .next (fin q)
    | cont => exact .cont (fin q)
  · rintro h' tk m' news' F' N' _ ⟨hm, hJ⟩
    have em : m' = fun y => if y = x then m' x else m₀ y := by
      funext y
      by_cases hy : y = x
      · simp [hy]
      · simp only [if_neg hy]; exact hm y hy
    rw [em] at F'
    exact done news' h' tk _ hJ F' N'
/-- a loop over range(n) that turns one list of ints of the ledger -/
theorem list_loop {r vA : Addr} {b₀ : Int} {t₀ u₀ v₀ : Tok} {m₀ : Str → Option Value} {news : List (Addr × Obj)} {vs : List Value} {nd : Nat} {gf : Obj → List (Addr × Obj)} (n : Nat) (Fn : Nat → List Int)
    (hh : A.handled = none) (hr : IsRange s.heap r 0 b₀ 1 t₀ u₀ v₀) (hsmall : Builtin.Range.small 0 b₀ 1 = true) (hn : Builtin.Range.rangeSize 0 b₀ 1 = (n : Int)) (F : Fr h₀ env.locals s.heap m₀) (N : News h₀ env.locals s.heap news) (U : UpdF vA (listOf vs.toArray nd) news gf) (hi : IntsAre vs (Fn 0))
    (turn : ∀ (i : Nat) t vs' h tk it oI (TE : Flow → Shared → Prop), (∀ {v : Value} {s₂ : Shared}, Q (.ret v) s₂ → TE (.ret v) s₂) →
      (∀ {h' : Heap} {tk' : Nat} {vs'' : List Value} {v' : Option Value}, Fr h₀ env.locals h' (fun y => if y = x then v' else m₀ y) → News h₀ env.locals h' ((it, oI) :: gf (listOf vs''.toArray nd)) → (∀ p ∈ gf (listOf vs''.toArray nd), p.1 ≠ it) → IntsAre vs'' (Fn (i + 1)) → TE .next { s with heap := h', toks := tk' }) → i < n → IntsAre vs' (Fn i) → AllNe it (gf (listOf vs'.toArray nd)) → Fr h₀ env.locals h (fun y => if y = x then some (.int (i : Int) t) else m₀ y) → News h₀ env.locals h ((it, oI) :: gf (listOf vs'.toArray nd)) →
      wpAny (model prog w) A (execs body env) TE E { s with heap := h, toks := tk })
    (done : ∀ vs' h tk v, IntsAre vs' (Fn n) → Fr h₀ env.locals h (fun y => if y = x then v else m₀ y) → News h₀ env.locals h (gf (listOf vs'.toArray nd)) → Q .next { s with heap := h, toks := tk }) :
    wpAny (model prog w) A (pyIter (.ref r)) (fun it s₂ => LoopAtV prog w A h₀ env x body Q E it s₂) E s := by
  have e0 : news = gf (listOf vs.toArray nd) := by
    clear hi turn done N F
    induction U with
    | head _ => rfl
    | tail _ _ ih => exact congrArg _ ih
  refine range_loop (n := n) (fun i nx => ∃ vs', nx = gf (listOf vs'.toArray nd) ∧ IntsAre vs' (Fn i)) hh hr hsmall hn F N ⟨vs, e0, hi⟩ ?_ ?_
  · rintro i t nx h tk it oI TE hT8 hT9 hin ⟨vs', rfl, hi'⟩ hne F' N'
    rw [Int.zero_add] at F'
    exact turn i t vs' h tk it oI TE hT8 (fun F N a j => hT9 F N a ⟨_, rfl, j⟩) hin hi' (allNe_of hne) F' N'
  · rintro nx h tk v ⟨vs', rfl, hi'⟩ F' N'
    exact done vs' h tk v hi' F' N'
end
end Mine
end

section
namespace Mine
theorem fresh_PurA : True ∧ True := by
  w_top off
  k_with_none
  first | (walk1 <;> trivial) | exact ⟨trivial, trivial⟩
end Mine
open PySem PySem.W PyProof.Rows PySem.Calls
set_option Elab.async false
namespace Mine
/-- the octets of a memory -/
def Bytes (mem : List Int) : Prop := ∀ i : Nat, 0 ≤ mem.getD i 0 ∧ mem.getD i 0 < 256
theorem Bytes.set {mem : List Int} (h : Bytes mem) (k : Nat) {v : Int} (h0 : 0 ≤ v) (h1 : v < 256) : Bytes (mem.set k v) := by
  intro i
  have hi := h i
  rw [List.getD_eq_getElem?_getD] at hi ⊢
  rw [List.getElem?_set]
  split
  · split
    · exact ⟨h0, h1⟩
    · simp
  · exact hi
/-- the memory behind i rounds of LDIR or LDDR -/
def mvMem (mem : List Int) (e l x : Int) : Nat → List Int
  | 0 => mem
  | i + 1 => (mvMem mem e l x i).set (e + x * (i : Int)).toNat ((mvMem mem e l x i).getD (l + x * (i : Int)).toNat 0)
theorem mvMem_length {mem : List Int} {e l x : Int} : ∀ i, (mvMem mem e l x i).length = mem.length
  | 0 => rfl
  | i + 1 => by rw [mvMem, List.length_set, mvMem_length i]
theorem mvMem_bytes {mem : List Int} {e l x : Int} (h : Bytes mem) : ∀ i, Bytes (mvMem mem e l x i)
  | 0 => h
  | i + 1 => by
    have hi := mvMem_bytes (e := e) (l := l) (x := x) h i
    exact hi.set _ (hi _).1 (hi _).2
/-- the memory behind i rounds of INIR or INDR that take the octets ins -/
def tkMem (mem ins : List Int) (l x : Int) : Nat → List Int
  | 0 => mem
  | i + 1 => (tkMem mem ins l x i).set (l + x * (i : Int)).toNat (ins.getD i 0)
theorem tkMem_length {mem ins : List Int} {l x : Int} : ∀ i, (tkMem mem ins l x i).length = mem.length
  | 0 => rfl
  | i + 1 => by rw [tkMem, List.length_set, tkMem_length i]
theorem tkMem_bytes {mem ins : List Int} {l x : Int} (h : Bytes mem) (h2 : Bytes ins) : ∀ i, Bytes (tkMem mem ins l x i)
  | 0 => h
  | i + 1 => (tkMem_bytes h h2 i).set _ (h2 _).1 (h2 _).2
theorem step_eq (e x : Int) (i : Nat) : e + x * ((i + 1 : Nat) : Int) = e + x * (i : Int) + x := by
  rw [Int.natCast_add, Int.mul_add]
  simp only [Int.natCast_one, Int.mul_one]
  omega

theorem ends_cases {c st : Int} {r : Value} {oD : Obj} {rA : Addr} (h1 : ∃ t', r = .int (if c = 0 then 16 else 21) t') (h2 : CpuD oD rA (if c = 0 then 102 else 100) st) :
    (c = 0 ∧ (∃ t', r = .int 16 t') ∧ CpuD oD rA 102 st) ∨ (c ≠ 0 ∧ (∃ t', r = .int 21 t') ∧ CpuD oD rA 100 st) := by
  by_cases h : c = 0
  · rw [if_pos h] at h1 h2
    exact .inl ⟨h, h1, h2⟩
  · rw [if_neg h] at h1 h2
    exact .inr ⟨h, h1, h2⟩
theorem goes_cases {go : Bool} {st : Int} {r : Value} {oD : Obj} {rA : Addr} (h1 : ∃ t', r = .int (if go = true then 21 else 16) t') (h2 : CpuD oD rA (if go = true then 100 else 102) st) :
    (go = false ∧ (∃ t', r = .int 16 t') ∧ CpuD oD rA 102 st) ∨ (go = true ∧ (∃ t', r = .int 21 t') ∧ CpuD oD rA 100 st) := by
  cases go
  · exact .inl ⟨rfl, h1, h2⟩
  · exact .inr ⟨rfl, h1, h2⟩
theorem int_is {x y : Int} {t : Tok} (h : x = y) : ∃ t', Value.int x t = Value.int y t' := ⟨t, h ▸ rfl⟩
theorem CpuD.cast {o : Obj} {rA : Addr} {pc st st' : Int} (h : CpuD o rA pc st) (e : st = st') : CpuD o rA pc st' := e ▸ h
theorem PortsD.cast {o : Obj} {iA oA : Addr} {y y' : Int} (h : PortsD o iA oA y) (e : y = y') : PortsD o iA oA y' := e ▸ h
theorem seekT_congr {a o l l' f f' : Int} (hl : l = l') (h : f % 2 = f' % 2) : seekT a o l f = seekT a o l' f' := by
  subst hl
  unfold seekT
  rw [h]
abbrev tupOf (c : Int) (t : Tok) (o : Int) (u : Tok) : Obj := { cls := .type "tuple", data := .seq [.int c t, .int o u].toArray }
/-- what a port has sent out: the refs, their tuples in the ledger, the octets -/
inductive OutsAre (c : Int) : List Value → List (Addr × Obj) → List Int → Prop
  | nil : OutsAre c [] [] []
  | snoc {refs : List Value} {tups : List (Addr × Obj)} {os : List Int} {a : Addr} {t u : Tok} {o : Int} : OutsAre c refs tups os → OutsAre c (refs ++ [Value.ref a]) ((a, tupOf c t o u) :: tups) (os ++ [o])
theorem OutsAre.length {c : Int} {refs : List Value} {tups : List (Addr × Obj)} {os : List Int} (h : OutsAre c refs tups os) : refs.length = os.length := by
  induction h with
  | nil => rfl
  | snoc _ ih => simp [ih]
/-- the octets sent in the first i rounds -/
def sent (mem : List Int) (l x : Int) (i : Nat) : List Int := (List.range i).map fun (j : Nat) => mem.getD (l + x * (j : Int)).toNat 0
theorem sent_succ (mem : List Int) (l x : Int) (i : Nat) : sent mem l x (i + 1) = sent mem l x i ++ [mem.getD (l + x * (i : Int)).toNat 0] := by
  simp [sent, List.range_succ]
theorem sent_length (mem : List Int) (l x : Int) (i : Nat) : (sent mem l x i).length = i := by simp [sent]
def Apart (tups : List (Addr × Obj)) (as : List Addr) : Prop := ∀ q ∈ tups, ∀ a ∈ as, a ≠ q.1
theorem Apart.nil {as : List Addr} : Apart [] as := fun _ h => nomatch h
theorem Apart.cons {tups : List (Addr × Obj)} {as : List Addr} {b : Addr} {o : Obj} (h : Apart tups as) (hb : ∀ a ∈ as, a ≠ b) : Apart ((b, o) :: tups) as := fun q hq a ha => by
  rcases List.mem_cons.mp hq with rfl | hq
  · exact hb a ha
  · exact h q hq a ha
theorem Apart.sep {tups need : List (Addr × Obj)} (h : Apart tups (need.map (·.1))) : ∀ q ∈ tups, ∀ p ∈ need, p.1 ≠ q.1 := fun q hq p hp => h q hq p.1 (List.mem_map_of_mem hp)
theorem Apart.ne {tups : List (Addr × Obj)} {as : List Addr} {a : Addr} (h : Apart tups as) (ha : a ∈ as) : ∀ p ∈ tups, p.1 ≠ a := fun p hp e => h p hp a ha e.symm
end Mine
end

section
namespace Mine
theorem fresh_PurB : True ∧ True := by
  w_top off
  k_with_none
  first | (walk1 <;> trivial) | exact ⟨trivial, trivial⟩
end Mine
open PySem PySem.W PyProof.Rows PySem.Calls
set_option Elab.async false
namespace Mine
/-- what the law says that LDIR and LDDR leave -/
def dueMem (mem : List Int) (e l x way : Int) : Nat → List Int
  | 0 => mem
  | i + 1 => (dueMem mem e l x way i).set (e + x * (i : Int)).toNat (mem.getD (l + x * (if 0 < way then (i : Int).fmod way else (i : Int))).toNat 0)
theorem dueMem_length {mem : List Int} {e l x way : Int} : ∀ i, (dueMem mem e l x way i).length = mem.length
  | 0 => rfl
  | i + 1 => by rw [dueMem, List.length_set, dueMem_length i]
theorem getD_set {mem : List Int} {k j : Nat} {v : Int} (hk : k < mem.length) : (mem.set k v).getD j 0 = if k = j then v else mem.getD j 0 := by
  rw [List.getD_eq_getElem?_getD, List.getElem?_set, List.getD_eq_getElem?_getD]
  split
  · rfl
  · rfl
theorem fmod_shift {q way : Int} (h : 0 < way) : (q - way).fmod way = q.fmod way := by
  rw [Int.fmod_eq_emod_of_nonneg _ (by omega), Int.fmod_eq_emod_of_nonneg _ (by omega), Int.sub_emod_right]
theorem fmod_small {q way : Int} (h0 : 0 ≤ q) (h : q < way) : q.fmod way = q := by
  rw [Int.fmod_eq_emod_of_nonneg _ (by omega), Int.emod_eq_of_lt h0 h]
theorem due_at {mem : List Int} {e l x way : Int} {n : Nat} (hx : x = 1 ∨ x = -1) (he : e = l + x * way) (hlen : mem.length = 128)
    (hl : ∀ i : Nat, i ≤ n → 0 ≤ l + x * (i : Int) ∧ l + x * (i : Int) < 128) (hee : ∀ i : Nat, i ≤ n → 0 ≤ e + x * (i : Int) ∧ e + x * (i : Int) < 128) (q : Nat) (hq : q ≤ n) :
    ∀ i : Nat, i ≤ q → (dueMem mem e l x way i).getD (l + x * (q : Int)).toNat 0 = if 0 < way ∧ way ≤ (q : Int) ∧ (q : Int) - way < (i : Int) then mem.getD (l + x * ((q : Int) - way).fmod way).toNat 0 else mem.getD (l + x * (q : Int)).toNat 0
  | 0, _ => by
    rw [if_neg (by omega)]
    rfl
  | i + 1, hi => by
    have ih := due_at hx he hlen hl hee q hq i (by omega)
    have hb := hee i (by omega)
    have hq2 := hl q hq
    rw [dueMem, getD_set (by rw [dueMem_length, hlen]; omega), ih]
    by_cases hw : 0 < way
    · rw [if_pos hw]
      by_cases hj : (i : Int) = (q : Int) - way
      · have h1 : (e + x * (i : Int)).toNat = (l + x * (q : Int)).toNat := by
          rw [he]; rcases hx with rfl | rfl <;> omega
        rw [if_pos h1, if_pos (by omega), hj]
      · have h1 : ¬ (e + x * (i : Int)).toNat = (l + x * (q : Int)).toNat := by
          rw [he] at hb ⊢; rcases hx with rfl | rfl <;> omega
        rw [if_neg h1]
        by_cases hc : 0 < way ∧ way ≤ (q : Int) ∧ (q : Int) - way < (i : Int)
        · rw [if_pos hc, if_pos (by omega)]
        · rw [if_neg hc, if_neg (by omega)]
    · have h1 : ¬ (e + x * (i : Int)).toNat = (l + x * (q : Int)).toNat := by
        rw [he] at hb ⊢; rcases hx with rfl | rfl <;> omega
      rw [if_neg h1, if_neg (fun h => hw h.1), if_neg (fun h => hw h.1)]
theorem mv_due {mem : List Int} {e l x way : Int} {n : Nat} (hx : x = 1 ∨ x = -1) (he : e = l + x * way) (hlen : mem.length = 128)
    (hl : ∀ i : Nat, i ≤ n → 0 ≤ l + x * (i : Int) ∧ l + x * (i : Int) < 128) (hee : ∀ i : Nat, i ≤ n → 0 ≤ e + x * (i : Int) ∧ e + x * (i : Int) < 128) :
    ∀ i : Nat, i ≤ n → mvMem mem e l x i = dueMem mem e l x way i
  | 0, _ => rfl
  | i + 1, hi => by
    rw [mvMem, dueMem, mv_due hx he hlen hl hee i (by omega), due_at hx he hlen hl hee i (by omega) i (Nat.le_refl _)]
    congr 1
    by_cases hw : 0 < way
    · rw [if_pos hw]
      by_cases hq : way ≤ (i : Int)
      · rw [if_pos ⟨hw, hq, by omega⟩, fmod_shift hw]
      · rw [if_neg (by omega), fmod_small (by omega) (by omega)]
    · rw [if_neg hw, if_neg (fun h => hw h.1)]
theorem fmod_in (q way : Int) (h : 0 < way) : 0 ≤ q.fmod way ∧ q.fmod way < way := by
  rw [Int.fmod_eq_emod_of_nonneg _ (by omega)]
  exact ⟨Int.emod_nonneg _ (by omega), Int.emod_lt_of_pos _ h⟩
theorem range_small {n : Nat} (h : n ≤ 10) : Builtin.Range.small 0 (n : Int) 1 = true := small_one (by decide) (by decide) (by omega) (by omega)
theorem range_size {n : Nat} : Builtin.Range.rangeSize 0 (n : Int) 1 = (n : Int) := by rw [rangeSize_nat]; omega
end Mine
end

section
namespace Mine
theorem fresh_PurC : True ∧ True := by
  w_top off
  k_with_none
  first | (walk1 <;> trivial) | exact ⟨trivial, trivial⟩
end Mine
open PySem PySem.W PyProof.Rows PySem.Spec PySem.Calls
set_option Elab.async false
namespace Mine
theorem rangeKs_snoc (n : Nat) : rangeKs 0 (n + 1) = rangeKs 0 n ++ [(n : Int)] := by
  simp [rangeKs, List.range_succ]
/-- what the hits of a search are: none, or the first one ahead of the rest -/
theorem hits_are {p : Int → Prop} {i : ∀ k, Decidable (p k)} : ∀ n : Nat,
    (List.foldl (fun l k => @ite (List Int) (p k) (i k) (l ++ [k]) l) [] (rangeKs 0 n) = [] ∧ ∀ j : Nat, j < n → ¬ p (j : Int)) ∨
    ∃ (k : Nat) (rest : List Int), k < n ∧ List.foldl (fun l k => @ite (List Int) (p k) (i k) (l ++ [k]) l) [] (rangeKs 0 n) = (k : Int) :: rest ∧ p (k : Int) ∧ ∀ j : Nat, j < k → ¬ p (j : Int)
  | 0 => .inl ⟨rfl, fun j h => absurd h (Nat.not_lt_zero j)⟩
  | n + 1 => by
    rw [rangeKs_snoc, List.foldl_append]
    rcases hits_are (p := p) (i := i) n with ⟨h, hj⟩ | ⟨k, rest, hk, h, hp, hj⟩
    · rw [h]
      by_cases hn : p (n : Int)
      · refine .inr ⟨n, [], Nat.lt_succ_self n, ?_, hn, hj⟩
        simp [hn]
      · refine .inl ⟨?_, fun j hjn => ?_⟩
        · simp [hn]
        · rcases Nat.lt_or_eq_of_le (Nat.le_of_lt_succ hjn) with h' | h'
          · exact hj j h'
          · rw [h']; exact hn
    · rw [h]
      by_cases hn : p (n : Int)
      · refine .inr ⟨k, rest ++ [(n : Int)], by omega, ?_, hp, hj⟩
        simp [hn]
      · refine .inr ⟨k, rest, by omega, ?_, hp, hj⟩
        simp [hn]
theorem hits_no {p : Int → Prop} {i : ∀ k, Decidable (p k)} {n : Nat} {d : Decidable (List.foldl (fun l k => @ite (List Int) (p k) (i k) (l ++ [k]) l) [] (rangeKs 0 n) = [])}
    (h : @decide _ d = true) : ∀ j : Nat, j < n → ¬ p (j : Int) := by
  have h' := of_decide_eq_true h
  rcases hits_are (p := p) (i := i) n with ⟨_, hj⟩ | ⟨k, rest, _, e, _⟩
  · exact hj
  · rw [h'] at e; cases e
theorem hits_some {p : Int → Prop} {i : ∀ k, Decidable (p k)} {n : Nat} {d : Decidable (List.foldl (fun l k => @ite (List Int) (p k) (i k) (l ++ [k]) l) [] (rangeKs 0 n) = [])}
    (h : @decide _ d = false) : ∃ (k : Nat) (rest : List Int), k < n ∧ List.foldl (fun l k => @ite (List Int) (p k) (i k) (l ++ [k]) l) [] (rangeKs 0 n) = (k : Int) :: rest ∧ p (k : Int) ∧ ∀ j : Nat, j < k → ¬ p (j : Int) := by
  have h' := of_decide_eq_false h
  rcases hits_are (p := p) (i := i) n with ⟨e, _⟩ | h2
  · exact absurd e h'
  · exact h2
theorem head_item {prog : Program} {w : World} {A : Around} {E : Value → Shared → Prop} {s : Shared} {value slice : PySem.Expr} {l : Addr} {vs : List Value} {ns rest : List Int} {k : Int} {u : Tok} {Q : Value → Shared → Prop} (hl : s.heap.IsList l vs.toArray) (hi : IntsAre vs ns)
    (he : ns = k :: rest) (h : ∀ t, Q (.int k t) s)
    (hs : subscripted slice false (.ref l) (.int 0 u) = operate [.ref l, .int 0 u] (getItem (.ref l) (.int 0 u)) := by with_unfolding_all rfl) :
    wpAny (model prog w) A (subscriptTail value slice (.ref l) (.int 0 u)) Q E s :=
  item_anyK hl hi (by decide) (by rw [he, List.length_cons]; omega) (by decide) (fun t => by rw [he]; exact h t) hs
theorem mul_sign {x : Int} (h : x = 1 ∨ x = -1) (k : Int) : x * k = k ∨ x * k = -k := by
  rcases h with rfl | rfl
  · exact .inl (Int.one_mul k)
  · exact .inr (by rw [Int.neg_mul, Int.one_mul])
theorem code_of {x : Int} (h : x = 1 ∨ x = -1) (a b : Int) : (if decide (x > 0) = true then a else b) = a ∧ x = 1 ∨ (if decide (x > 0) = true then a else b) = b ∧ x = -1 := by
  rcases h with rfl | rfl
  · exact .inl ⟨rfl, rfl⟩
  · exact .inr ⟨rfl, rfl⟩
theorem ifexp_int {prog : Program} {w : World} {A : Around} {E : Value → Shared → Prop} {s : Shared} {env : Env} {test : PySem.Expr} {k₁ k₂ : Int} {x₁ x₂ : Nat} {p₁ p₂ pos : Pos} {Q : Value → Shared → Prop}
    (h : wpAny (model prog w) A (isTrue test env (eval test env)) (fun v s₂ => Q (.int (if v = true then k₁ else k₂) s₂.toks) { s₂ with toks := s₂.toks + 1 }) E s) :
    wpAny (model prog w) A (eval (.IfExp test (.Constant (.int k₁) x₁ p₁) (.Constant (.int k₂) x₂ p₂) pos) env) Q E s :=
  IfExp_ (wpAny_mono h (fun v s₂ hq => by cases v <;> exact wpAny_Constant_int hq) fun _ _ e => e)
section
theorem told_word : ∀ s ∈ [(0 : Int), 128], ∀ z ∈ [(0 : Int), 64], ∀ h ∈ [(0 : Int), 16], ∀ p ∈ [(0 : Int), 4], ∀ c ∈ [(0 : Int), 1],
    Builtin.bitOr (Builtin.bitOr (Builtin.bitOr (Builtin.bitOr (Builtin.bitOr c 2) p) z) s) h = s + z + h + p + 2 + c := by decide +kernel
theorem told_is {q o f l p z h : Int} (hp : p = if l = 0 then 0 else 4) (hz : z = if q = o then 64 else 0) (hh : h = if q % 16 < o % 16 then 16 else 0) :
    Builtin.bitOr (Builtin.bitOr (Builtin.bitOr (Builtin.bitOr (Builtin.bitOr (Builtin.bitAnd f 1) 2) p) z) (Builtin.bitAnd ((q - o) % 256) 128)) h = seekT q o l f := by
  have e1 : Builtin.bitAnd ((q - o) % 256) 128 = (q - o) % 256 / 128 * 128 := by
    have h := kbt_bit ((q - o) % 256) 7
    have h2 : Builtin.bitAnd ((q - o) % 256) 128 = ((q - o) % 256 / 128 % 2) * 128 := h
    rw [h2]
    omega
  have e2 : Builtin.bitAnd f 1 = f % 2 := bitAnd_m1 f
  rw [e1, e2]
  have hp' : p ∈ [(0 : Int), 4] := by rw [hp]; split <;> simp
  have hz' : z ∈ [(0 : Int), 64] := by rw [hz]; exact in2 64
  have hh' : h ∈ [(0 : Int), 16] := by rw [hh]; exact in2 16
  rw [told_word _ (hi_in _ (by omega) (by omega)) _ hz' _ hh' _ hp' _ (low_in f)]
  unfold seekT
  rw [hp, hz, hh]
end
theorem told_one {mem : List Int} {l x q f g : Int} {k : Nat} {b : Bool} (s9 : Builtin.bitAnd g 215 = seekT q (mem.getD (l + x * (k : Int)).toNat 0) (((k + 1 : Nat) : Int) - ((k + 1 : Nat) : Int)) f) (hb : b = true) (he : ¬ mem.getD (l + x * (k : Int)).toNat 0 = q) :
    Value.bool (Builtin.bitAnd g 215 == Builtin.bitOr (Builtin.bitOr (Builtin.bitOr (Builtin.bitOr (Builtin.bitOr (Builtin.bitAnd f 1) 2) (if decide (((k + 1 : Nat) : Int) < ((k + 1 : Nat) : Int)) = true then 4 else 0)) (if (!b) = true then 64 else 0))
      (Builtin.bitAnd ((q - mem.getD (l + x * (((k + 1 : Nat) : Int) - 1)).toNat 0).fmod 256) 128)) (if decide (q.fmod 16 < (mem.getD (l + x * (((k + 1 : Nat) : Int) - 1)).toNat 0).fmod 16) = true then 16 else 0)) = Value.bool true := by
  rw [show ((k + 1 : Nat) : Int) - 1 = (k : Int) by omega, Int.fmod_eq_emod_of_nonneg _ (by decide), Int.fmod_eq_emod_of_nonneg _ (by decide), Int.fmod_eq_emod_of_nonneg _ (by decide), hb, s9,
    told_is (q := q) (o := mem.getD (l + x * (k : Int)).toNat 0) (f := f) (l := ((k + 1 : Nat) : Int) - ((k + 1 : Nat) : Int)) ?_ ?_ ?_, beq_self_eq_true]
  · rw [if_neg (by rw [decide_eq_false (by omega)]; exact Bool.false_ne_true), if_pos (by omega)]
  · rw [if_neg (by decide), if_neg (fun h => he h.symm)]
  · by_cases h : q % 16 < mem.getD (l + x * (k : Int)).toNat 0 % 16
    · rw [if_pos (decide_eq_true h), if_pos h]
    · rw [if_neg (by rw [decide_eq_false h]; exact Bool.false_ne_true), if_neg h]
theorem told_two {mem : List Int} {l x q f g : Int} {k n : Nat} {b : Bool} (s9 : Builtin.bitAnd g 215 = seekT q (mem.getD (l + x * (k : Int)).toNat 0) ((n : Int) - ((k + 1 : Nat) : Int)) f) (hb : b = false) (hn : k < n) (he : mem.getD (l + x * (k : Int)).toNat 0 = q) :
    Value.bool (Builtin.bitAnd g 215 == Builtin.bitOr (Builtin.bitOr (Builtin.bitOr (Builtin.bitOr (Builtin.bitOr (Builtin.bitAnd f 1) 2) (if decide (((k : Int) + 1) < (n : Int)) = true then 4 else 0)) (if (!b) = true then 64 else 0))
      (Builtin.bitAnd ((q - mem.getD (l + x * (((k : Int) + 1) - 1)).toNat 0).fmod 256) 128)) (if decide (q.fmod 16 < (mem.getD (l + x * (((k : Int) + 1) - 1)).toNat 0).fmod 16) = true then 16 else 0)) = Value.bool true := by
  rw [show ((k : Int) + 1) - 1 = (k : Int) by omega, Int.fmod_eq_emod_of_nonneg _ (by decide), Int.fmod_eq_emod_of_nonneg _ (by decide), Int.fmod_eq_emod_of_nonneg _ (by decide), hb, s9,
    told_is (q := q) (o := mem.getD (l + x * (k : Int)).toNat 0) (f := f) (l := (n : Int) - ((k + 1 : Nat) : Int)) ?_ ?_ ?_, beq_self_eq_true]
  · by_cases h : (k : Int) + 1 < (n : Int)
    · rw [if_pos (decide_eq_true h), if_neg (by omega)]
    · rw [if_neg (by rw [decide_eq_false h]; exact Bool.false_ne_true), if_pos (by omega)]
  · rw [if_pos (by decide), if_pos he.symm]
  · by_cases h : q % 16 < mem.getD (l + x * (k : Int)).toNat 0 % 16
    · rw [if_pos (decide_eq_true h), if_pos h]
    · rw [if_neg (by rw [decide_eq_false h]; exact Bool.false_ne_true), if_neg h]
end Mine
end

section
namespace Mine
theorem fresh_C4 : True ∧ True := by
  w_top off
  k_with_none
  first | (walk1 <;> trivial) | exact ⟨trivial, trivial⟩
end Mine
open PySem PySem.W PyProof.Rows PySem.Spec PySem.Calls
set_option Elab.async false
set_option maxRecDepth 100000
set_option maxHeartbeats 8000000
namespace Mine
set_option pp.maxSteps 20000
set_option pp.deepTerms false
set_option pp.deepTerms.threshold 4

local macro_rules | `(tactic| walk_at "binaryOp BitAnd int int") => `(tactic| refine and_mod8 ?_)
local macro_rules | `(tactic| walk_at "binaryOp Sub int int") => `(tactic| refine sub_zero_ ?_)
local macro_rules | `(tactic| walk_at "binaryOp BitOr int int") => `(tactic| (with_reducible first | refine or_192 ?_ | refine or_193 ?_ | refine or_208 ?_ | refine or_168 ?_ | refine or_17 ?_))

theorem parity_is {prog : Program} {w : World} {v : Int} {t : Tok} : Spec prog w 140 [.int v t] 1 [] (fun need' r => need' = [] ∧ ∃ x t', r = .int x t' ∧ (x = 0 ∨ x = 4)) := by
  k_dflt (refine' spec_of ?k6 ?k7 ?k9 ?kB ?c2 ?c3 ?c4 ?c5 ?c6 ?_; (case k6 => k_is); (case k7 => k_is); (case k9 => exact fun s => BindsTo.of_eq rfl); (case kB => exact locs rfl); (case c2 => exact rfl); (case c3 => exact rfl); (case c4 => exact rfl); (case c5 => decide); (case c6 => decide); k_whole)
  intro p loose mean mg mb dp un gd outer A₁ base g L h₁ s tk D9 hD9 F N B X T hd hu
  (try dsimp only)
  (try k_fold)
  k_steps
  all_goals (refine hD9 (by assumption) (by assumption) ⟨rfl, _, _, rfl, ?_⟩)
  all_goals first | exact .inl rfl | exact .inr rfl

theorem szyx_is {prog : Program} {w : World} {v : Int} {t : Tok} : Spec prog w 147 [.int v t] 1 [] (fun need' r => need' = [] ∧ ∃ t', r = .int (szyxF v) t') := by
  k_dflt (refine' spec_of ?k6 ?k7 ?k9 ?kB ?c2 ?c3 ?c4 ?c5 ?c6 ?_; (case k6 => k_is); (case k7 => k_is); (case k9 => exact fun s => BindsTo.of_eq rfl); (case kB => exact locs rfl); (case c2 => exact rfl); (case c3 => exact rfl); (case c4 => exact rfl); (case c5 => decide); (case c6 => decide); k_whole)
  intro p loose mean mg mb dp un gd outer A₁ base g L h₁ s tk D9 hD9 F N B X T hd hu
  (try dsimp only)
  (try k_fold)
  k_steps
  · refine hD9 (by assumption) (by assumption) ⟨rfl, ?_⟩
    unfold szyxF
    rw [if_pos (by assumption)]
    exact ⟨_, rfl⟩
  · refine hD9 (by assumption) (by assumption) ⟨rfl, ?_⟩
    unfold szyxF
    rw [if_neg (by assumption)]
    exact ⟨_, rfl⟩

theorem move_flags_is {prog : Program} {w : World} {a o l f : Int} {t₁ t₂ t₃ t₄ : Tok} (h0 : 0 ≤ f) (h1 : f < 256) : Spec prog w 224 [.int a t₁, .int o t₂, .int l t₃, .int f t₄] 1 []
    (fun need' r => need' = [] ∧ ∃ x t', r = .int x t' ∧ 0 ≤ x ∧ x < 256 ∧ Builtin.bitAnd x 193 = Builtin.bitAnd f 193 ∧ (l = 0 → Builtin.bitAnd x 215 = Builtin.bitAnd f 193)) := by
  k_dflt (refine' spec_of ?k6 ?k7 ?k9 ?kB ?c2 ?c3 ?c4 ?c5 ?c6 ?_; (case k6 => k_is); (case k7 => k_is); (case k9 => exact fun s => BindsTo.of_eq rfl); (case kB => exact locs rfl); (case c2 => exact rfl); (case c3 => exact rfl); (case c4 => exact rfl); (case c5 => decide); (case c6 => decide); k_whole)
  intro p loose mean mg mb dp un gd outer A₁ base g L h₁ s tk D9 hD9 F N B X T hd hu
  (try dsimp only)
  (try k_fold)
  k_steps
  all_goals (refine hD9 (by assumption) (by assumption) ⟨rfl, _, _, rfl, ?_⟩)
  all_goals (with_reducible first
    | exact move_end (y := 32) (q := 4) h0 h1 (by decide) (bit8_in _) (by decide) (fun h => absurd h (by assumption))
    | exact move_end (y := 0) (q := 4) h0 h1 (by decide) (bit8_in _) (by decide) (fun h => absurd h (by assumption))
    | exact move_end (y := 32) (q := 0) h0 h1 (by decide) (bit8_in _) (by decide) (fun _ => rfl)
    | exact move_end (y := 0) (q := 0) h0 h1 (by decide) (bit8_in _) (by decide) (fun _ => rfl))

local macro_rules | `(tactic| walk_at "call ref") => `(tactic| (k_here; k_dflt (first
  | (refine' spec_use (szyx_is) ?k1 ?k2 ?k3 ?k4 ?k5 ?kK ?kP ?kS ?kd ?ku ?_; (case k1 => k_asm); (case k2 => k_asm); (case k3 => k_asm); (case k4 => k_asm); (case k5 => k_asm); (case kK => exact rfl); (case kP => repeat' (first | exact Pick.nil | (refine' Pick.cons ?_ ?_) | exact Take.head | (refine' Take.tail ?_))); (case kS => repeat' (first | exact List.forall_mem_nil _ | exact Apart.sep (by assumption) | (refine' List.forall_mem_cons.mpr ⟨?_, ?_⟩) | assumption | exact Ne.symm (by assumption) | k_ne)); (case kd => first | omega | (dsimp only [ktrTop, Around.deeper]; omega)); (case ku => first | omega | (dsimp only [ktrTop, Around.deeper]; omega)); intro r9 need9 h9 tk9 F9 N9 S9 P9; (obtain ⟨e9, t9, f9⟩ := P9); subst e9; subst f9; (try simp only [List.nil_append, List.cons_append] at N9 S9); (try dsimp only); (try k_sweep); (try k_fold)))))

theorem sub8_is {prog : Program} {w : World} {a o : Int} {t₁ t₂ t₃ : Tok} (ha : 0 ≤ a ∧ a < 256) (ho : 0 ≤ o ∧ o < 256) : Spec prog w 154 [.int a t₁, .int o t₂, .int 0 t₃] 2 []
    (fun need' r => ∃ tA u₁ u₂ f, need' = [(tA, { cls := .type "tuple", data := .seq [.int ((a - o) % 256) u₁, .int f u₂].toArray })] ∧ r = .ref tA ∧ Builtin.bitAnd f 208 = (a - o) % 256 / 128 * 128 + (if a = o then 64 else 0) + (if a % 16 < o % 16 then 16 else 0)) := by
  k_dflt (refine' spec_of ?k6 ?k7 ?k9 ?kB ?c2 ?c3 ?c4 ?c5 ?c6 ?_; (case k6 => k_is); (case k7 => k_is); (case k9 => exact fun s => BindsTo.of_eq rfl); (case kB => exact locs rfl); (case c2 => exact rfl); (case c3 => exact rfl); (case c4 => exact rfl); (case c5 => decide); (case c6 => decide); k_whole)
  intro p loose mean mg mb dp un gd outer A₁ base g L h₁ s tk D9 hD9 F N B X T hd hu
  (try dsimp only)
  (try k_fold)
  k_steps
  all_goals (refine hD9 (by assumption) (by assumption) ⟨_, _, _, _, rfl, rfl, ?_⟩)
  all_goals (with_reducible first
    | exact found_end (q := 4) (c := 1) ha ho (by decide) (by decide)
    | exact found_end (q := 4) (c := 0) ha ho (by decide) (by decide)
    | exact found_end (q := 0) (c := 1) ha ho (by decide) (by decide)
    | exact found_end (q := 0) (c := 0) ha ho (by decide) (by decide))
local macro_rules | `(tactic| walk_at "call ref") => `(tactic| (k_here; k_dflt (first
  | (refine' spec_use (sub8_is ?kx ?ky) ?k1 ?k2 ?k3 ?k4 ?k5 ?kK ?kP ?kS ?kd ?ku ?_; (case k1 => k_asm); (case k2 => k_asm); (case k3 => k_asm); (case k4 => k_asm); (case k5 => k_asm); (case kK => exact rfl); (case kP => repeat' (first | exact Pick.nil | (refine' Pick.cons ?_ ?_) | exact Take.head | (refine' Take.tail ?_))); (case kS => repeat' (first | exact List.forall_mem_nil _ | exact Apart.sep (by assumption) | (refine' List.forall_mem_cons.mpr ⟨?_, ?_⟩) | assumption | exact Ne.symm (by assumption) | k_ne)); (case kd => first | omega | (dsimp only [ktrTop, Around.deeper]; omega)); (case ku => first | omega | (dsimp only [ktrTop, Around.deeper]; omega)); (case kx => assumption); (case ky => assumption); intro r9 need9 h9 tk9 F9 N9 S9 P9; (obtain ⟨tA, u1, u2, f9, e9, g9, hf9⟩ := P9); subst e9; subst g9; (try simp only [List.nil_append, List.cons_append] at N9 S9); (try dsimp only); (try k_sweep); (try k_fold))
  | (refine' spec_use (szyx_is) ?k1 ?k2 ?k3 ?k4 ?k5 ?kK ?kP ?kS ?kd ?ku ?_; (case k1 => k_asm); (case k2 => k_asm); (case k3 => k_asm); (case k4 => k_asm); (case k5 => k_asm); (case kK => exact rfl); (case kP => repeat' (first | exact Pick.nil | (refine' Pick.cons ?_ ?_) | exact Take.head | (refine' Take.tail ?_))); (case kS => repeat' (first | exact List.forall_mem_nil _ | exact Apart.sep (by assumption) | (refine' List.forall_mem_cons.mpr ⟨?_, ?_⟩) | assumption | exact Ne.symm (by assumption) | k_ne)); (case kd => first | omega | (dsimp only [ktrTop, Around.deeper]; omega)); (case ku => first | omega | (dsimp only [ktrTop, Around.deeper]; omega)); intro r9 need9 h9 tk9 F9 N9 S9 P9; (obtain ⟨e9, t9, f9⟩ := P9); subst e9; subst f9; (try simp only [List.nil_append, List.cons_append] at N9 S9); (try dsimp only); (try k_sweep); (try k_fold))
  | (refine' spec_use (parity_is) ?k1 ?k2 ?k3 ?k4 ?k5 ?kK ?kP ?kS ?kd ?ku ?_; (case k1 => k_asm); (case k2 => k_asm); (case k3 => k_asm); (case k4 => k_asm); (case k5 => k_asm); (case kK => exact rfl); (case kP => repeat' (first | exact Pick.nil | (refine' Pick.cons ?_ ?_) | exact Take.head | (refine' Take.tail ?_))); (case kS => repeat' (first | exact List.forall_mem_nil _ | exact Apart.sep (by assumption) | (refine' List.forall_mem_cons.mpr ⟨?_, ?_⟩) | assumption | exact Ne.symm (by assumption) | k_ne)); (case kd => first | omega | (dsimp only [ktrTop, Around.deeper]; omega)); (case ku => first | omega | (dsimp only [ktrTop, Around.deeper]; omega)); intro r9 need9 h9 tk9 F9 N9 S9 P9; (obtain ⟨e9, x9, t9, f9, hx9⟩ := P9); subst e9; subst f9; (try simp only [List.nil_append, List.cons_append] at N9 S9); (try dsimp only); (try k_sweep); (try k_fold)))))

theorem seek_flags_is {prog : Program} {w : World} {a o l f : Int} {t₁ t₂ t₃ t₄ : Tok} (ha : 0 ≤ a ∧ a < 256) (ho : 0 ≤ o ∧ o < 256) : Spec prog w 231 [.int a t₁, .int o t₂, .int l t₃, .int f t₄] 3 []
    (fun need' r => need' = [] ∧ ∃ x t', r = .int x t' ∧ 0 ≤ x ∧ x < 256 ∧ Builtin.bitAnd x 215 = seekT a o l f ∧ Builtin.bitAnd x 64 = (if a = o then 64 else 0) ∧ Builtin.bitAnd x 1 = f % 2) := by
  k_dflt (refine' spec_of ?k6 ?k7 ?k9 ?kB ?c2 ?c3 ?c4 ?c5 ?c6 ?_; (case k6 => k_is); (case k7 => k_is); (case k9 => exact fun s => BindsTo.of_eq rfl); (case kB => exact locs rfl); (case c2 => exact rfl); (case c3 => exact rfl); (case c4 => exact rfl); (case c5 => decide); (case c6 => decide); k_whole)
  intro p loose mean mg mb dp un gd outer A₁ base g L h₁ s tk D9 hD9 F N B X T hd hu
  (try dsimp only)
  (try k_fold)
  k_steps
  all_goals (refine hD9 (by assumption) (cb_drop (news := []) (by assumption) (List.forall_mem_nil _)) ⟨rfl, _, _, rfl, ?_⟩)
  all_goals (with_reducible first
    | exact seek_end (y := 32) (q := 4) ha ho (by decide) (bit8_in _) (if_neg (by assumption)).symm (by assumption)
    | exact seek_end (y := 0) (q := 4) ha ho (by decide) (bit8_in _) (if_neg (by assumption)).symm (by assumption)
    | exact seek_end (y := 32) (q := 0) ha ho (by decide) (bit8_in _) (if_pos (by assumption)).symm (by assumption)
    | exact seek_end (y := 0) (q := 0) ha ho (by decide) (bit8_in _) (if_pos (by assumption)).symm (by assumption))

theorem port_flags_is {prog : Program} {w : World} {o b l : Int} {t₁ t₂ t₃ : Tok} : Spec prog w 238 [.int o t₁, .int b t₂, .int l t₃] 2 []
    (fun need' r => need' = [] ∧ ∃ x t', r = .int x t' ∧ (l = 0 → Builtin.bitAnd x 192 = 64)) := by
  k_dflt (refine' spec_of ?k6 ?k7 ?k9 ?kB ?c2 ?c3 ?c4 ?c5 ?c6 ?_; (case k6 => k_is); (case k7 => k_is); (case k9 => exact fun s => BindsTo.of_eq rfl); (case kB => exact locs rfl); (case c2 => exact rfl); (case c3 => exact rfl); (case c4 => exact rfl); (case c5 => decide); (case c6 => decide); k_whole)
  intro p loose mean mg mb dp un gd outer A₁ base g L h₁ s tk D9 hD9 F N B X T hd hu
  (try dsimp only)
  (try k_fold)
  k_steps
  all_goals (refine hD9 (by assumption) (by assumption) ⟨rfl, _, _, rfl, ?_⟩)
  all_goals (with_reducible first
    | exact port_end (c := 17) (n := 2) (by decide) (by assumption) (by decide)
    | exact port_end (c := 17) (n := 0) (by decide) (by assumption) (by decide)
    | exact port_end (c := 0) (n := 2) (by decide) (by assumption) (by decide)
    | exact port_end (c := 0) (n := 0) (by decide) (by assumption) (by decide))
end Mine
end

section
namespace Mine
theorem fresh_C6 : True ∧ True := by
  w_top off
  k_with_none
  first | (walk1 <;> trivial) | exact ⟨trivial, trivial⟩
end Mine
open PySem PySem.W PyProof.Rows PySem.Spec PySem.Calls
set_option Elab.async false
set_option maxRecDepth 100000
set_option maxHeartbeats 8000000
namespace Mine
set_option pp.maxSteps 20000
set_option pp.deepTerms false
set_option pp.deepTerms.threshold 4
local macro_rules | `(tactic| k_ne) => `(tactic| first | assumption | exact Ne.symm (by assumption) | (refine neN ?_; (try dsimp only); omega))
local macro_rules | `(tactic| walk_at "binaryOp BitAnd int int") => `(tactic| (first | (refine' and_low16 ?k1 ?k2 ?_; (case k1 => omega); (case k2 => omega)) | (refine' and_low8 ?k1 ?k2 ?_; (case k1 => omega); (case k2 => omega))))
local macro_rules | `(tactic| walk_at "binaryOp BitOr int int") => `(tactic| refine or_zero_l ?_)
local macro_rules | `(tactic| walk_at "binaryOp LShift int int") => `(tactic| refine shl_zero ?_)
local macro_rules | `(tactic| walk_at "binaryOp RShift int int") => `(tactic| (refine' shr_low ?k1 ?k2 ?_; (case k1 => omega); (case k2 => omega)))
local macro_rules | `(tactic| walk_at "binaryOp Mod int int") => `(tactic| (refine' mod_low ?k1 ?k2 ?_; (case k1 => omega); (case k2 => omega)))

theorem peek_is {prog : Program} {w : World} {mA : Addr} {vs : List Value} {mem : List Int} {nm : Nat} {x : Int} {t : Tok} (hi : IntsAre vs mem) (hlen : mem.length = 128) (h0 : 0 ≤ x) (h1 : x < 128) :
    Spec prog w 77 [.ref mA, .int x t] 1 [(mA, listOf vs.toArray nm)] (fun need' r => need' = [(mA, listOf vs.toArray nm)] ∧ ∃ t', r = .int (mem.getD x.toNat 0) t') := by
  k_dflt (refine' spec_of ?k6 ?k7 ?k9 ?kB ?c2 ?c3 ?c4 ?c5 ?c6 ?_; (case k6 => k_is); (case k7 => k_is); (case k9 => exact fun s => BindsTo.of_eq rfl); (case kB => exact locs rfl); (case c2 => exact rfl); (case c3 => exact rfl); (case c4 => exact rfl); (case c5 => decide); (case c6 => decide); k_whole)
  intro p loose mean mg mb dp un gd outer A₁ base g L h₁ s tk D9 hD9 F N B X T hd hu
  (try dsimp only)
  (try k_fold)
  k_steps
  all_goals exact hD9 (by assumption) (by assumption) ⟨rfl, _, rfl⟩

theorem poke_is {prog : Program} {w : World} {mA : Addr} {vs : List Value} {mem : List Int} {nm : Nat} {x o : Int} {t u : Tok} (hi : IntsAre vs mem) (hlen : mem.length = 128) (h0 : 0 ≤ x) (h1 : x < 128) (h2 : 0 ≤ o) (h3 : o < 256) :
    Spec prog w 84 [.ref mA, .int x t, .int o u] 1 [(mA, listOf vs.toArray nm)] (fun need' r => ∃ vs', need' = [(mA, listOf vs'.toArray nm)] ∧ r = .none ∧ IntsAre vs' (mem.set x.toNat o)) := by
  k_dflt (refine' spec_of ?k6 ?k7 ?k9 ?kB ?c2 ?c3 ?c4 ?c5 ?c6 ?_; (case k6 => k_is); (case k7 => k_is); (case k9 => exact fun s => BindsTo.of_eq rfl); (case kB => exact locs rfl); (case c2 => exact rfl); (case c3 => exact rfl); (case c4 => exact rfl); (case c5 => decide); (case c6 => decide); k_whole)
  intro p loose mean mg mb dp un gd outer A₁ base g L h₁ s tk D9 hD9 F N B X T hd hu
  (try dsimp only)
  (try k_fold)
  k_steps
  all_goals exact hD9 (by assumption) (by assumption) ⟨_, rfl, rfl, by assumption⟩
end Mine
end

section
namespace Mine
theorem fresh_C8 : True ∧ True := by
  w_top off
  k_with_none
  first | (walk1 <;> trivial) | exact ⟨trivial, trivial⟩
end Mine
open PySem PySem.W PyProof.Rows PySem.Spec PySem.Calls
set_option Elab.async false
set_option maxRecDepth 100000
set_option maxHeartbeats 8000000
namespace Mine
set_option pp.maxSteps 20000
set_option pp.deepTerms false
set_option pp.deepTerms.threshold 4
local macro_rules | `(tactic| k_ne) => `(tactic| first | assumption | exact Ne.symm (by assumption) | (refine neN ?_; (try dsimp only); omega))
local macro_rules | `(tactic| walk_at "binaryOp BitAnd int int") => `(tactic| (first | (refine' and_low16 ?k1 ?k2 ?_; (case k1 => omega); (case k2 => omega)) | (refine' and_low8 ?k1 ?k2 ?_; (case k1 => omega); (case k2 => omega)) | (with_reducible refine and_mod8 ?_)))
local macro_rules | `(tactic| walk_at "binaryOp BitOr int int") => `(tactic| refine or_zero_l ?_)
local macro_rules | `(tactic| walk_at "binaryOp LShift int int") => `(tactic| refine shl_zero ?_)
local macro_rules | `(tactic| walk_at "binaryOp RShift int int") => `(tactic| (refine' shr_low ?k1 ?k2 ?_; (case k1 => omega); (case k2 => omega)))
local macro_rules | `(tactic| walk_at "binaryOp Mod int int") => `(tactic| (refine' mod_low ?k1 ?k2 ?_; (case k1 => omega); (case k2 => omega)))
local macro_rules | `(tactic| walk_at "getAttr ref") => `(tactic| (k_here; k_dflt (first
  | ((with_reducible show wpAny _ _ (getAttr (Value.ref _) (PySem.Str.ofString "ins") _) _ _ _); (refine' ports_ins ?k1 ?k2 ?k3 ?k4 ?k5 ?k6 ?_; (case k1 => k_asm); (case k2 => k_asm); (case k3 => k_asm); (case k4 => k_mem); (case k5 => k_mem); (case k6 => assumption); k_whole))
  | ((with_reducible show wpAny _ _ (getAttr (Value.ref _) (PySem.Str.ofString "outs") _) _ _ _); (refine' ports_outs ?k1 ?k2 ?k3 ?k4 ?k5 ?k6 ?_; (case k1 => k_asm); (case k2 => k_asm); (case k3 => k_asm); (case k4 => k_mem); (case k5 => k_mem); (case k6 => assumption); k_whole))
  | ((with_reducible show wpAny _ _ (getAttr (Value.ref _) (PySem.Str.ofString "at") _) _ _ _); (refine' ports_at ?k1 ?k2 ?k3 ?k4 ?k5 ?k6 ?_; (case k1 => k_asm); (case k2 => k_asm); (case k3 => k_asm); (case k4 => k_mem); (case k5 => k_mem); (case k6 => assumption); k_whole); intro _))))
local macro_rules | `(tactic| walk_at "setAttr ref") => `(tactic| (k_here; k_dflt (first
  | ((with_reducible show wpAny _ _ (setAttr (Value.ref _) (PySem.Str.ofString "at") _) _ _ _); (refine' ports_set_at ?k1 ?k2 ?k3 ?k4 ?k6 ?k7 ?_; (case k1 => k_asm); (case k2 => k_asm); (case k3 => k_asm); (case k4 => k_mem); (case k6 => assumption); (case k7 => k_updF); k_whole); intro h' o' F' N' hD'; (try dsimp only at N'); (try k_sweep)))))

theorem port_in_is {prog : Program} {w : World} {pA pdA iA oA : Addr} {oP : Obj} {y nb : Int} {ni : Nat} {is : List Value} {ins : List Int} {t : Tok} (hP : PortsD oP iA oA y) (hi : IntsAre is ins) (hz : ins.length ≤ 100) (h0 : 0 ≤ y) (h1 : y < ins.length) (h2 : 0 ≤ ins.getD y.toNat 0) (h3 : ins.getD y.toNat 0 < 256)
    (n1 : pA ≠ pdA) (n2 : pA ≠ iA) (n3 : pdA ≠ iA) :
    Spec prog w 126 [.ref pA, .int nb t] 1 [(pA, instObj 52 pdA), (pdA, oP), (iA, listOf is.toArray ni)] (fun need' r => ∃ oP' t', need' = [(pA, instObj 52 pdA), (pdA, oP'), (iA, listOf is.toArray ni)] ∧ r = .int (ins.getD y.toNat 0) t' ∧ PortsD oP' iA oA (y + 1)) := by
  k_dflt (refine' spec_of ?k6 ?k7 ?k9 ?kB ?c2 ?c3 ?c4 ?c5 ?c6 ?_; (case k6 => k_is); (case k7 => k_is); (case k9 => exact fun s => BindsTo.of_eq rfl); (case kB => exact locs rfl); (case c2 => exact rfl); (case c3 => exact rfl); (case c4 => exact rfl); (case c5 => decide); (case c6 => decide); k_whole)
  intro p loose mean mg mb dp un gd outer A₁ base g L h₁ s tk D9 hD9 F N B X T hd hu
  (try dsimp only)
  (try k_fold)
  k_steps
  all_goals first | (exfalso; omega) | exact hD9 (by assumption) (by assumption) ⟨_, _, rfl, rfl, by assumption⟩

theorem port_out_is {prog : Program} {w : World} {pA pdA iA oA : Addr} {oP : Obj} {y nb o : Int} {k : Nat} {outs : List Value} {t u : Tok} (hP : PortsD oP iA oA y) (hl : outs.length ≤ 100)
    (n1 : pA ≠ pdA) (n2 : pA ≠ oA) (n3 : pdA ≠ oA) (h0 : 0 ≤ nb ∧ nb < 256) (h1 : 0 ≤ o ∧ o < 256) :
    Spec prog w 133 [.ref pA, .int nb t, .int o u] 1 [(pA, instObj 52 pdA), (pdA, oP), (oA, listOf outs.toArray k)]
    (fun need' r => ∃ tA t' u', need' = [(tA, { cls := .type "tuple", data := .seq [.int nb t', .int o u'].toArray }), (pA, instObj 52 pdA), (pdA, oP), (oA, listOf (outs.toArray.push (.ref tA)) (k + 1))] ∧ r = .none ∧ tA ∉ [pA, pdA, oA]) := by
  k_dflt (refine' spec_of ?k6 ?k7 ?k9 ?kB ?c2 ?c3 ?c4 ?c5 ?c6 ?_; (case k6 => k_is); (case k7 => k_is); (case k9 => exact fun s => BindsTo.of_eq rfl); (case kB => exact locs rfl); (case c2 => exact rfl); (case c3 => exact rfl); (case c4 => exact rfl); (case c5 => decide); (case c6 => decide); k_whole)
  intro p loose mean mg mb dp un gd outer A₁ base g L h₁ s tk D9 hD9 F N B X T hd hu
  (try dsimp only)
  (try k_fold)
  k_steps
  all_goals exact hD9 (by assumption) (by assumption) ⟨_, _, _, rfl, rfl, by simp only [List.mem_cons, List.not_mem_nil, or_false, not_or]; exact ⟨by k_ne, by k_ne, by k_ne⟩⟩
end Mine
end

section
namespace Mine
theorem fresh_N0 : True ∧ True := by
  w_top off
  k_with_none
  first | (walk1 <;> trivial) | exact ⟨trivial, trivial⟩
end Mine
open PySem PySem.W PyProof.Rows PySem.Calls
set_option Elab.async false
set_option maxRecDepth 100000
set_option maxHeartbeats 8000000
namespace Mine
theorem Take.perm {p : Addr × Obj} {l l' : List (Addr × Obj)} (h : Take p l l') : l.Perm (p :: l') := by
  induction h with
  | head => exact .refl _
  | tail _ ih => exact (ih.cons _).trans (.swap _ _ _)
theorem Pick.perm {need l r : List (Addr × Obj)} (h : Pick need l r) : l.Perm (need ++ r) := by
  induction h with
  | nil => exact .refl _
  | cons t _ ih => exact t.perm.trans (ih.cons _)
theorem Pick.sep {need l r : List (Addr × Obj)} (h : Pick need l r) (nd : (l.map (·.1)).Nodup) : ∀ q ∈ r, ∀ p ∈ need, p.1 ≠ q.1 := by
  have h2 : ((need ++ r).map (·.1)).Nodup := (h.perm.map _).nodup_iff.mp nd
  rw [List.map_append] at h2
  exact fun q hq p hp e => (List.nodup_append.mp h2).2.2 _ (List.mem_map_of_mem hp) _ (List.mem_map_of_mem hq) e
section
variable {prog : Program} {w : World} {f : Addr} {vs : List Value} {d : Nat} {need lit rest : List (Addr × Obj)} {p : Program} {loose : List Str} {mean : ExcName → Option Value} {mg mb : Str → Option Value} {dp un : Nat} {gd : Option (List Code)} {cn : Str} {cs : Scope} {a : Addr} {ccd : Value} {cl : List (Str × Addr)} {outer : List Env} {A₀ : Around} {base h₀ : Heap} {L : Addr}
  {m : Str → Option Value} {s : Shared} {Q E : Value → Shared → Prop}
/-- a call that leaves the ledger, its answer known -/
theorem use_r {Vf : Tok → Value} (C : Spec prog w f vs d need (fun need' r => need' = need ∧ ∃ t', r = Vf t'))
    (B : Below A₀ base outer h₀) (F : Fr h₀ L s.heap m) (X : (hd.heap_1 w.params).In h₀) (N : News h₀ L s.heap lit) (T : Top p loose mean mg mb h₀) (hk : cs.kind = .function) (P : Pick need lit rest) (nd : (lit.map (·.1)).Nodup)
    (hd : dp + d < recursionLimit) (hu : un + 8 * d < cLine) (ret : ∀ t h' tk', Fr h₀ L h' m → News h₀ L h' lit → Q (Vf t) { s with heap := h', toks := tk' }) :
    wpAny (model prog w) (ktrTop dp un gd cn cs L a ccd cl outer) (call (.ref f) vs) Q E s := by
  refine spec_use C B F X N T hk P (P.sep nd) hd hu ?_
  rintro _ _ h' tk' F' N' _ ⟨rfl, t, rfl⟩
  exact ret t h' tk' F' (fun q hq => N' q (P.perm.mem_iff.mp hq))
/-- a call that leaves the ledger, of its int a word is known -/
theorem use_x {If : Int → Prop} (C : Spec prog w f vs d need (fun need' r => need' = need ∧ ∃ x t', r = .int x t' ∧ If x))
    (B : Below A₀ base outer h₀) (F : Fr h₀ L s.heap m) (X : (hd.heap_1 w.params).In h₀) (N : News h₀ L s.heap lit) (T : Top p loose mean mg mb h₀) (hk : cs.kind = .function) (P : Pick need lit rest) (nd : (lit.map (·.1)).Nodup)
    (hd : dp + d < recursionLimit) (hu : un + 8 * d < cLine) (ret : ∀ x t h' tk', Fr h₀ L h' m → News h₀ L h' lit → If x → Q (.int x t) { s with heap := h', toks := tk' }) :
    wpAny (model prog w) (ktrTop dp un gd cn cs L a ccd cl outer) (call (.ref f) vs) Q E s := by
  refine spec_use C B F X N T hk P (P.sep nd) hd hu ?_
  rintro _ _ h' tk' F' N' _ ⟨rfl, x, t, rfl, hi⟩
  exact ret x t h' tk' F' (fun q hq => N' q (P.perm.mem_iff.mp hq)) hi
theorem use_1 {α : Type} {Lf : α → List (Addr × Obj)} {Vf : α → Value} {If : α → Prop} (C : Spec prog w f vs d need (fun need' r => ∃ x, need' = Lf x ∧ r = Vf x ∧ If x))
    (B : Below A₀ base outer h₀) (F : Fr h₀ L s.heap m) (X : (hd.heap_1 w.params).In h₀) (N : News h₀ L s.heap lit) (T : Top p loose mean mg mb h₀) (hk : cs.kind = .function) (P : Pick need lit rest) (nd : (lit.map (·.1)).Nodup)
    (hd : dp + d < recursionLimit) (hu : un + 8 * d < cLine) (ret : ∀ x h' tk', Fr h₀ L h' m → News h₀ L h' (Lf x ++ rest) → If x → Q (Vf x) { s with heap := h', toks := tk' }) :
    wpAny (model prog w) (ktrTop dp un gd cn cs L a ccd cl outer) (call (.ref f) vs) Q E s := by
  refine spec_use C B F X N T hk P (P.sep nd) hd hu ?_
  rintro _ _ h' tk' F' N' _ ⟨x, rfl, rfl, hi⟩
  exact ret x h' tk' F' N' hi
theorem use_2 {α β : Type} {Lf : α → β → List (Addr × Obj)} {Vf : α → β → Value} {If : α → β → Prop} (C : Spec prog w f vs d need (fun need' r => ∃ x y, need' = Lf x y ∧ r = Vf x y ∧ If x y))
    (B : Below A₀ base outer h₀) (F : Fr h₀ L s.heap m) (X : (hd.heap_1 w.params).In h₀) (N : News h₀ L s.heap lit) (T : Top p loose mean mg mb h₀) (hk : cs.kind = .function) (P : Pick need lit rest) (nd : (lit.map (·.1)).Nodup)
    (hd : dp + d < recursionLimit) (hu : un + 8 * d < cLine) (ret : ∀ x y h' tk', Fr h₀ L h' m → News h₀ L h' (Lf x y ++ rest) → If x y → Q (Vf x y) { s with heap := h', toks := tk' }) :
    wpAny (model prog w) (ktrTop dp un gd cn cs L a ccd cl outer) (call (.ref f) vs) Q E s := by
  refine spec_use C B F X N T hk P (P.sep nd) hd hu ?_
  rintro _ _ h' tk' F' N' _ ⟨x, y, rfl, rfl, hi⟩
  exact ret x y h' tk' F' N' hi
/-- a call that puts a new object onto the ledger -/
theorem use_a {β γ : Type} {Of : β → γ → Obj} {Lf : Addr → List (Addr × Obj)} {Vf : Addr → Value} (C : Spec prog w f vs d need (fun need' r => ∃ x y z, need' = (x, Of y z) :: Lf x ∧ r = Vf x ∧ x ∉ (Lf x).map (·.1)))
    (B : Below A₀ base outer h₀) (F : Fr h₀ L s.heap m) (X : (hd.heap_1 w.params).In h₀) (N : News h₀ L s.heap lit) (T : Top p loose mean mg mb h₀) (hk : cs.kind = .function) (P : Pick need lit rest) (nd : (lit.map (·.1)).Nodup)
    (hd : dp + d < recursionLimit) (hu : un + 8 * d < cLine) (ret : ∀ x y z h' tk', Fr h₀ L h' m → News h₀ L h' ((x, Of y z) :: (Lf x ++ rest)) → x ∉ (Lf x ++ rest).map (·.1) → Q (Vf x) { s with heap := h', toks := tk' }) :
    wpAny (model prog w) (ktrTop dp un gd cn cs L a ccd cl outer) (call (.ref f) vs) Q E s := by
  refine spec_use C B F X N T hk P (P.sep nd) hd hu ?_
  rintro _ _ h' tk' F' N' S' ⟨x, y, z, rfl, rfl, hx⟩
  refine ret x y z h' tk' F' N' fun h => ?_
  rw [List.map_append] at h
  rcases List.mem_append.mp h with h | h
  · exact hx h
  · obtain ⟨q, hq, e⟩ := List.mem_map.mp h
    exact S' q hq _ (List.Mem.head _) e
theorem updF_pick {x : Addr} {o : Obj} {l : List (Addr × Obj)} {g : Obj → List (Addr × Obj)} (U : UpdF x o l g) : ∃ rest, Take (x, o) l rest ∧ (∀ q ∈ rest, q.1 ≠ x) ∧ ∀ o' p, p ∈ g o' → p = (x, o') ∨ p ∈ rest := by
  induction U with
  | head h => exact ⟨_, .head, h, fun o' p hp => (List.mem_cons.mp hp)⟩
  | tail h _ ih =>
    obtain ⟨rest, t, n, k⟩ := ih
    refine ⟨_, .tail t, fun q hq => ?_, fun o' p hp => ?_⟩
    · rcases List.mem_cons.mp hq with rfl | hq
      · exact h
      · exact n q hq
    · rcases List.mem_cons.mp hp with rfl | hp
      · exact .inr (.head _)
      · exact (k o' p hp).imp id fun hp => .tail _ hp
/-- a call that turns one entry of the ledger -/
theorem use_u {α : Type} {x : Addr} {o : Obj} {Of : α → Obj} {Vf : α → Value} {If : α → Prop} {gf : Obj → List (Addr × Obj)} (C : Spec prog w f vs d [(x, o)] (fun need' r => ∃ y, need' = [(x, Of y)] ∧ r = Vf y ∧ If y))
    (B : Below A₀ base outer h₀) (F : Fr h₀ L s.heap m) (X : (hd.heap_1 w.params).In h₀) (N : News h₀ L s.heap lit) (T : Top p loose mean mg mb h₀) (hk : cs.kind = .function) (U : UpdF x o lit gf)
    (hd : dp + d < recursionLimit) (hu : un + 8 * d < cLine) (ret : ∀ y h' tk', Fr h₀ L h' m → News h₀ L h' (gf (Of y)) → If y → Q (Vf y) { s with heap := h', toks := tk' }) :
    wpAny (model prog w) (ktrTop dp un gd cn cs L a ccd cl outer) (call (.ref f) vs) Q E s := by
  obtain ⟨rest, t, n, k⟩ := updF_pick U
  refine spec_use C B F X N T hk (.cons t .nil) (fun q hq p hp e => n q hq ?_) hd hu ?_
  · rw [List.mem_singleton.mp hp] at e; exact e.symm
  rintro _ _ h' tk' F' N' _ ⟨y, rfl, rfl, hi⟩
  refine ret y h' tk' F' (fun q hq => ?_) hi
  rcases k _ q hq with rfl | hq
  · exact N' _ (.head _)
  · exact N' _ (.tail _ hq)
theorem nodup_comm {l₁ l₂ : List Nat} (h : (l₁ ++ l₂).Nodup) : (l₂ ++ l₁).Nodup := List.perm_append_comm.nodup_iff.mp h
end
end Mine
namespace Mine
theorem ndp {l : List Nat} (h : l.Nodup) (i j : Nat) (hij : (Nat.blt i j && Nat.blt j l.length) = true) : l.getD i 0 ≠ l.getD j 0 := by
  simp only [Bool.and_eq_true, Nat.blt_eq] at hij
  rw [List.getD_eq_getElem?_getD, List.getD_eq_getElem?_getD, List.getElem?_eq_getElem (by omega), List.getElem?_eq_getElem (by omega)]
  intro e
  have := (List.getElem_inj h).mp e
  omega
theorem nds {l : List Nat} (h : l.Nodup) (i j : Nat) (hij : (Nat.blt i j && Nat.blt j l.length) = true) : l.getD j 0 ≠ l.getD i 0 := (ndp h i j hij).symm
section
variable {prog : Program} {w : World} {A : Around} {E : Value → Shared → Prop} {s : Shared} {a b : Int} {t u : Tok} {Q : Value → Shared → Prop}
theorem or_of (e : a = 0) (h : Q (.int b s.toks) { s with toks := s.toks + 1 }) : wpAny (model prog w) A (binaryOp .BitOr (.int a t) (.int b u)) Q E s := by
  subst e; exact or_zero_l h
theorem shl_of (e : a = 0) (h : Q (.int 0 s.toks) { s with toks := s.toks + 1 }) : wpAny (model prog w) A (binaryOp .LShift (.int a t) (.int 8 u)) Q E s := by
  subst e; exact shl_zero h
variable {value slice : PySem.Expr} {l : Addr} {rs : List Value} {r0 r1 r2 r3 r4 r5 r6 r7 : Int}
theorem reg0 (hl : s.heap.IsList l rs.toArray) (hi : IntsAre rs [r0, r1, r2, r3, r4, r5, r6, r7]) (h : ∀ t, Q (.int r0 t) s)
    (hs : subscripted slice false (.ref l) (.int 0 u) = operate [.ref l, .int 0 u] (getItem (.ref l) (.int 0 u)) := by with_unfolding_all rfl) :
    wpAny (model prog w) A (subscriptTail value slice (.ref l) (.int 0 u)) Q E s := item_anyK hl hi (by decide) (by simp only [List.length_cons, List.length_nil]; decide) (by decide) h hs
theorem reg1 (hl : s.heap.IsList l rs.toArray) (hi : IntsAre rs [r0, r1, r2, r3, r4, r5, r6, r7]) (h : ∀ t, Q (.int r1 t) s)
    (hs : subscripted slice false (.ref l) (.int 1 u) = operate [.ref l, .int 1 u] (getItem (.ref l) (.int 1 u)) := by with_unfolding_all rfl) :
    wpAny (model prog w) A (subscriptTail value slice (.ref l) (.int 1 u)) Q E s := item_anyK hl hi (by decide) (by simp only [List.length_cons, List.length_nil]; decide) (by decide) h hs
theorem reg6 (hl : s.heap.IsList l rs.toArray) (hi : IntsAre rs [r0, r1, r2, r3, r4, r5, r6, r7]) (h : ∀ t, Q (.int r6 t) s)
    (hs : subscripted slice false (.ref l) (.int 6 u) = operate [.ref l, .int 6 u] (getItem (.ref l) (.int 6 u)) := by with_unfolding_all rfl) :
    wpAny (model prog w) A (subscriptTail value slice (.ref l) (.int 6 u)) Q E s := item_anyK hl hi (by decide) (by simp only [List.length_cons, List.length_nil]; decide) (by decide) h hs
theorem reg7 (hl : s.heap.IsList l rs.toArray) (hi : IntsAre rs [r0, r1, r2, r3, r4, r5, r6, r7]) (h : ∀ t, Q (.int r7 t) s)
    (hs : subscripted slice false (.ref l) (.int 7 u) = operate [.ref l, .int 7 u] (getItem (.ref l) (.int 7 u)) := by with_unfolding_all rfl) :
    wpAny (model prog w) A (subscriptTail value slice (.ref l) (.int 7 u)) Q E s := item_anyK hl hi (by decide) (by simp only [List.length_cons, List.length_nil]; decide) (by decide) h hs
end
end Mine
namespace Mine
theorem Pick.nd {need l r need' : List (Addr × Obj)} (h : Pick need l r) (nd : (l.map (·.1)).Nodup) (nd' : (need'.map (·.1)).Nodup) (S : ∀ p ∈ r, ∀ q ∈ need', p.1 ≠ q.1) : ((need' ++ r).map (·.1)).Nodup := by
  have h2 : ((need ++ r).map (·.1)).Nodup := (h.perm.map _).nodup_iff.mp nd
  rw [List.map_append] at h2 ⊢
  refine List.nodup_append.mpr ⟨nd', (List.nodup_append.mp h2).2.1, ?_⟩
  intro a ha b hb e
  obtain ⟨q, hq, rfl⟩ := List.mem_map.mp ha
  obtain ⟨p, hp, rfl⟩ := List.mem_map.mp hb
  exact S p hp q hq e.symm
/-- a call that keeps the word that all addresses of the ledger differ -/
theorem use_nd {prog : Program} {w : World} {f : Addr} {vs : List Value} {d : Nat} {need lit rest : List (Addr × Obj)} {p : Program} {loose : List Str} {mean : ExcName → Option Value} {mg mb : Str → Option Value} {dp un : Nat} {gd : Option (List Code)} {cn : Str} {cs : Scope} {a : Addr} {ccd : Value} {cl : List (Str × Addr)} {outer : List Env} {A₀ : Around} {base h₀ : Heap} {L : Addr}
    {m : Str → Option Value} {s : Shared} {Q E : Value → Shared → Prop} {Post : List (Addr × Obj) → Value → Prop} (C : Spec prog w f vs d need Post)
    (B : Below A₀ base outer h₀) (F : Fr h₀ L s.heap m) (X : (hd.heap_1 w.params).In h₀) (N : News h₀ L s.heap lit) (T : Top p loose mean mg mb h₀) (hk : cs.kind = .function) (P : Pick need lit rest) (nd : (lit.map (·.1)).Nodup)
    (hP : ∀ need' r, Post need' r → (need'.map (·.1)).Nodup) (hd : dp + d < recursionLimit) (hu : un + 8 * d < cLine)
    (ret : ∀ r need' h' tk', Fr h₀ L h' m → News h₀ L h' (need' ++ rest) → ((need' ++ rest).map (·.1)).Nodup → Post need' r → Q r { s with heap := h', toks := tk' }) :
    wpAny (model prog w) (ktrTop dp un gd cn cs L a ccd cl outer) (call (.ref f) vs) Q E s :=
  spec_use C B F X N T hk P (P.sep nd) hd hu fun r need' h' tk' F' N' S' hp => ret r need' h' tk' F' N' (P.nd nd (hP _ _ hp) S') hp
end Mine
end

section
namespace Mine
theorem fresh_N5 : True ∧ True := by
  w_top off
  k_with_none
  first | (walk1 <;> trivial) | exact ⟨trivial, trivial⟩
end Mine
open PySem PySem.W PyProof.Rows PySem.Spec PySem.Calls
set_option Elab.async false
set_option maxRecDepth 100000
set_option maxHeartbeats 8000000
namespace Mine
set_option pp.maxSteps 20000
set_option pp.deepTerms false
set_option pp.deepTerms.threshold 4
local macro_rules | `(tactic| k_ne) => `(tactic| k_extra "ne")
local macro_rules | `(tactic| walk_at "getAttr ref") => `(tactic| (k_here; k_extra "getAttr ref"))
local macro_rules | `(tactic| walk_at "binaryOp BitAnd int int") => `(tactic| (k_here; k_extra "binaryOp BitAnd int int"))
local macro_rules | `(tactic| walk_at "binaryOp BitOr int int") => `(tactic| (k_here; k_extra "binaryOp BitOr int int"))
local macro_rules | `(tactic| walk_at "binaryOp LShift int int") => `(tactic| (k_here; k_extra "binaryOp LShift int int"))
local macro_rules | `(tactic| walk_at "binaryOp RShift int int") => `(tactic| (k_here; k_extra "binaryOp RShift int int"))

theorem set_two {regs : List Int} {p v : Int} (hp : 0 ≤ p ∧ p ≤ 2) (hlen : regs.length = 8) (hh : regs.getD (2 * p).toNat 0 = 0) :
    ((regs.set (2 * p).toNat 0).set (2 * p + 1).toNat v).getD (2 * p).toNat 0 = 0 ∧ ((regs.set (2 * p).toNat 0).set (2 * p + 1).toNat v).getD (2 * p + 1).toNat 0 = v ∧ (regs.set (2 * p).toNat 0).set (2 * p + 1).toNat v = regs.set (2 * p + 1).toNat v := by
  have e : regs.set (2 * p).toNat 0 = regs := by
    apply List.ext_getElem?
    intro i
    rw [List.getElem?_set]
    split
    · rename_i h
      rw [← h, if_pos (by omega)]
      rw [List.getD_eq_getElem?_getD] at hh
      rw [List.getElem?_eq_getElem (by omega)] at hh ⊢
      simp only [Option.getD_some] at hh
      rw [hh]
    · rfl
  rw [e]
  refine ⟨?_, ?_, rfl⟩
  · rw [List.getD_eq_getElem?_getD, List.getElem?_set_ne (by omega), ← List.getD_eq_getElem?_getD, hh]
  · rw [List.getD_eq_getElem?_getD, List.getElem?_set_self (by omega)]; rfl

theorem pair_is {prog : Program} {w : World} {cA dA rA : Addr} {oD : Obj} {pc st : Int} {nr : Nat} {rs : List Value} {regs : List Int} {q v : Int} {t : Tok} (hD : CpuD oD rA pc st) (hi : IntsAre rs regs) (hlen : regs.length = 8) (hp : 0 ≤ q ∧ q ≤ 2) (hh : regs.getD (2 * q).toNat 0 = 0) (hv : regs.getD (2 * q + 1).toNat 0 = v) : Spec prog w 63 [.ref cA, .int q t] 1 [(cA, instObj 31 dA), (dA, oD), (rA, listOf rs.toArray nr)] (fun need' r => need' = [(cA, instObj 31 dA), (dA, oD), (rA, listOf rs.toArray nr)] ∧ ∃ t', r = .int v t') := by
  k_with_none
  k_with "ne" => (first | assumption | exact Ne.symm (by assumption) | exact ndp nd 0 1 rfl | exact nds nd 0 1 rfl | exact ndp nd 0 2 rfl | exact nds nd 0 2 rfl | exact ndp nd 1 2 rfl | exact nds nd 1 2 rfl |  (refine neN ?_; (try dsimp only); omega))
  k_with "getAttr ref" => k_dflt (((with_reducible show wpAny _ _ (getAttr (Value.ref _) (PySem.Str.ofString "r") _) _ _ _); refine cpu_r (by k_asm) (by k_asm) (by k_asm) (by k_mem) (by k_mem) (by assumption) ?_; k_whole))
  k_with "binaryOp BitAnd int int" => (first | refine and_low16 (by omega) (by omega) ?_ | refine and_low8 (by omega) (by omega) ?_ | (with_reducible refine and_mod8 ?_))
  k_with "binaryOp BitOr int int" => (refine or_of (by first | assumption | rfl) ?_)
  k_with "binaryOp LShift int int" => (refine shl_of (by first | assumption | rfl) ?_)
  k_with "binaryOp RShift int int" => (refine shr_low (by omega) (by omega) ?_)
  k_dflt (refine' spec_of ?k6 ?k7 ?k9 ?kB ?c2 ?c3 ?c4 ?c5 ?c6 ?_; (case k6 => k_is); (case k7 => k_is); (case k9 => exact fun s => BindsTo.of_eq rfl); (case kB => exact locs rfl); (case c2 => exact rfl); (case c3 => exact rfl); (case c4 => exact rfl); (case c5 => decide); (case c6 => decide); k_whole)
  intro p loose mean mg mb dp un gd outer A₁ base g L h₁ s tk D9 hD9 F N B X T hd hu
  (try dsimp only)
  (try k_fold)
  k_steps
  all_goals first | (exfalso; omega) | exact hD9 (by assumption) (by assumption) ⟨rfl, _, congrArg (fun z => Value.int z _) hv⟩

theorem lead_is {prog : Program} {w : World} {cA dA rA : Addr} {oD : Obj} {pc st : Int} {nr : Nat} {rs : List Value} {regs : List Int} {q v : Int} {x : Int} {t u : Tok} (hD : CpuD oD rA pc st) (hi : IntsAre rs regs) (hlen : regs.length = 8) (hp : 0 ≤ q ∧ q ≤ 2) (hh : regs.getD (2 * q).toNat 0 = 0) (hv : regs.getD (2 * q + 1).toNat 0 = v) (nd : [cA, dA, rA].Nodup) (hl : 0 ≤ v + x ∧ v + x < 256) : Spec prog w 289 [.ref cA, .int q t, .int x u] 2 [(cA, instObj 31 dA), (dA, oD), (rA, listOf rs.toArray nr)] (fun need' r => ∃ rs' u', need' = [(cA, instObj 31 dA), (dA, oD), (rA, listOf rs'.toArray nr)] ∧ r = .int (v + x) u' ∧ IntsAre rs' (regs.set (2 * q + 1).toNat (v + x))) := by
  k_with_none
  k_with "ne" => (first | assumption | exact Ne.symm (by assumption) | exact ndp nd 0 1 rfl | exact nds nd 0 1 rfl | exact ndp nd 0 2 rfl | exact nds nd 0 2 rfl | exact ndp nd 1 2 rfl | exact nds nd 1 2 rfl |  (refine neN ?_; (try dsimp only); omega))
  k_with "getAttr ref" => k_dflt (((with_reducible show wpAny _ _ (getAttr (Value.ref _) (PySem.Str.ofString "r") _) _ _ _); refine cpu_r (by k_asm) (by k_asm) (by k_asm) (by k_mem) (by k_mem) (by assumption) ?_; k_whole))
  k_with "binaryOp BitAnd int int" => (first | refine and_low16 (by omega) (by omega) ?_ | refine and_low8 (by omega) (by omega) ?_ | (with_reducible refine and_mod8 ?_))
  k_with "binaryOp BitOr int int" => (refine or_of (by first | assumption | rfl) ?_)
  k_with "binaryOp LShift int int" => (refine shl_of (by first | assumption | rfl) ?_)
  k_with "binaryOp RShift int int" => (refine shr_low (by omega) (by omega) ?_)
  k_dflt (refine' spec_of ?k6 ?k7 ?k9 ?kB ?c2 ?c3 ?c4 ?c5 ?c6 ?_; (case k6 => k_is); (case k7 => k_is); (case k9 => exact fun s => BindsTo.of_eq rfl); (case kB => exact locs rfl); (case c2 => exact rfl); (case c3 => exact rfl); (case c4 => exact rfl); (case c5 => decide); (case c6 => decide); k_whole)
  intro p loose mean mg mb dp un gd outer A₁ base g L h₁ s tk D9 hD9 F N B X T hd hu
  (try dsimp only)
  (try k_fold)
  k_steps
  k_dflt (refine' use_r (pair_is ?kcz1 ?kiz1 ?klz1 ?kqz1 ?khz1 ?kvz1) ?k1z1 ?k2z1 ?k3z1 ?k4z1 ?k5z1 ?kKz1 ?kPz1 ?kSz1 ?kdz1 ?kuz1 ?_; (case kcz1 => exact hD); (case k1z1 => k_asm); (case k2z1 => k_asm); (case k3z1 => k_asm); (case k4z1 => k_asm); (case k5z1 => k_asm); (case kKz1 => exact rfl); (case kPz1 => repeat' (first | exact Pick.nil | (refine' Pick.cons ?_ ?_) | exact Take.head | (refine' Take.tail ?_))); (case kSz1 => exact nd); (case kdz1 => first | omega | (dsimp only [ktrTop, Around.deeper]; omega)); (case kuz1 => first | omega | (dsimp only [ktrTop, Around.deeper]; omega)); (case kiz1 => l_ints); (case klz1 => exact hlen); (case kqz1 => exact hp); (case khz1 => exact hh); (case kvz1 => exact hv); intro t9 h9 tk9 F9 N9; (try dsimp only [List.nil_append, List.cons_append] at N9); (try dsimp only); (try k_sweep); (try k_fold))
  k_steps
  k_dflt (refine wpAny_call ?_; (refine' code_def ?k1e2 ?k2e2 ?k3e2 ?k4e2 ?k5e2 ?kAe2 ?kFe2 ?kKe2 ?k6e2 ?k7e2 ?k8e2 ?k9e2 ?kBe2 ?_ ?c2e2 ?c3e2 ?c4e2 ?c5e2; (case kAe2 => exact rfl); (case kFe2 => exact rfl); (case kKe2 => exact rfl); (case k1e2 => k_asm); (case k2e2 => k_asm); (case k3e2 => k_asm); (case k4e2 => k_asm); (case k5e2 => k_asm); (case k6e2 => k_is); (case k7e2 => k_is); (case k8e2 => first | ((try simp only [depth_deeper, depth_in1]); omega) | ktr_room); (case k9e2 => exact BindsTo.of_eq rfl); (case c5e2 => decide); (case kBe2 => exact locs rfl); (case c2e2 => exact rfl); (case c3e2 => exact rfl); (case c4e2 => exact rfl); k_whole; intro g' L' h' FG' F' N' B' X' T'; (try dsimp only); (try k_lift B'); (try k_fold)))
  k_steps
  · exfalso; omega
  · k_dflt (refine' use_r (pair_is ?kcz3 ?kiz3 ?klz3 ?kqz3 ?khz3 ?kvz3) ?k1z3 ?k2z3 ?k3z3 ?k4z3 ?k5z3 ?kKz3 ?kPz3 ?kSz3 ?kdz3 ?kuz3 ?_; (case kcz3 => exact hD); (case k1z3 => k_asm); (case k2z3 => k_asm); (case k3z3 => k_asm); (case k4z3 => k_asm); (case k5z3 => k_asm); (case kKz3 => exact rfl); (case kPz3 => repeat' (first | exact Pick.nil | (refine' Pick.cons ?_ ?_) | exact Take.head | (refine' Take.tail ?_))); (case kSz3 => exact nd); (case kdz3 => first | omega | (dsimp only [ktrTop, Around.deeper]; omega)); (case kuz3 => first | omega | (dsimp only [ktrTop, Around.deeper]; omega)); (case kiz3 => l_ints); (case klz3 => (simp only [List.length_set]; exact hlen)); (case kqz3 => exact hp); (case khz3 => exact (set_two hp hlen hh).1); (case kvz3 => exact (set_two hp hlen hh).2.1); intro t9 h9 tk9 F9 N9; (try dsimp only [List.nil_append, List.cons_append] at N9); (try dsimp only); (try k_sweep); (try k_fold))
    k_steps
    rename (IntsAre _ (List.set (List.set _ _ _) _ _)) => I9
    rw [(set_two hp hlen hh).2.2] at I9
    exact hD9 (by assumption) (by assumption) ⟨_, _, rfl, rfl, I9⟩
end Mine
end

section
namespace Mine
theorem fresh_N7 : True ∧ True := by
  w_top off
  k_with_none
  first | (walk1 <;> trivial) | exact ⟨trivial, trivial⟩
end Mine
open PySem PySem.W PyProof.Rows PySem.Spec PySem.Calls
set_option Elab.async false
set_option maxRecDepth 100000
set_option maxHeartbeats 8000000
namespace Mine
set_option pp.maxSteps 20000
set_option pp.deepTerms false
set_option pp.deepTerms.threshold 4
local macro_rules | `(tactic| k_ne) => `(tactic| k_extra "ne")
local macro_rules | `(tactic| walk_at "getAttr ref") => `(tactic| (k_here; k_extra "getAttr ref"))
local macro_rules | `(tactic| walk_at "binaryOp BitAnd int int") => `(tactic| (k_here; k_extra "binaryOp BitAnd int int"))
local macro_rules | `(tactic| walk_at "binaryOp BitOr int int") => `(tactic| (k_here; k_extra "binaryOp BitOr int int"))
local macro_rules | `(tactic| walk_at "binaryOp Sub int int") => `(tactic| (k_here; k_extra "binaryOp Sub int int"))
local macro_rules | `(tactic| walk_at "subscriptTail") => `(tactic| (k_here; k_extra "subscriptTail"))

theorem pair0_is {prog : Program} {w : World} {cA dA rA : Addr} {oD : Obj} {pc st : Int} {nr : Nat} {rs : List Value} {c d e h l f a : Int} {t : Tok} (hD : CpuD oD rA pc st) (hi : IntsAre rs [0, c, d, e, h, l, f, a]) : Spec prog w 63 [.ref cA, .int 0 t] 1 [(cA, instObj 31 dA), (dA, oD), (rA, listOf rs.toArray nr)] (fun need' r => need' = [(cA, instObj 31 dA), (dA, oD), (rA, listOf rs.toArray nr)] ∧ ∃ t', r = .int c t') :=
  pair_is (q := 0) hD hi rfl (by decide) rfl rfl
theorem lead0_is {prog : Program} {w : World} {cA dA rA : Addr} {oD : Obj} {pc st : Int} {nr : Nat} {rs : List Value} {c d e h l f a x : Int} {t u : Tok} (hD : CpuD oD rA pc st) (nd : [cA, dA, rA].Nodup) (hi : IntsAre rs [0, c, d, e, h, l, f, a]) (hl : 0 ≤ c + x ∧ c + x < 256) : Spec prog w 289 [.ref cA, .int 0 t, .int x u] 2 [(cA, instObj 31 dA), (dA, oD), (rA, listOf rs.toArray nr)]
   (fun need' r => ∃ rs' u', need' = [(cA, instObj 31 dA), (dA, oD), (rA, listOf rs'.toArray nr)] ∧ r = .int (c + x) u' ∧ IntsAre rs' [0, c + x, d, e, h, l, f, a]) :=
  lead_is (q := 0) (v := c) hD hi rfl (by decide) rfl rfl nd hl

theorem pair1_is {prog : Program} {w : World} {cA dA rA : Addr} {oD : Obj} {pc st : Int} {nr : Nat} {rs : List Value} {b c e h l f a : Int} {t : Tok} (hD : CpuD oD rA pc st) (hi : IntsAre rs [b, c, 0, e, h, l, f, a]) : Spec prog w 63 [.ref cA, .int 1 t] 1 [(cA, instObj 31 dA), (dA, oD), (rA, listOf rs.toArray nr)] (fun need' r => need' = [(cA, instObj 31 dA), (dA, oD), (rA, listOf rs.toArray nr)] ∧ ∃ t', r = .int e t') :=
  pair_is (q := 1) hD hi rfl (by decide) rfl rfl
theorem lead1_is {prog : Program} {w : World} {cA dA rA : Addr} {oD : Obj} {pc st : Int} {nr : Nat} {rs : List Value} {b c e h l f a x : Int} {t u : Tok} (hD : CpuD oD rA pc st) (nd : [cA, dA, rA].Nodup) (hi : IntsAre rs [b, c, 0, e, h, l, f, a]) (hl : 0 ≤ e + x ∧ e + x < 256) : Spec prog w 289 [.ref cA, .int 1 t, .int x u] 2 [(cA, instObj 31 dA), (dA, oD), (rA, listOf rs.toArray nr)]
   (fun need' r => ∃ rs' u', need' = [(cA, instObj 31 dA), (dA, oD), (rA, listOf rs'.toArray nr)] ∧ r = .int (e + x) u' ∧ IntsAre rs' [b, c, 0, e + x, h, l, f, a]) :=
  lead_is (q := 1) (v := e) hD hi rfl (by decide) rfl rfl nd hl

theorem pair2_is {prog : Program} {w : World} {cA dA rA : Addr} {oD : Obj} {pc st : Int} {nr : Nat} {rs : List Value} {b c d e l f a : Int} {t : Tok} (hD : CpuD oD rA pc st) (hi : IntsAre rs [b, c, d, e, 0, l, f, a]) : Spec prog w 63 [.ref cA, .int 2 t] 1 [(cA, instObj 31 dA), (dA, oD), (rA, listOf rs.toArray nr)] (fun need' r => need' = [(cA, instObj 31 dA), (dA, oD), (rA, listOf rs.toArray nr)] ∧ ∃ t', r = .int l t') :=
  pair_is (q := 2) hD hi rfl (by decide) rfl rfl
theorem lead2_is {prog : Program} {w : World} {cA dA rA : Addr} {oD : Obj} {pc st : Int} {nr : Nat} {rs : List Value} {b c d e l f a x : Int} {t u : Tok} (hD : CpuD oD rA pc st) (nd : [cA, dA, rA].Nodup) (hi : IntsAre rs [b, c, d, e, 0, l, f, a]) (hl : 0 ≤ l + x ∧ l + x < 256) : Spec prog w 289 [.ref cA, .int 2 t, .int x u] 2 [(cA, instObj 31 dA), (dA, oD), (rA, listOf rs.toArray nr)]
   (fun need' r => ∃ rs' u', need' = [(cA, instObj 31 dA), (dA, oD), (rA, listOf rs'.toArray nr)] ∧ r = .int (l + x) u' ∧ IntsAre rs' [b, c, d, e, 0, l + x, f, a]) :=
  lead_is (q := 2) (v := l) hD hi rfl (by decide) rfl rfl nd hl

theorem nd_front {a b c : Addr} {l : List Addr} (h : (a :: b :: c :: l).Nodup) : [a, b, c].Nodup := List.Nodup.sublist (List.Sublist.cons_cons _ (List.Sublist.cons_cons _ (List.Sublist.cons_cons _ (List.nil_sublist _)))) h
/-- behind a round of move_one -/
def MoveP (cA dA rA mA : Addr) (oD : Obj) (nr nm : Nat) (c e l f a x : Int) (mem : List Int) (need' : List (Addr × Obj)) (r : Value) : Prop :=
  ∃ rs' vs' f', need' = [(cA, instObj 31 dA), (dA, oD), (rA, listOf rs'.toArray nr), (mA, listOf vs'.toArray nm)] ∧ r = .bool ((c + -1) != 0) ∧ IntsAre rs' [0, c + -1, 0, e + x, 0, l + x, f', a] ∧ IntsAre vs' (mem.set e.toNat (mem.getD l.toNat 0)) ∧ 0 ≤ f' ∧ f' < 256 ∧ Builtin.bitAnd f' 193 = Builtin.bitAnd f 193 ∧ (c + -1 = 0 → Builtin.bitAnd f' 215 = Builtin.bitAnd f 193)
theorem move_one_is {prog : Program} {w : World} {cA dA rA mA : Addr} {oD : Obj} {pc st : Int} {nr nm : Nat} {rs vs : List Value} {mem : List Int} {u : Tok} {c e l f a x : Int} (nd : [cA, dA, rA, mA].Nodup) (hD : CpuD oD rA pc st) (hr : IntsAre rs [0, c, 0, e, 0, l, f, a]) (hi : IntsAre vs mem) (hlen : mem.length = 128)
    (hl : 0 ≤ l ∧ l < 128) (he : 0 ≤ e ∧ e < 128) (hc : 1 ≤ c ∧ c < 128) (hlx : 0 ≤ l + x ∧ l + x < 256) (hex : 0 ≤ e + x ∧ e + x < 256) (hv0 : 0 ≤ mem.getD l.toNat 0) (hv1 : mem.getD l.toNat 0 < 256) (hf0 : 0 ≤ f) (hf1 : f < 256) :
    Spec prog w 296 [.ref cA, .ref mA, .int x u] 3 [(cA, instObj 31 dA), (dA, oD), (rA, listOf rs.toArray nr), (mA, listOf vs.toArray nm)] (MoveP cA dA rA mA oD nr nm c e l f a x mem) := by
  have ndc := nd_front nd
  k_with_none
  k_with "ne" => (first | assumption | exact Ne.symm (by assumption) | exact ndp nd 0 1 rfl | exact nds nd 0 1 rfl | exact ndp nd 0 2 rfl | exact nds nd 0 2 rfl | exact ndp nd 0 3 rfl | exact nds nd 0 3 rfl | exact ndp nd 1 2 rfl | exact nds nd 1 2 rfl | exact ndp nd 1 3 rfl | exact nds nd 1 3 rfl | exact ndp nd 2 3 rfl | exact nds nd 2 3 rfl |  (refine neN ?_; (try dsimp only); omega))
  k_with "getAttr ref" => k_dflt (((with_reducible show wpAny _ _ (getAttr (Value.ref _) (PySem.Str.ofString "r") _) _ _ _); refine cpu_r (by k_asm) (by k_asm) (by k_asm) (by k_mem) (by k_mem) (by assumption) ?_; k_whole))
  k_with "binaryOp BitAnd int int" => (first | refine and_low16 (by omega) (by omega) ?_ | refine and_low8 (by omega) (by omega) ?_ | (with_reducible refine and_mod8 ?_))
  k_with "binaryOp BitOr int int" => (refine or_of (by first | assumption | rfl) ?_)
  k_with "binaryOp LShift int int" => (refine shl_of (by first | assumption | rfl) ?_)
  k_with "binaryOp RShift int int" => (refine shr_low (by omega) (by omega) ?_)
  k_with "subscriptTail" => ((with_reducible show wpAny _ _ (subscriptTail _ _ (Value.ref _) (Value.int _ _)) _ _ _); first | refine reg0 (by with_unfolding_all is_list) (by k_dflt assumption) ?_ (by with_unfolding_all rfl) | refine reg1 (by with_unfolding_all is_list) (by k_dflt assumption) ?_ (by with_unfolding_all rfl) | refine reg6 (by with_unfolding_all is_list) (by k_dflt assumption) ?_ (by with_unfolding_all rfl) | refine reg7 (by with_unfolding_all is_list) (by k_dflt assumption) ?_ (by with_unfolding_all rfl); intro _)
  k_dflt (refine' spec_of ?k6 ?k7 ?k9 ?kB ?c2 ?c3 ?c4 ?c5 ?c6 ?_; (case k6 => k_is); (case k7 => k_is); (case k9 => exact fun s => BindsTo.of_eq rfl); (case kB => exact locs rfl); (case c2 => exact rfl); (case c3 => exact rfl); (case c4 => exact rfl); (case c5 => decide); (case c6 => decide); k_whole)
  intro p loose mean mg mb dp un gd outer A₁ base g L h₁ s tk D9 hD9 F N B X T hd hu
  (try dsimp only)
  (try k_fold)
  k_steps
  k_dflt (refine' use_r (pair2_is ?kcz1 ?kiz1) ?k1z1 ?k2z1 ?k3z1 ?k4z1 ?k5z1 ?kKz1 ?kPz1 ?kSz1 ?kdz1 ?kuz1 ?_; (case kcz1 => exact hD); (case k1z1 => k_asm); (case k2z1 => k_asm); (case k3z1 => k_asm); (case k4z1 => k_asm); (case k5z1 => k_asm); (case kKz1 => exact rfl); (case kPz1 => repeat' (first | exact Pick.nil | (refine' Pick.cons ?_ ?_) | exact Take.head | (refine' Take.tail ?_))); (case kSz1 => exact nd); (case kdz1 => first | omega | (dsimp only [ktrTop, Around.deeper]; omega)); (case kuz1 => first | omega | (dsimp only [ktrTop, Around.deeper]; omega)); (case kiz1 => assumption); intro t9 h9 tk9 F9 N9; (try dsimp only [List.nil_append, List.cons_append] at N9); (try dsimp only); (try k_sweep); (try k_fold))
  k_steps
  k_dflt (refine' use_r (peek_is ?kiz2 ?klz2 ?k0z2 ?k9z2) ?k1z2 ?k2z2 ?k3z2 ?k4z2 ?k5z2 ?kKz2 ?kPz2 ?kSz2 ?kdz2 ?kuz2 ?_; (case k1z2 => k_asm); (case k2z2 => k_asm); (case k3z2 => k_asm); (case k4z2 => k_asm); (case k5z2 => k_asm); (case kKz2 => exact rfl); (case kPz2 => repeat' (first | exact Pick.nil | (refine' Pick.cons ?_ ?_) | exact Take.head | (refine' Take.tail ?_))); (case kSz2 => exact nd); (case kdz2 => first | omega | (dsimp only [ktrTop, Around.deeper]; omega)); (case kuz2 => first | omega | (dsimp only [ktrTop, Around.deeper]; omega)); (case kiz2 => assumption); (case klz2 => assumption); (case k0z2 => omega); (case k9z2 => omega); intro t9 h9 tk9 F9 N9; (try dsimp only [List.nil_append, List.cons_append] at N9); (try dsimp only); (try k_sweep); (try k_fold))
  k_steps
  k_dflt (refine' use_r (pair1_is ?kcz3 ?kiz3) ?k1z3 ?k2z3 ?k3z3 ?k4z3 ?k5z3 ?kKz3 ?kPz3 ?kSz3 ?kdz3 ?kuz3 ?_; (case kcz3 => exact hD); (case k1z3 => k_asm); (case k2z3 => k_asm); (case k3z3 => k_asm); (case k4z3 => k_asm); (case k5z3 => k_asm); (case kKz3 => exact rfl); (case kPz3 => repeat' (first | exact Pick.nil | (refine' Pick.cons ?_ ?_) | exact Take.head | (refine' Take.tail ?_))); (case kSz3 => exact nd); (case kdz3 => first | omega | (dsimp only [ktrTop, Around.deeper]; omega)); (case kuz3 => first | omega | (dsimp only [ktrTop, Around.deeper]; omega)); (case kiz3 => assumption); intro t9 h9 tk9 F9 N9; (try dsimp only [List.nil_append, List.cons_append] at N9); (try dsimp only); (try k_sweep); (try k_fold))
  k_steps
  k_dflt (refine' use_u (poke_is ?kiz4 ?klz4 ?k0z4 ?k9z4 ?koz4 ?kqz4) ?k1z4 ?k2z4 ?k3z4 ?k4z4 ?k5z4 ?kKz4 ?kUz4 ?kdz4 ?kuz4 ?_; (case k1z4 => k_asm); (case k2z4 => k_asm); (case k3z4 => k_asm); (case k4z4 => k_asm); (case k5z4 => k_asm); (case kKz4 => exact rfl); (case kUz4 => k_updF); (case kdz4 => first | omega | (dsimp only [ktrTop, Around.deeper]; omega)); (case kuz4 => first | omega | (dsimp only [ktrTop, Around.deeper]; omega)); (case kiz4 => assumption); (case klz4 => assumption); (case k0z4 => omega); (case k9z4 => omega); (case koz4 => omega); (case kqz4 => omega); intro vs9 h9 tk9 F9 N9 I9; (try dsimp only at N9); (try dsimp only); (try k_sweep); (try k_fold))
  k_steps
  k_dflt (refine' use_2 (lead2_is ?kcz5 ?knz5 ?kiz5 ?klz5) ?k1z5 ?k2z5 ?k3z5 ?k4z5 ?k5z5 ?kKz5 ?kPz5 ?kSz5 ?kdz5 ?kuz5 ?_; (case kcz5 => exact hD); (case k1z5 => k_asm); (case k2z5 => k_asm); (case k3z5 => k_asm); (case k4z5 => k_asm); (case k5z5 => k_asm); (case kKz5 => exact rfl); (case kPz5 => repeat' (first | exact Pick.nil | (refine' Pick.cons ?_ ?_) | exact Take.head | (refine' Take.tail ?_))); (case kSz5 => exact nd); (case kdz5 => first | omega | (dsimp only [ktrTop, Around.deeper]; omega)); (case kuz5 => first | omega | (dsimp only [ktrTop, Around.deeper]; omega)); (case knz5 => exact ndc); (case kiz5 => assumption); (case klz5 => omega); intro rs9 t9 h9 tk9 F9 N9 I9; (try dsimp only [List.nil_append, List.cons_append] at N9); (try dsimp only); (try k_sweep); (try k_fold))
  k_steps
  k_dflt (refine' use_2 (lead1_is ?kcz6 ?knz6 ?kiz6 ?klz6) ?k1z6 ?k2z6 ?k3z6 ?k4z6 ?k5z6 ?kKz6 ?kPz6 ?kSz6 ?kdz6 ?kuz6 ?_; (case kcz6 => exact hD); (case k1z6 => k_asm); (case k2z6 => k_asm); (case k3z6 => k_asm); (case k4z6 => k_asm); (case k5z6 => k_asm); (case kKz6 => exact rfl); (case kPz6 => repeat' (first | exact Pick.nil | (refine' Pick.cons ?_ ?_) | exact Take.head | (refine' Take.tail ?_))); (case kSz6 => exact nd); (case kdz6 => first | omega | (dsimp only [ktrTop, Around.deeper]; omega)); (case kuz6 => first | omega | (dsimp only [ktrTop, Around.deeper]; omega)); (case knz6 => exact ndc); (case kiz6 => assumption); (case klz6 => omega); intro rs9 t9 h9 tk9 F9 N9 I9; (try dsimp only [List.nil_append, List.cons_append] at N9); (try dsimp only); (try k_sweep); (try k_fold))
  k_steps
  k_dflt (refine' use_2 (lead0_is ?kcz7 ?knz7 ?kiz7 ?klz7) ?k1z7 ?k2z7 ?k3z7 ?k4z7 ?k5z7 ?kKz7 ?kPz7 ?kSz7 ?kdz7 ?kuz7 ?_; (case kcz7 => exact hD); (case k1z7 => k_asm); (case k2z7 => k_asm); (case k3z7 => k_asm); (case k4z7 => k_asm); (case k5z7 => k_asm); (case kKz7 => exact rfl); (case kPz7 => repeat' (first | exact Pick.nil | (refine' Pick.cons ?_ ?_) | exact Take.head | (refine' Take.tail ?_))); (case kSz7 => exact nd); (case kdz7 => first | omega | (dsimp only [ktrTop, Around.deeper]; omega)); (case kuz7 => first | omega | (dsimp only [ktrTop, Around.deeper]; omega)); (case knz7 => exact ndc); (case kiz7 => assumption); (case klz7 => omega); intro rs9 t9 h9 tk9 F9 N9 I9; (try dsimp only [List.nil_append, List.cons_append] at N9); (try dsimp only); (try k_sweep); (try k_fold))
  k_steps
  k_dflt (refine' use_x (move_flags_is ?k0z8 ?k9z8) ?k1z8 ?k2z8 ?k3z8 ?k4z8 ?k5z8 ?kKz8 ?kPz8 ?kSz8 ?kdz8 ?kuz8 ?_; (case k1z8 => k_asm); (case k2z8 => k_asm); (case k3z8 => k_asm); (case k4z8 => k_asm); (case k5z8 => k_asm); (case kKz8 => exact rfl); (case kPz8 => repeat' (first | exact Pick.nil | (refine' Pick.cons ?_ ?_) | exact Take.head | (refine' Take.tail ?_))); (case kSz8 => exact nd); (case kdz8 => first | omega | (dsimp only [ktrTop, Around.deeper]; omega)); (case kuz8 => first | omega | (dsimp only [ktrTop, Around.deeper]; omega)); (case k0z8 => assumption); (case k9z8 => assumption); intro x9 t9 h9 tk9 F9 N9 I9; (try dsimp only [List.nil_append, List.cons_append] at N9); (try dsimp only); (try k_sweep); (try k_fold))
  k_steps
  all_goals exact hD9 (by assumption) (by assumption) ⟨_, _, _, rfl, rfl, (by assumption), (by assumption), I9.1, I9.2.1, I9.2.2.1, I9.2.2.2⟩

theorem seek_goes {x c a v : Int} (h : Builtin.bitAnd x 64 = if a = v then 64 else 0) (hc : c ≠ 0) : ((Builtin.bitAnd x 64 == 0) = true) ↔ (c ≠ 0 ∧ a ≠ v) := by
  rw [h]
  by_cases q : a = v
  · simp [q]
  · simp [q, hc]
theorem seek_ends {c : Int} {P : Prop} (hc : c = 0) : ((c != 0) = true) ↔ (c ≠ 0 ∧ P) := by
  subst hc
  simp
def SeekP (cA dA rA mA : Addr) (oD : Obj) (nr nm : Nat) (c d e l f a x : Int) (vs : List Value) (mem : List Int) (need' : List (Addr × Obj)) (r : Value) : Prop :=
  ∃ rs' f' go, need' = [(cA, instObj 31 dA), (dA, oD), (rA, listOf rs'.toArray nr), (mA, listOf vs.toArray nm)] ∧ r = .bool go ∧ IntsAre rs' [0, c + -1, d, e, 0, l + x, f', a] ∧ (go = true ↔ (c + -1 ≠ 0 ∧ a ≠ mem.getD l.toNat 0)) ∧ Builtin.bitAnd f' 215 = seekT a (mem.getD l.toNat 0) (c + -1) f ∧ f' % 2 = f % 2
theorem seek_one_is {prog : Program} {w : World} {cA dA rA mA : Addr} {oD : Obj} {pc st : Int} {nr nm : Nat} {rs vs : List Value} {mem : List Int} {u : Tok} {c d e l f a x : Int} (nd : [cA, dA, rA, mA].Nodup) (hD : CpuD oD rA pc st) (hr : IntsAre rs [0, c, d, e, 0, l, f, a]) (hi : IntsAre vs mem) (hlen : mem.length = 128)
    (hl : 0 ≤ l ∧ l < 128) (hc : 1 ≤ c ∧ c < 128) (hlx : 0 ≤ l + x ∧ l + x < 256) (hv : 0 ≤ mem.getD l.toNat 0 ∧ mem.getD l.toNat 0 < 256) (ha : 0 ≤ a ∧ a < 256) :
    Spec prog w 303 [.ref cA, .ref mA, .int x u] 5 [(cA, instObj 31 dA), (dA, oD), (rA, listOf rs.toArray nr), (mA, listOf vs.toArray nm)] (SeekP cA dA rA mA oD nr nm c d e l f a x vs mem) := by
  have ndc := nd_front nd
  k_with_none
  k_with "ne" => (first | assumption | exact Ne.symm (by assumption) | exact ndp nd 0 1 rfl | exact nds nd 0 1 rfl | exact ndp nd 0 2 rfl | exact nds nd 0 2 rfl | exact ndp nd 0 3 rfl | exact nds nd 0 3 rfl | exact ndp nd 1 2 rfl | exact nds nd 1 2 rfl | exact ndp nd 1 3 rfl | exact nds nd 1 3 rfl | exact ndp nd 2 3 rfl | exact nds nd 2 3 rfl |  (refine neN ?_; (try dsimp only); omega))
  k_with "getAttr ref" => k_dflt (((with_reducible show wpAny _ _ (getAttr (Value.ref _) (PySem.Str.ofString "r") _) _ _ _); refine cpu_r (by k_asm) (by k_asm) (by k_asm) (by k_mem) (by k_mem) (by assumption) ?_; k_whole))
  k_with "binaryOp BitAnd int int" => (first | refine and_low16 (by omega) (by omega) ?_ | refine and_low8 (by omega) (by omega) ?_ | (with_reducible refine and_mod8 ?_))
  k_with "binaryOp BitOr int int" => (refine or_of (by first | assumption | rfl) ?_)
  k_with "binaryOp LShift int int" => (refine shl_of (by first | assumption | rfl) ?_)
  k_with "binaryOp RShift int int" => (refine shr_low (by omega) (by omega) ?_)
  k_with "subscriptTail" => ((with_reducible show wpAny _ _ (subscriptTail _ _ (Value.ref _) (Value.int _ _)) _ _ _); first | refine reg0 (by with_unfolding_all is_list) (by k_dflt assumption) ?_ (by with_unfolding_all rfl) | refine reg1 (by with_unfolding_all is_list) (by k_dflt assumption) ?_ (by with_unfolding_all rfl) | refine reg6 (by with_unfolding_all is_list) (by k_dflt assumption) ?_ (by with_unfolding_all rfl) | refine reg7 (by with_unfolding_all is_list) (by k_dflt assumption) ?_ (by with_unfolding_all rfl); intro _)
  k_dflt (refine' spec_of ?k6 ?k7 ?k9 ?kB ?c2 ?c3 ?c4 ?c5 ?c6 ?_; (case k6 => k_is); (case k7 => k_is); (case k9 => exact fun s => BindsTo.of_eq rfl); (case kB => exact locs rfl); (case c2 => exact rfl); (case c3 => exact rfl); (case c4 => exact rfl); (case c5 => decide); (case c6 => decide); k_whole)
  intro p loose mean mg mb dp un gd outer A₁ base g L h₁ s tk D9 hD9 F N B X T hd hu
  (try dsimp only)
  (try k_fold)
  k_steps
  k_dflt (refine' use_r (pair2_is ?kcz9 ?kiz9) ?k1z9 ?k2z9 ?k3z9 ?k4z9 ?k5z9 ?kKz9 ?kPz9 ?kSz9 ?kdz9 ?kuz9 ?_; (case kcz9 => exact hD); (case k1z9 => k_asm); (case k2z9 => k_asm); (case k3z9 => k_asm); (case k4z9 => k_asm); (case k5z9 => k_asm); (case kKz9 => exact rfl); (case kPz9 => repeat' (first | exact Pick.nil | (refine' Pick.cons ?_ ?_) | exact Take.head | (refine' Take.tail ?_))); (case kSz9 => exact nd); (case kdz9 => first | omega | (dsimp only [ktrTop, Around.deeper]; omega)); (case kuz9 => first | omega | (dsimp only [ktrTop, Around.deeper]; omega)); (case kiz9 => assumption); intro t9 h9 tk9 F9 N9; (try dsimp only [List.nil_append, List.cons_append] at N9); (try dsimp only); (try k_sweep); (try k_fold))
  k_steps
  k_dflt (refine' use_r (peek_is ?kiz10 ?klz10 ?k0z10 ?k9z10) ?k1z10 ?k2z10 ?k3z10 ?k4z10 ?k5z10 ?kKz10 ?kPz10 ?kSz10 ?kdz10 ?kuz10 ?_; (case k1z10 => k_asm); (case k2z10 => k_asm); (case k3z10 => k_asm); (case k4z10 => k_asm); (case k5z10 => k_asm); (case kKz10 => exact rfl); (case kPz10 => repeat' (first | exact Pick.nil | (refine' Pick.cons ?_ ?_) | exact Take.head | (refine' Take.tail ?_))); (case kSz10 => exact nd); (case kdz10 => first | omega | (dsimp only [ktrTop, Around.deeper]; omega)); (case kuz10 => first | omega | (dsimp only [ktrTop, Around.deeper]; omega)); (case kiz10 => assumption); (case klz10 => assumption); (case k0z10 => omega); (case k9z10 => omega); intro t9 h9 tk9 F9 N9; (try dsimp only [List.nil_append, List.cons_append] at N9); (try dsimp only); (try k_sweep); (try k_fold))
  k_steps
  k_dflt (refine' use_2 (lead2_is ?kcz11 ?knz11 ?kiz11 ?klz11) ?k1z11 ?k2z11 ?k3z11 ?k4z11 ?k5z11 ?kKz11 ?kPz11 ?kSz11 ?kdz11 ?kuz11 ?_; (case kcz11 => exact hD); (case k1z11 => k_asm); (case k2z11 => k_asm); (case k3z11 => k_asm); (case k4z11 => k_asm); (case k5z11 => k_asm); (case kKz11 => exact rfl); (case kPz11 => repeat' (first | exact Pick.nil | (refine' Pick.cons ?_ ?_) | exact Take.head | (refine' Take.tail ?_))); (case kSz11 => exact nd); (case kdz11 => first | omega | (dsimp only [ktrTop, Around.deeper]; omega)); (case kuz11 => first | omega | (dsimp only [ktrTop, Around.deeper]; omega)); (case knz11 => exact ndc); (case kiz11 => assumption); (case klz11 => omega); intro rs9 t9 h9 tk9 F9 N9 I9; (try dsimp only [List.nil_append, List.cons_append] at N9); (try dsimp only); (try k_sweep); (try k_fold))
  k_steps
  k_dflt (refine' use_2 (lead0_is ?kcz12 ?knz12 ?kiz12 ?klz12) ?k1z12 ?k2z12 ?k3z12 ?k4z12 ?k5z12 ?kKz12 ?kPz12 ?kSz12 ?kdz12 ?kuz12 ?_; (case kcz12 => exact hD); (case k1z12 => k_asm); (case k2z12 => k_asm); (case k3z12 => k_asm); (case k4z12 => k_asm); (case k5z12 => k_asm); (case kKz12 => exact rfl); (case kPz12 => repeat' (first | exact Pick.nil | (refine' Pick.cons ?_ ?_) | exact Take.head | (refine' Take.tail ?_))); (case kSz12 => exact nd); (case kdz12 => first | omega | (dsimp only [ktrTop, Around.deeper]; omega)); (case kuz12 => first | omega | (dsimp only [ktrTop, Around.deeper]; omega)); (case knz12 => exact ndc); (case kiz12 => assumption); (case klz12 => omega); intro rs9 t9 h9 tk9 F9 N9 I9; (try dsimp only [List.nil_append, List.cons_append] at N9); (try dsimp only); (try k_sweep); (try k_fold))
  k_steps
  k_dflt (refine' use_x (seek_flags_is ?k0z13 ?k9z13) ?k1z13 ?k2z13 ?k3z13 ?k4z13 ?k5z13 ?kKz13 ?kPz13 ?kSz13 ?kdz13 ?kuz13 ?_; (case k1z13 => k_asm); (case k2z13 => k_asm); (case k3z13 => k_asm); (case k4z13 => k_asm); (case k5z13 => k_asm); (case kKz13 => exact rfl); (case kPz13 => repeat' (first | exact Pick.nil | (refine' Pick.cons ?_ ?_) | exact Take.head | (refine' Take.tail ?_))); (case kSz13 => exact nd); (case kdz13 => first | omega | (dsimp only [ktrTop, Around.deeper]; omega)); (case kuz13 => first | omega | (dsimp only [ktrTop, Around.deeper]; omega)); (case k0z13 => assumption); (case k9z13 => assumption); intro x9 t9 h9 tk9 F9 N9 I9; (try dsimp only [List.nil_append, List.cons_append] at N9); (try dsimp only); (try k_sweep); (try k_fold))
  k_steps
  all_goals exact hD9 (by assumption) (by assumption) ⟨_, _, _, rfl, rfl, (by assumption), (by first | exact seek_goes I9.2.2.2.1 (by assumption) | exact seek_ends (by assumption)), I9.2.2.1, (by rw [← bitAnd_m1]; exact I9.2.2.2.2)⟩

def TakeP (cA dA rA mA pA pdA iA oA : Addr) (oD : Obj) (nr nm ni : Nat) (b c d e l f a x y : Int) (is : List Value) (mem ins : List Int) (need' : List (Addr × Obj)) (r : Value) : Prop :=
  ∃ rs' vs' oP' f', need' = [(cA, instObj 31 dA), (dA, oD), (rA, listOf rs'.toArray nr), (mA, listOf vs'.toArray nm), (pA, instObj 52 pdA), (pdA, oP'), (iA, listOf is.toArray ni)] ∧ r = .bool ((b - 1) != 0) ∧ IntsAre rs' [b - 1, c, d, e, 0, l + x, f', a] ∧ IntsAre vs' (mem.set l.toNat (ins.getD y.toNat 0)) ∧ PortsD oP' iA oA (y + 1) ∧ (b - 1 = 0 → Builtin.bitAnd f' 192 = 64)
theorem take_one_is {prog : Program} {w : World} {cA dA rA mA : Addr} {oD : Obj} {pc st : Int} {nr nm : Nat} {rs vs : List Value} {mem : List Int} {u : Tok} {pA pdA iA oA : Addr} {oP : Obj} {y : Int} {ni : Nat} {is : List Value} {ins : List Int} {b c d e l f a x : Int} (nd : [cA, dA, rA, mA, pA, pdA, iA].Nodup) (hD : CpuD oD rA pc st) (hP : PortsD oP iA oA y) (hr : IntsAre rs [b, c, d, e, 0, l, f, a]) (hi : IntsAre vs mem) (hlen : mem.length = 128) (hii : IntsAre is ins) (hz : ins.length ≤ 100) (hy0 : 0 ≤ y) (hy1 : y < ins.length)
    (hl : 0 ≤ l ∧ l < 128) (hb : 1 ≤ b ∧ b < 128) (hlx : 0 ≤ l + x ∧ l + x < 256) (hv0 : 0 ≤ ins.getD y.toNat 0) (hv1 : ins.getD y.toNat 0 < 256) :
    Spec prog w 310 [.ref cA, .ref mA, .ref pA, .int x u] 4 [(cA, instObj 31 dA), (dA, oD), (rA, listOf rs.toArray nr), (mA, listOf vs.toArray nm), (pA, instObj 52 pdA), (pdA, oP), (iA, listOf is.toArray ni)] (TakeP cA dA rA mA pA pdA iA oA oD nr nm ni b c d e l f a x y is mem ins) := by
  have ndc := nd_front nd
  have nd2 : [pA, pdA, iA, cA, dA, rA, mA].Nodup := nodup_comm (l₁ := [cA, dA, rA, mA]) nd
  have nd3 : [cA, dA, rA, pA, pdA, iA, mA].Nodup := (List.Perm.append_left [cA, dA, rA] (List.perm_append_comm (l₁ := [mA]) (l₂ := [pA, pdA, iA]))).nodup_iff.mp nd
  k_with_none
  k_with "ne" => (first | assumption | exact Ne.symm (by assumption) | exact ndp nd 0 1 rfl | exact nds nd 0 1 rfl | exact ndp nd 0 2 rfl | exact nds nd 0 2 rfl | exact ndp nd 0 3 rfl | exact nds nd 0 3 rfl | exact ndp nd 0 4 rfl | exact nds nd 0 4 rfl | exact ndp nd 0 5 rfl | exact nds nd 0 5 rfl | exact ndp nd 0 6 rfl | exact nds nd 0 6 rfl | exact ndp nd 1 2 rfl | exact nds nd 1 2 rfl | exact ndp nd 1 3 rfl | exact nds nd 1 3 rfl | exact ndp nd 1 4 rfl | exact nds nd 1 4 rfl | exact ndp nd 1 5 rfl | exact nds nd 1 5 rfl | exact ndp nd 1 6 rfl | exact nds nd 1 6 rfl | exact ndp nd 2 3 rfl | exact nds nd 2 3 rfl | exact ndp nd 2 4 rfl | exact nds nd 2 4 rfl | exact ndp nd 2 5 rfl | exact nds nd 2 5 rfl | exact ndp nd 2 6 rfl | exact nds nd 2 6 rfl | exact ndp nd 3 4 rfl | exact nds nd 3 4 rfl | exact ndp nd 3 5 rfl | exact nds nd 3 5 rfl | exact ndp nd 3 6 rfl | exact nds nd 3 6 rfl | exact ndp nd 4 5 rfl | exact nds nd 4 5 rfl | exact ndp nd 4 6 rfl | exact nds nd 4 6 rfl | exact ndp nd 5 6 rfl | exact nds nd 5 6 rfl |  (refine neN ?_; (try dsimp only); omega))
  k_with "getAttr ref" => k_dflt (((with_reducible show wpAny _ _ (getAttr (Value.ref _) (PySem.Str.ofString "r") _) _ _ _); refine cpu_r (by k_asm) (by k_asm) (by k_asm) (by k_mem) (by k_mem) (by assumption) ?_; k_whole))
  k_with "binaryOp BitAnd int int" => (first | refine and_low16 (by omega) (by omega) ?_ | refine and_low8 (by omega) (by omega) ?_ | (with_reducible refine and_mod8 ?_))
  k_with "binaryOp BitOr int int" => (refine or_of (by first | assumption | rfl) ?_)
  k_with "binaryOp LShift int int" => (refine shl_of (by first | assumption | rfl) ?_)
  k_with "binaryOp RShift int int" => (refine shr_low (by omega) (by omega) ?_)
  k_with "subscriptTail" => ((with_reducible show wpAny _ _ (subscriptTail _ _ (Value.ref _) (Value.int _ _)) _ _ _); first | refine reg0 (by with_unfolding_all is_list) (by k_dflt assumption) ?_ (by with_unfolding_all rfl) | refine reg1 (by with_unfolding_all is_list) (by k_dflt assumption) ?_ (by with_unfolding_all rfl) | refine reg6 (by with_unfolding_all is_list) (by k_dflt assumption) ?_ (by with_unfolding_all rfl) | refine reg7 (by with_unfolding_all is_list) (by k_dflt assumption) ?_ (by with_unfolding_all rfl); intro _)
  k_dflt (refine' spec_of ?k6 ?k7 ?k9 ?kB ?c2 ?c3 ?c4 ?c5 ?c6 ?_; (case k6 => k_is); (case k7 => k_is); (case k9 => exact fun s => BindsTo.of_eq rfl); (case kB => exact locs rfl); (case c2 => exact rfl); (case c3 => exact rfl); (case c4 => exact rfl); (case c5 => decide); (case c6 => decide); k_whole)
  intro p loose mean mg mb dp un gd outer A₁ base g L h₁ s tk D9 hD9 F N B X T hd hu
  (try dsimp only)
  (try k_fold)
  k_steps
  k_dflt (refine' use_2 (port_in_is ?kd1z14 ?kiz14 ?kzz14 ?k0z14 ?k9z14 ?koz14 ?kqz14 ?kn1z14 ?kn2z14 ?kn3z14) ?k1z14 ?k2z14 ?k3z14 ?k4z14 ?k5z14 ?kKz14 ?kPz14 ?kSz14 ?kdz14 ?kuz14 ?_; (case kd1z14 => exact hP); (case k1z14 => k_asm); (case k2z14 => k_asm); (case k3z14 => k_asm); (case k4z14 => k_asm); (case k5z14 => k_asm); (case kKz14 => exact rfl); (case kPz14 => repeat' (first | exact Pick.nil | (refine' Pick.cons ?_ ?_) | exact Take.head | (refine' Take.tail ?_))); (case kSz14 => exact nd); (case kdz14 => first | omega | (dsimp only [ktrTop, Around.deeper]; omega)); (case kuz14 => first | omega | (dsimp only [ktrTop, Around.deeper]; omega)); (case kiz14 => assumption); (case kzz14 => assumption); (case k0z14 => assumption); (case k9z14 => assumption); (case koz14 => assumption); (case kqz14 => assumption); (case kn1z14 => k_ne); (case kn2z14 => k_ne); (case kn3z14 => k_ne); intro oP9 t9 h9 tk9 F9 N9 I9; (try dsimp only [List.nil_append, List.cons_append] at N9); (try dsimp only); (try k_sweep); (try k_fold))
  have hi8 := hi
  k_steps
  k_dflt (refine' use_r (pair2_is ?kcz15 ?kiz15) ?k1z15 ?k2z15 ?k3z15 ?k4z15 ?k5z15 ?kKz15 ?kPz15 ?kSz15 ?kdz15 ?kuz15 ?_; (case kcz15 => exact hD); (case k1z15 => k_asm); (case k2z15 => k_asm); (case k3z15 => k_asm); (case k4z15 => k_asm); (case k5z15 => k_asm); (case kKz15 => exact rfl); (case kPz15 => repeat' (first | exact Pick.nil | (refine' Pick.cons ?_ ?_) | exact Take.head | (refine' Take.tail ?_))); (case kSz15 => exact nd2); (case kdz15 => first | omega | (dsimp only [ktrTop, Around.deeper]; omega)); (case kuz15 => first | omega | (dsimp only [ktrTop, Around.deeper]; omega)); (case kiz15 => assumption); intro t9 h9 tk9 F9 N9; (try dsimp only [List.nil_append, List.cons_append] at N9); (try dsimp only); (try k_sweep); (try k_fold))
  k_steps
  k_dflt (refine' use_u (poke_is ?kiz16 ?klz16 ?k0z16 ?k9z16 ?koz16 ?kqz16) ?k1z16 ?k2z16 ?k3z16 ?k4z16 ?k5z16 ?kKz16 ?kUz16 ?kdz16 ?kuz16 ?_; (case k1z16 => k_asm); (case k2z16 => k_asm); (case k3z16 => k_asm); (case k4z16 => k_asm); (case k5z16 => k_asm); (case kKz16 => exact rfl); (case kUz16 => k_updF); (case kdz16 => first | omega | (dsimp only [ktrTop, Around.deeper]; omega)); (case kuz16 => first | omega | (dsimp only [ktrTop, Around.deeper]; omega)); (case kiz16 => assumption); (case klz16 => assumption); (case k0z16 => omega); (case k9z16 => omega); (case koz16 => omega); (case kqz16 => omega); intro vs9 h9 tk9 F9 N9 I9; (try dsimp only at N9); (try dsimp only); (try k_sweep); (try k_fold))
  k_steps
  k_dflt (refine' use_2 (lead2_is ?kcz17 ?knz17 ?kiz17 ?klz17) ?k1z17 ?k2z17 ?k3z17 ?k4z17 ?k5z17 ?kKz17 ?kPz17 ?kSz17 ?kdz17 ?kuz17 ?_; (case kcz17 => exact hD); (case k1z17 => k_asm); (case k2z17 => k_asm); (case k3z17 => k_asm); (case k4z17 => k_asm); (case k5z17 => k_asm); (case kKz17 => exact rfl); (case kPz17 => repeat' (first | exact Pick.nil | (refine' Pick.cons ?_ ?_) | exact Take.head | (refine' Take.tail ?_))); (case kSz17 => exact nd2); (case kdz17 => first | omega | (dsimp only [ktrTop, Around.deeper]; omega)); (case kuz17 => first | omega | (dsimp only [ktrTop, Around.deeper]; omega)); (case knz17 => exact ndc); (case kiz17 => assumption); (case klz17 => omega); intro rs9 t9 h9 tk9 F9 N9 I9; (try dsimp only [List.nil_append, List.cons_append] at N9); (try dsimp only); (try k_sweep); (try k_fold))
  k_steps
  k_dflt (refine' use_x (port_flags_is) ?k1z18 ?k2z18 ?k3z18 ?k4z18 ?k5z18 ?kKz18 ?kPz18 ?kSz18 ?kdz18 ?kuz18 ?_; (case k1z18 => k_asm); (case k2z18 => k_asm); (case k3z18 => k_asm); (case k4z18 => k_asm); (case k5z18 => k_asm); (case kKz18 => exact rfl); (case kPz18 => repeat' (first | exact Pick.nil | (refine' Pick.cons ?_ ?_) | exact Take.head | (refine' Take.tail ?_))); (case kSz18 => exact nd3); (case kdz18 => first | omega | (dsimp only [ktrTop, Around.deeper]; omega)); (case kuz18 => first | omega | (dsimp only [ktrTop, Around.deeper]; omega)); intro x9 t9 h9 tk9 F9 N9 I9; (try dsimp only [List.nil_append, List.cons_append] at N9); (try dsimp only); (try k_sweep); (try k_fold))
  k_steps
  all_goals exact hD9 (by assumption) (cb_drop (by assumption) (by repeat' (first | exact List.forall_mem_nil _ | (refine' List.forall_mem_cons.mpr ⟨?_, ?_⟩) | k_mem))) ⟨_, _, _, _, rfl, rfl, (by assumption), (by assumption), (by assumption), I9⟩

def SendP (cA dA rA mA pA pdA oA : Addr) (oD oP : Obj) (nr nm k : Nat) (b c d e l f a x : Int) (vs outs : List Value) (mem : List Int) (need' : List (Addr × Obj)) (r : Value) : Prop :=
  ∃ rs' f' tA w₁ w₂, need' = (tA, tupOf c w₁ (mem.getD l.toNat 0) w₂) :: [(cA, instObj 31 dA), (dA, oD), (rA, listOf rs'.toArray nr), (mA, listOf vs.toArray nm), (pA, instObj 52 pdA), (pdA, oP), (oA, listOf (outs.toArray.push (Value.ref tA)) (k + 1))] ∧ r = .bool ((b - 1) != 0) ∧ IntsAre rs' [b - 1, c, d, e, 0, l + x, f', a] ∧ (b - 1 = 0 → Builtin.bitAnd f' 192 = 64) ∧ tA ∉ [cA, dA, rA, mA, pA, pdA, oA]
theorem send_one_is {prog : Program} {w : World} {cA dA rA mA : Addr} {oD : Obj} {pc st : Int} {nr nm : Nat} {rs vs : List Value} {mem : List Int} {u : Tok} {pA pdA oA iA : Addr} {oP : Obj} {y : Int} {k : Nat} {outs : List Value} {b c d e l f a x : Int} (nd : [cA, dA, rA, mA, pA, pdA, oA].Nodup) (hD : CpuD oD rA pc st) (hP : PortsD oP iA oA y) (hr : IntsAre rs [b, c, d, e, 0, l, f, a]) (hi : IntsAre vs mem) (hlen : mem.length = 128) (hz : outs.length ≤ 100)
    (hl : 0 ≤ l ∧ l < 128) (hb : 1 ≤ b ∧ b < 128) (hlx : 0 ≤ l + x ∧ l + x < 256) (hv : 0 ≤ mem.getD l.toNat 0 ∧ mem.getD l.toNat 0 < 256) (hc : 0 ≤ c ∧ c < 256) :
    Spec prog w 317 [.ref cA, .ref mA, .ref pA, .int x u] 4 [(cA, instObj 31 dA), (dA, oD), (rA, listOf rs.toArray nr), (mA, listOf vs.toArray nm), (pA, instObj 52 pdA), (pdA, oP), (oA, listOf outs.toArray k)] (SendP cA dA rA mA pA pdA oA oD oP nr nm k b c d e l f a x vs outs mem) := by
  have ndc := nd_front nd
  have ndp' : [pA, pdA, oA].Nodup := nd.sublist (List.sublist_append_right [cA, dA, rA, mA] _)
  have nd2 : [pA, pdA, oA, cA, dA, rA, mA].Nodup := nodup_comm (l₁ := [cA, dA, rA, mA]) nd
  k_with_none
  k_with "ne" => (first | assumption | exact Ne.symm (by assumption) | exact ndp nd 0 1 rfl | exact nds nd 0 1 rfl | exact ndp nd 0 2 rfl | exact nds nd 0 2 rfl | exact ndp nd 0 3 rfl | exact nds nd 0 3 rfl | exact ndp nd 0 4 rfl | exact nds nd 0 4 rfl | exact ndp nd 0 5 rfl | exact nds nd 0 5 rfl | exact ndp nd 0 6 rfl | exact nds nd 0 6 rfl | exact ndp nd 1 2 rfl | exact nds nd 1 2 rfl | exact ndp nd 1 3 rfl | exact nds nd 1 3 rfl | exact ndp nd 1 4 rfl | exact nds nd 1 4 rfl | exact ndp nd 1 5 rfl | exact nds nd 1 5 rfl | exact ndp nd 1 6 rfl | exact nds nd 1 6 rfl | exact ndp nd 2 3 rfl | exact nds nd 2 3 rfl | exact ndp nd 2 4 rfl | exact nds nd 2 4 rfl | exact ndp nd 2 5 rfl | exact nds nd 2 5 rfl | exact ndp nd 2 6 rfl | exact nds nd 2 6 rfl | exact ndp nd 3 4 rfl | exact nds nd 3 4 rfl | exact ndp nd 3 5 rfl | exact nds nd 3 5 rfl | exact ndp nd 3 6 rfl | exact nds nd 3 6 rfl | exact ndp nd 4 5 rfl | exact nds nd 4 5 rfl | exact ndp nd 4 6 rfl | exact nds nd 4 6 rfl | exact ndp nd 5 6 rfl | exact nds nd 5 6 rfl |  (refine neN ?_; (try dsimp only); omega))
  k_with "getAttr ref" => k_dflt (((with_reducible show wpAny _ _ (getAttr (Value.ref _) (PySem.Str.ofString "r") _) _ _ _); refine cpu_r (by k_asm) (by k_asm) (by k_asm) (by k_mem) (by k_mem) (by assumption) ?_; k_whole))
  k_with "binaryOp BitAnd int int" => (first | refine and_low16 (by omega) (by omega) ?_ | refine and_low8 (by omega) (by omega) ?_ | (with_reducible refine and_mod8 ?_))
  k_with "binaryOp BitOr int int" => (refine or_of (by first | assumption | rfl) ?_)
  k_with "binaryOp LShift int int" => (refine shl_of (by first | assumption | rfl) ?_)
  k_with "binaryOp RShift int int" => (refine shr_low (by omega) (by omega) ?_)
  k_with "subscriptTail" => ((with_reducible show wpAny _ _ (subscriptTail _ _ (Value.ref _) (Value.int _ _)) _ _ _); first | refine reg0 (by with_unfolding_all is_list) (by k_dflt assumption) ?_ (by with_unfolding_all rfl) | refine reg1 (by with_unfolding_all is_list) (by k_dflt assumption) ?_ (by with_unfolding_all rfl) | refine reg6 (by with_unfolding_all is_list) (by k_dflt assumption) ?_ (by with_unfolding_all rfl) | refine reg7 (by with_unfolding_all is_list) (by k_dflt assumption) ?_ (by with_unfolding_all rfl); intro _)
  k_dflt (refine' spec_of ?k6 ?k7 ?k9 ?kB ?c2 ?c3 ?c4 ?c5 ?c6 ?_; (case k6 => k_is); (case k7 => k_is); (case k9 => exact fun s => BindsTo.of_eq rfl); (case kB => exact locs rfl); (case c2 => exact rfl); (case c3 => exact rfl); (case c4 => exact rfl); (case c5 => decide); (case c6 => decide); k_whole)
  intro p loose mean mg mb dp un gd outer A₁ base g L h₁ s tk D9 hD9 F N B X T hd hu
  (try dsimp only)
  (try k_fold)
  k_steps
  k_dflt (refine' use_r (pair2_is ?kcz19 ?kiz19) ?k1z19 ?k2z19 ?k3z19 ?k4z19 ?k5z19 ?kKz19 ?kPz19 ?kSz19 ?kdz19 ?kuz19 ?_; (case kcz19 => exact hD); (case k1z19 => k_asm); (case k2z19 => k_asm); (case k3z19 => k_asm); (case k4z19 => k_asm); (case k5z19 => k_asm); (case kKz19 => exact rfl); (case kPz19 => repeat' (first | exact Pick.nil | (refine' Pick.cons ?_ ?_) | exact Take.head | (refine' Take.tail ?_))); (case kSz19 => exact nd); (case kdz19 => first | omega | (dsimp only [ktrTop, Around.deeper]; omega)); (case kuz19 => first | omega | (dsimp only [ktrTop, Around.deeper]; omega)); (case kiz19 => assumption); intro t9 h9 tk9 F9 N9; (try dsimp only [List.nil_append, List.cons_append] at N9); (try dsimp only); (try k_sweep); (try k_fold))
  k_steps
  k_dflt (refine' use_r (peek_is ?kiz20 ?klz20 ?k0z20 ?k9z20) ?k1z20 ?k2z20 ?k3z20 ?k4z20 ?k5z20 ?kKz20 ?kPz20 ?kSz20 ?kdz20 ?kuz20 ?_; (case k1z20 => k_asm); (case k2z20 => k_asm); (case k3z20 => k_asm); (case k4z20 => k_asm); (case k5z20 => k_asm); (case kKz20 => exact rfl); (case kPz20 => repeat' (first | exact Pick.nil | (refine' Pick.cons ?_ ?_) | exact Take.head | (refine' Take.tail ?_))); (case kSz20 => exact nd); (case kdz20 => first | omega | (dsimp only [ktrTop, Around.deeper]; omega)); (case kuz20 => first | omega | (dsimp only [ktrTop, Around.deeper]; omega)); (case kiz20 => assumption); (case klz20 => assumption); (case k0z20 => omega); (case k9z20 => omega); intro t9 h9 tk9 F9 N9; (try dsimp only [List.nil_append, List.cons_append] at N9); (try dsimp only); (try k_sweep); (try k_fold))
  k_steps
  k_dflt (refine' use_2 (lead2_is ?kcz21 ?knz21 ?kiz21 ?klz21) ?k1z21 ?k2z21 ?k3z21 ?k4z21 ?k5z21 ?kKz21 ?kPz21 ?kSz21 ?kdz21 ?kuz21 ?_; (case kcz21 => exact hD); (case k1z21 => k_asm); (case k2z21 => k_asm); (case k3z21 => k_asm); (case k4z21 => k_asm); (case k5z21 => k_asm); (case kKz21 => exact rfl); (case kPz21 => repeat' (first | exact Pick.nil | (refine' Pick.cons ?_ ?_) | exact Take.head | (refine' Take.tail ?_))); (case kSz21 => exact nd); (case kdz21 => first | omega | (dsimp only [ktrTop, Around.deeper]; omega)); (case kuz21 => first | omega | (dsimp only [ktrTop, Around.deeper]; omega)); (case knz21 => exact ndc); (case kiz21 => assumption); (case klz21 => omega); intro rs9 t9 h9 tk9 F9 N9 I9; (try dsimp only [List.nil_append, List.cons_append] at N9); (try dsimp only); (try k_sweep); (try k_fold))
  k_steps
  k_dflt (refine' use_a (port_out_is ?kd1z22 ?klz22 ?kn1z22 ?kn2z22 ?kn3z22 ?kz1z22 ?kz2z22) ?k1z22 ?k2z22 ?k3z22 ?k4z22 ?k5z22 ?kKz22 ?kPz22 ?kSz22 ?kdz22 ?kuz22 ?_; (case kd1z22 => exact hP); (case k1z22 => k_asm); (case k2z22 => k_asm); (case k3z22 => k_asm); (case k4z22 => k_asm); (case k5z22 => k_asm); (case kKz22 => exact rfl); (case kPz22 => repeat' (first | exact Pick.nil | (refine' Pick.cons ?_ ?_) | exact Take.head | (refine' Take.tail ?_))); (case kSz22 => exact nd); (case kdz22 => first | omega | (dsimp only [ktrTop, Around.deeper]; omega)); (case kuz22 => first | omega | (dsimp only [ktrTop, Around.deeper]; omega)); (case klz22 => assumption); (case kn1z22 => k_ne); (case kn2z22 => k_ne); (case kn3z22 => k_ne); (case kz1z22 => assumption); (case kz2z22 => assumption); intro tA9 y9 z9 h9 tk9 F9 N9 I9; have nd4 := List.nodup_cons.mpr ⟨I9, nd2⟩; have e8 : tA9 ≠ rA := ndp nd4 0 6 rfl; (try dsimp only [List.nil_append, List.cons_append] at N9); (try dsimp only); (try k_sweep); (try k_fold))
  k_steps
  k_dflt (refine' use_r (pair2_is ?kcz23 ?kiz23) ?k1z23 ?k2z23 ?k3z23 ?k4z23 ?k5z23 ?kKz23 ?kPz23 ?kSz23 ?kdz23 ?kuz23 ?_; (case kcz23 => exact hD); (case k1z23 => k_asm); (case k2z23 => k_asm); (case k3z23 => k_asm); (case k4z23 => k_asm); (case k5z23 => k_asm); (case kKz23 => exact rfl); (case kPz23 => repeat' (first | exact Pick.nil | (refine' Pick.cons ?_ ?_) | exact Take.head | (refine' Take.tail ?_))); (case kSz23 => exact nd4); (case kdz23 => first | omega | (dsimp only [ktrTop, Around.deeper]; omega)); (case kuz23 => first | omega | (dsimp only [ktrTop, Around.deeper]; omega)); (case kiz23 => assumption); intro t9 h9 tk9 F9 N9; (try dsimp only [List.nil_append, List.cons_append] at N9); (try dsimp only); (try k_sweep); (try k_fold))
  k_steps
  k_dflt (refine' use_x (port_flags_is) ?k1z24 ?k2z24 ?k3z24 ?k4z24 ?k5z24 ?kKz24 ?kPz24 ?kSz24 ?kdz24 ?kuz24 ?_; (case k1z24 => k_asm); (case k2z24 => k_asm); (case k3z24 => k_asm); (case k4z24 => k_asm); (case k5z24 => k_asm); (case kKz24 => exact rfl); (case kPz24 => repeat' (first | exact Pick.nil | (refine' Pick.cons ?_ ?_) | exact Take.head | (refine' Take.tail ?_))); (case kSz24 => exact nd4); (case kdz24 => first | omega | (dsimp only [ktrTop, Around.deeper]; omega)); (case kuz24 => first | omega | (dsimp only [ktrTop, Around.deeper]; omega)); intro x9 t9 h9 tk9 F9 N9 I8; (try dsimp only [List.nil_append, List.cons_append] at N9); (try dsimp only); (try k_sweep); (try k_fold))
  k_steps
  all_goals exact hD9 (by assumption) (cb_drop (by assumption) (by repeat' (first | exact List.forall_mem_nil _ | (refine' List.forall_mem_cons.mpr ⟨?_, ?_⟩) | k_mem))) ⟨_, _, _, _, _, rfl, rfl, (by assumption), I8, fun h => I9 ((List.perm_append_comm (l₁ := [cA, dA, rA, mA]) (l₂ := [pA, pdA, oA])).mem_iff.mp h)⟩
end Mine
end

section
namespace Mine
theorem fresh_N11 : True ∧ True := by
  w_top off
  k_with_none
  first | (walk1 <;> trivial) | exact ⟨trivial, trivial⟩
end Mine
open PySem PySem.W PyProof.Rows PySem.Spec PySem.Calls
set_option Elab.async false
set_option maxRecDepth 100000
set_option maxHeartbeats 8000000
namespace Mine
set_option pp.maxSteps 20000
set_option pp.deepTerms false
set_option pp.deepTerms.threshold 4
local macro_rules | `(tactic| k_ne) => `(tactic| k_extra "ne")
local macro_rules | `(tactic| walk_at "getAttr ref") => `(tactic| (k_here; k_extra "getAttr ref"))
local macro_rules | `(tactic| walk_at "setAttr ref") => `(tactic| (k_here; k_extra "setAttr ref"))
local macro_rules | `(tactic| walk_at "binaryOp BitAnd int int") => `(tactic| (k_here; k_extra "binaryOp BitAnd int int"))
local macro_rules | `(tactic| walk_at "binaryOp RShift int int") => `(tactic| (k_here; k_extra "binaryOp RShift int int"))
local macro_rules | `(tactic| k_all) => `(tactic| k_extra "all")

theorem Pick.all : ∀ (l : List (Addr × Obj)), Pick l l []
  | [] => .nil
  | _ :: l => .cons .head (Pick.all l)
theorem Take.into {p q : Addr × Obj} {l l' : List (Addr × Obj)} (h : Take p l l') : Take p (q :: l) (q :: l') := .tail h
theorem Pick.behind {q : Addr × Obj} : ∀ (l : List (Addr × Obj)), Pick l (q :: l) [q]
  | [] => .nil
  | _ :: l => .cons (.tail .head) (Pick.behind l)
section
variable {prog : Program} {w : World} {A : Around} {E : Value → Shared → Prop} {s : Shared} {a v : Int} {t u : Tok} {Q : Value → Shared → Prop}
theorem rsh6 (e : a.fdiv 64 = v) (h : Q (.int v s.toks) { s with toks := s.toks + 1 }) : wpAny (model prog w) A (binaryOp .RShift (.int a t) (.int 6 u)) Q E s := by
  subst e; exact rshift_int (by decide) h
theorem rsh3 (h : Q (.int (a.fdiv 8) s.toks) { s with toks := s.toks + 1 }) : wpAny (model prog w) A (binaryOp .RShift (.int a t) (.int 3 u)) Q E s := rshift_int (by decide) h
theorem and7 (e : Builtin.bitAnd a 7 = v) (h : Q (.int v s.toks) { s with toks := s.toks + 1 }) : wpAny (model prog w) A (binaryOp .BitAnd (.int a t) (.int 7 u)) Q E s := by
  subst e; exact and_int h
variable {f : Addr} {vs : List Value} {d : Nat} {need : List (Addr × Obj)} {p : Program} {loose : List Str} {mean : ExcName → Option Value} {mg mb : Str → Option Value} {dp un : Nat} {gd : Option (List Code)} {cn : Str} {cs : Scope} {x : Addr} {ccd : Value} {cl : List (Str × Addr)} {outer : List Env} {A₀ : Around} {base h₀ : Heap} {L : Addr}
  {m : Str → Option Value}
theorem use_all {α β : Type} {Lf : α → β → List (Addr × Obj)} {Vf : α → β → Value} {If : α → β → Prop} (C : Spec prog w f vs d need (fun need' r => ∃ x y, need' = Lf x y ∧ r = Vf x y ∧ If x y))
    (B : Below A₀ base outer h₀) (F : Fr h₀ L s.heap m) (X : (hd.heap_1 w.params).In h₀) (N : News h₀ L s.heap need) (T : Top p loose mean mg mb h₀) (hk : cs.kind = .function)
    (hd : dp + d < recursionLimit) (hu : un + 8 * d < cLine) (ret : ∀ x y h' tk', Fr h₀ L h' m → News h₀ L h' (Lf x y) → If x y → Q (Vf x y) { s with heap := h', toks := tk' }) :
    wpAny (model prog w) (ktrTop dp un gd cn cs L x ccd cl outer) (call (.ref f) vs) Q E s := by
  refine spec_use C B F X N T hk (Pick.all _) (fun q hq => (nomatch hq)) hd hu ?_
  rintro _ _ h' tk' F' N' _ ⟨x, y, rfl, rfl, hi⟩
  exact ret x y h' tk' F' (by rw [List.append_nil] at N'; exact N') hi
end
/-- behind a round: whether it goes on, what else the ledger holds -/
def StepP (cA dA : Addr) (oD : Obj) (Φ : Bool → List (Addr × Obj) → Prop) (need' : List (Addr × Obj)) (r : Value) : Prop :=
  ∃ go rest', need' = (cA, instObj 31 dA) :: (dA, oD) :: rest' ∧ r = .bool go ∧ (∀ p ∈ rest', p.1 ≠ cA) ∧ (∀ p ∈ rest', p.1 ≠ dA) ∧ Φ go rest'
def BlockP (cA dA rA : Addr) (st : Int) (Φ : Bool → List (Addr × Obj) → Prop) (need' : List (Addr × Obj)) (r : Value) : Prop :=
  (∃ oD' rest' t, need' = (cA, instObj 31 dA) :: (dA, oD') :: rest' ∧ r = .int 21 t ∧ CpuD oD' rA 100 st ∧ (∀ p ∈ rest', p.1 ≠ cA) ∧ (∀ p ∈ rest', p.1 ≠ dA) ∧ Φ true rest') ∨
  ∃ oD' rest' t, need' = (cA, instObj 31 dA) :: (dA, oD') :: rest' ∧ r = .int 16 t ∧ CpuD oD' rA 102 st ∧ (∀ p ∈ rest', p.1 ≠ cA) ∧ (∀ p ∈ rest', p.1 ≠ dA) ∧ Φ false rest'

theorem block0_is {prog : Program} {w : World} {cA dA rA mA : Addr} {oD : Obj} {st y x : Int} {d : Nat} {need : List (Addr × Obj)} {Φ : Bool → List (Addr × Obj) → Prop} {t₁ t₂ : Tok} {pv : Value} (hne : cA ≠ dA) (hD : CpuD oD rA 102 st) (hy : y = 6 ∧ x = 1 ∨ y = 7 ∧ x = -1)
    (C : ∀ t, Spec prog w 296 [.ref cA, .ref mA, .int x t] d need (StepP cA dA oD Φ)) : Spec prog w 282 [.ref cA, .ref mA, pv, .int y t₁, .int 0 t₂] (d + 1) need (BlockP cA dA rA st Φ) := by
  have hne' := hne.symm
  rcases hy with ⟨rfl, rfl⟩ | ⟨rfl, rfl⟩
  · k_with_none
    k_with "ne" => (first | assumption | exact Ne.symm (by assumption) | (refine neN ?_; (try dsimp only); omega))
    k_with "all" => (repeat' (first | exact List.forall_mem_nil _ | assumption | (refine' List.forall_mem_cons.mpr ⟨?_, ?_⟩) | k_ne))
    k_with "getAttr ref" => k_dflt (((with_reducible show wpAny _ _ (getAttr (Value.ref _) (PySem.Str.ofString "pc") _) _ _ _); refine cpu_pc (by k_asm) (by k_asm) (by k_asm) (by k_mem) (by k_mem) (by assumption) ?_; k_whole); intro _)
    k_with "setAttr ref" => k_dflt ((with_reducible show wpAny _ _ (setAttr (Value.ref _) (PySem.Str.ofString "pc") _) _ _ _); refine cpu_set_pc (by k_asm) (by k_asm) (by k_asm) (by k_mem) (by assumption) (by k_updF) ?_; k_whole; intro h' o' F' N' hD'; (try dsimp only at N'); (try k_sweep))
    k_dflt (refine' spec_of ?k6 ?k7 ?k9 ?kB ?c2 ?c3 ?c4 ?c5 ?c6 ?_; (case k6 => k_is); (case k7 => k_is); (case k9 => exact fun s => BindsTo.of_eq rfl); (case kB => exact locs rfl); (case c2 => exact rfl); (case c3 => exact rfl); (case c4 => exact rfl); (case c5 => decide); (case c6 => omega); k_whole)
    intro p loose mean mg mb dp un gd outer A₁ base g L h₁ s tk D9 hD9 F N B X T hd hu
    (try dsimp only)
    (try k_fold)
    k_steps
    k_dflt (refine' use_all (C _) ?k1b1 ?k2b1 ?k3b1 ?k4b1 ?k5b1 ?kKb1 ?kdb1 ?kub1 ?_; (case k1b1 => k_asm); (case k2b1 => k_asm); (case k3b1 => k_asm); (case k4b1 => k_asm); (case k5b1 => k_asm); (case kKb1 => exact rfl); (case kdb1 => first | omega | (dsimp only [ktrTop, Around.deeper]; omega)); (case kub1 => first | omega | (dsimp only [ktrTop, Around.deeper]; omega)); intro go9 rest9 h9 tk9 F9 N9 I9; have a9 := I9.1; have b9 := I9.2.1; (try dsimp only); (try k_sweep); (try k_fold))
    k_steps
    all_goals cases go9
    all_goals first | contradiction | exact hD9 (by assumption) (by assumption) (.inl ⟨_, _, _, rfl, rfl, (by assumption), a9, b9, I9.2.2⟩) | exact hD9 (by assumption) (by assumption) (.inr ⟨_, _, _, rfl, rfl, (by assumption), a9, b9, I9.2.2⟩)
  · k_with_none
    k_with "ne" => (first | assumption | exact Ne.symm (by assumption) | (refine neN ?_; (try dsimp only); omega))
    k_with "all" => (repeat' (first | exact List.forall_mem_nil _ | assumption | (refine' List.forall_mem_cons.mpr ⟨?_, ?_⟩) | k_ne))
    k_with "getAttr ref" => k_dflt (((with_reducible show wpAny _ _ (getAttr (Value.ref _) (PySem.Str.ofString "pc") _) _ _ _); refine cpu_pc (by k_asm) (by k_asm) (by k_asm) (by k_mem) (by k_mem) (by assumption) ?_; k_whole); intro _)
    k_with "setAttr ref" => k_dflt ((with_reducible show wpAny _ _ (setAttr (Value.ref _) (PySem.Str.ofString "pc") _) _ _ _); refine cpu_set_pc (by k_asm) (by k_asm) (by k_asm) (by k_mem) (by assumption) (by k_updF) ?_; k_whole; intro h' o' F' N' hD'; (try dsimp only at N'); (try k_sweep))
    k_dflt (refine' spec_of ?k6 ?k7 ?k9 ?kB ?c2 ?c3 ?c4 ?c5 ?c6 ?_; (case k6 => k_is); (case k7 => k_is); (case k9 => exact fun s => BindsTo.of_eq rfl); (case kB => exact locs rfl); (case c2 => exact rfl); (case c3 => exact rfl); (case c4 => exact rfl); (case c5 => decide); (case c6 => omega); k_whole)
    intro p loose mean mg mb dp un gd outer A₁ base g L h₁ s tk D9 hD9 F N B X T hd hu
    (try dsimp only)
    (try k_fold)
    k_steps
    k_dflt (refine' use_all (C _) ?k1b2 ?k2b2 ?k3b2 ?k4b2 ?k5b2 ?kKb2 ?kdb2 ?kub2 ?_; (case k1b2 => k_asm); (case k2b2 => k_asm); (case k3b2 => k_asm); (case k4b2 => k_asm); (case k5b2 => k_asm); (case kKb2 => exact rfl); (case kdb2 => first | omega | (dsimp only [ktrTop, Around.deeper]; omega)); (case kub2 => first | omega | (dsimp only [ktrTop, Around.deeper]; omega)); intro go9 rest9 h9 tk9 F9 N9 I9; have a9 := I9.1; have b9 := I9.2.1; (try dsimp only); (try k_sweep); (try k_fold))
    k_steps
    all_goals cases go9
    all_goals first | contradiction | exact hD9 (by assumption) (by assumption) (.inl ⟨_, _, _, rfl, rfl, (by assumption), a9, b9, I9.2.2⟩) | exact hD9 (by assumption) (by assumption) (.inr ⟨_, _, _, rfl, rfl, (by assumption), a9, b9, I9.2.2⟩)

theorem block1_is {prog : Program} {w : World} {cA dA rA mA : Addr} {oD : Obj} {st y x : Int} {d : Nat} {need : List (Addr × Obj)} {Φ : Bool → List (Addr × Obj) → Prop} {t₁ t₂ : Tok} {pv : Value} (hne : cA ≠ dA) (hD : CpuD oD rA 102 st) (hy : y = 6 ∧ x = 1 ∨ y = 7 ∧ x = -1)
    (C : ∀ t, Spec prog w 303 [.ref cA, .ref mA, .int x t] d need (StepP cA dA oD Φ)) : Spec prog w 282 [.ref cA, .ref mA, pv, .int y t₁, .int 1 t₂] (d + 1) need (BlockP cA dA rA st Φ) := by
  have hne' := hne.symm
  rcases hy with ⟨rfl, rfl⟩ | ⟨rfl, rfl⟩
  · k_with_none
    k_with "ne" => (first | assumption | exact Ne.symm (by assumption) | (refine neN ?_; (try dsimp only); omega))
    k_with "all" => (repeat' (first | exact List.forall_mem_nil _ | assumption | (refine' List.forall_mem_cons.mpr ⟨?_, ?_⟩) | k_ne))
    k_with "getAttr ref" => k_dflt (((with_reducible show wpAny _ _ (getAttr (Value.ref _) (PySem.Str.ofString "pc") _) _ _ _); refine cpu_pc (by k_asm) (by k_asm) (by k_asm) (by k_mem) (by k_mem) (by assumption) ?_; k_whole); intro _)
    k_with "setAttr ref" => k_dflt ((with_reducible show wpAny _ _ (setAttr (Value.ref _) (PySem.Str.ofString "pc") _) _ _ _); refine cpu_set_pc (by k_asm) (by k_asm) (by k_asm) (by k_mem) (by assumption) (by k_updF) ?_; k_whole; intro h' o' F' N' hD'; (try dsimp only at N'); (try k_sweep))
    k_dflt (refine' spec_of ?k6 ?k7 ?k9 ?kB ?c2 ?c3 ?c4 ?c5 ?c6 ?_; (case k6 => k_is); (case k7 => k_is); (case k9 => exact fun s => BindsTo.of_eq rfl); (case kB => exact locs rfl); (case c2 => exact rfl); (case c3 => exact rfl); (case c4 => exact rfl); (case c5 => decide); (case c6 => omega); k_whole)
    intro p loose mean mg mb dp un gd outer A₁ base g L h₁ s tk D9 hD9 F N B X T hd hu
    (try dsimp only)
    (try k_fold)
    k_steps
    k_dflt (refine' use_all (C _) ?k1b3 ?k2b3 ?k3b3 ?k4b3 ?k5b3 ?kKb3 ?kdb3 ?kub3 ?_; (case k1b3 => k_asm); (case k2b3 => k_asm); (case k3b3 => k_asm); (case k4b3 => k_asm); (case k5b3 => k_asm); (case kKb3 => exact rfl); (case kdb3 => first | omega | (dsimp only [ktrTop, Around.deeper]; omega)); (case kub3 => first | omega | (dsimp only [ktrTop, Around.deeper]; omega)); intro go9 rest9 h9 tk9 F9 N9 I9; have a9 := I9.1; have b9 := I9.2.1; (try dsimp only); (try k_sweep); (try k_fold))
    k_steps
    all_goals cases go9
    all_goals first | contradiction | exact hD9 (by assumption) (by assumption) (.inl ⟨_, _, _, rfl, rfl, (by assumption), a9, b9, I9.2.2⟩) | exact hD9 (by assumption) (by assumption) (.inr ⟨_, _, _, rfl, rfl, (by assumption), a9, b9, I9.2.2⟩)
  · k_with_none
    k_with "ne" => (first | assumption | exact Ne.symm (by assumption) | (refine neN ?_; (try dsimp only); omega))
    k_with "all" => (repeat' (first | exact List.forall_mem_nil _ | assumption | (refine' List.forall_mem_cons.mpr ⟨?_, ?_⟩) | k_ne))
    k_with "getAttr ref" => k_dflt (((with_reducible show wpAny _ _ (getAttr (Value.ref _) (PySem.Str.ofString "pc") _) _ _ _); refine cpu_pc (by k_asm) (by k_asm) (by k_asm) (by k_mem) (by k_mem) (by assumption) ?_; k_whole); intro _)
    k_with "setAttr ref" => k_dflt ((with_reducible show wpAny _ _ (setAttr (Value.ref _) (PySem.Str.ofString "pc") _) _ _ _); refine cpu_set_pc (by k_asm) (by k_asm) (by k_asm) (by k_mem) (by assumption) (by k_updF) ?_; k_whole; intro h' o' F' N' hD'; (try dsimp only at N'); (try k_sweep))
    k_dflt (refine' spec_of ?k6 ?k7 ?k9 ?kB ?c2 ?c3 ?c4 ?c5 ?c6 ?_; (case k6 => k_is); (case k7 => k_is); (case k9 => exact fun s => BindsTo.of_eq rfl); (case kB => exact locs rfl); (case c2 => exact rfl); (case c3 => exact rfl); (case c4 => exact rfl); (case c5 => decide); (case c6 => omega); k_whole)
    intro p loose mean mg mb dp un gd outer A₁ base g L h₁ s tk D9 hD9 F N B X T hd hu
    (try dsimp only)
    (try k_fold)
    k_steps
    k_dflt (refine' use_all (C _) ?k1b4 ?k2b4 ?k3b4 ?k4b4 ?k5b4 ?kKb4 ?kdb4 ?kub4 ?_; (case k1b4 => k_asm); (case k2b4 => k_asm); (case k3b4 => k_asm); (case k4b4 => k_asm); (case k5b4 => k_asm); (case kKb4 => exact rfl); (case kdb4 => first | omega | (dsimp only [ktrTop, Around.deeper]; omega)); (case kub4 => first | omega | (dsimp only [ktrTop, Around.deeper]; omega)); intro go9 rest9 h9 tk9 F9 N9 I9; have a9 := I9.1; have b9 := I9.2.1; (try dsimp only); (try k_sweep); (try k_fold))
    k_steps
    all_goals cases go9
    all_goals first | contradiction | exact hD9 (by assumption) (by assumption) (.inl ⟨_, _, _, rfl, rfl, (by assumption), a9, b9, I9.2.2⟩) | exact hD9 (by assumption) (by assumption) (.inr ⟨_, _, _, rfl, rfl, (by assumption), a9, b9, I9.2.2⟩)

theorem block2_is {prog : Program} {w : World} {cA dA rA mA pA : Addr} {oD : Obj} {st y x : Int} {d : Nat} {need : List (Addr × Obj)} {Φ : Bool → List (Addr × Obj) → Prop} {t₁ t₂ : Tok} (hne : cA ≠ dA) (hD : CpuD oD rA 102 st) (hy : y = 6 ∧ x = 1 ∨ y = 7 ∧ x = -1)
    (C : ∀ t, Spec prog w 310 [.ref cA, .ref mA, .ref pA, .int x t] d need (StepP cA dA oD Φ)) : Spec prog w 282 [.ref cA, .ref mA, .ref pA, .int y t₁, .int 2 t₂] (d + 1) need (BlockP cA dA rA st Φ) := by
  have hne' := hne.symm
  rcases hy with ⟨rfl, rfl⟩ | ⟨rfl, rfl⟩
  · k_with_none
    k_with "ne" => (first | assumption | exact Ne.symm (by assumption) | (refine neN ?_; (try dsimp only); omega))
    k_with "all" => (repeat' (first | exact List.forall_mem_nil _ | assumption | (refine' List.forall_mem_cons.mpr ⟨?_, ?_⟩) | k_ne))
    k_with "getAttr ref" => k_dflt (((with_reducible show wpAny _ _ (getAttr (Value.ref _) (PySem.Str.ofString "pc") _) _ _ _); refine cpu_pc (by k_asm) (by k_asm) (by k_asm) (by k_mem) (by k_mem) (by assumption) ?_; k_whole); intro _)
    k_with "setAttr ref" => k_dflt ((with_reducible show wpAny _ _ (setAttr (Value.ref _) (PySem.Str.ofString "pc") _) _ _ _); refine cpu_set_pc (by k_asm) (by k_asm) (by k_asm) (by k_mem) (by assumption) (by k_updF) ?_; k_whole; intro h' o' F' N' hD'; (try dsimp only at N'); (try k_sweep))
    k_dflt (refine' spec_of ?k6 ?k7 ?k9 ?kB ?c2 ?c3 ?c4 ?c5 ?c6 ?_; (case k6 => k_is); (case k7 => k_is); (case k9 => exact fun s => BindsTo.of_eq rfl); (case kB => exact locs rfl); (case c2 => exact rfl); (case c3 => exact rfl); (case c4 => exact rfl); (case c5 => decide); (case c6 => omega); k_whole)
    intro p loose mean mg mb dp un gd outer A₁ base g L h₁ s tk D9 hD9 F N B X T hd hu
    (try dsimp only)
    (try k_fold)
    k_steps
    k_dflt (refine' use_all (C _) ?k1b5 ?k2b5 ?k3b5 ?k4b5 ?k5b5 ?kKb5 ?kdb5 ?kub5 ?_; (case k1b5 => k_asm); (case k2b5 => k_asm); (case k3b5 => k_asm); (case k4b5 => k_asm); (case k5b5 => k_asm); (case kKb5 => exact rfl); (case kdb5 => first | omega | (dsimp only [ktrTop, Around.deeper]; omega)); (case kub5 => first | omega | (dsimp only [ktrTop, Around.deeper]; omega)); intro go9 rest9 h9 tk9 F9 N9 I9; have a9 := I9.1; have b9 := I9.2.1; (try dsimp only); (try k_sweep); (try k_fold))
    k_steps
    all_goals cases go9
    all_goals first | contradiction | exact hD9 (by assumption) (by assumption) (.inl ⟨_, _, _, rfl, rfl, (by assumption), a9, b9, I9.2.2⟩) | exact hD9 (by assumption) (by assumption) (.inr ⟨_, _, _, rfl, rfl, (by assumption), a9, b9, I9.2.2⟩)
  · k_with_none
    k_with "ne" => (first | assumption | exact Ne.symm (by assumption) | (refine neN ?_; (try dsimp only); omega))
    k_with "all" => (repeat' (first | exact List.forall_mem_nil _ | assumption | (refine' List.forall_mem_cons.mpr ⟨?_, ?_⟩) | k_ne))
    k_with "getAttr ref" => k_dflt (((with_reducible show wpAny _ _ (getAttr (Value.ref _) (PySem.Str.ofString "pc") _) _ _ _); refine cpu_pc (by k_asm) (by k_asm) (by k_asm) (by k_mem) (by k_mem) (by assumption) ?_; k_whole); intro _)
    k_with "setAttr ref" => k_dflt ((with_reducible show wpAny _ _ (setAttr (Value.ref _) (PySem.Str.ofString "pc") _) _ _ _); refine cpu_set_pc (by k_asm) (by k_asm) (by k_asm) (by k_mem) (by assumption) (by k_updF) ?_; k_whole; intro h' o' F' N' hD'; (try dsimp only at N'); (try k_sweep))
    k_dflt (refine' spec_of ?k6 ?k7 ?k9 ?kB ?c2 ?c3 ?c4 ?c5 ?c6 ?_; (case k6 => k_is); (case k7 => k_is); (case k9 => exact fun s => BindsTo.of_eq rfl); (case kB => exact locs rfl); (case c2 => exact rfl); (case c3 => exact rfl); (case c4 => exact rfl); (case c5 => decide); (case c6 => omega); k_whole)
    intro p loose mean mg mb dp un gd outer A₁ base g L h₁ s tk D9 hD9 F N B X T hd hu
    (try dsimp only)
    (try k_fold)
    k_steps
    k_dflt (refine' use_all (C _) ?k1b6 ?k2b6 ?k3b6 ?k4b6 ?k5b6 ?kKb6 ?kdb6 ?kub6 ?_; (case k1b6 => k_asm); (case k2b6 => k_asm); (case k3b6 => k_asm); (case k4b6 => k_asm); (case k5b6 => k_asm); (case kKb6 => exact rfl); (case kdb6 => first | omega | (dsimp only [ktrTop, Around.deeper]; omega)); (case kub6 => first | omega | (dsimp only [ktrTop, Around.deeper]; omega)); intro go9 rest9 h9 tk9 F9 N9 I9; have a9 := I9.1; have b9 := I9.2.1; (try dsimp only); (try k_sweep); (try k_fold))
    k_steps
    all_goals cases go9
    all_goals first | contradiction | exact hD9 (by assumption) (by assumption) (.inl ⟨_, _, _, rfl, rfl, (by assumption), a9, b9, I9.2.2⟩) | exact hD9 (by assumption) (by assumption) (.inr ⟨_, _, _, rfl, rfl, (by assumption), a9, b9, I9.2.2⟩)

theorem block3_is {prog : Program} {w : World} {cA dA rA mA pA : Addr} {oD : Obj} {st y x : Int} {d : Nat} {need : List (Addr × Obj)} {Φ : Bool → List (Addr × Obj) → Prop} {t₁ t₂ : Tok} (hne : cA ≠ dA) (hD : CpuD oD rA 102 st) (hy : y = 6 ∧ x = 1 ∨ y = 7 ∧ x = -1)
    (C : ∀ t, Spec prog w 317 [.ref cA, .ref mA, .ref pA, .int x t] d need (StepP cA dA oD Φ)) : Spec prog w 282 [.ref cA, .ref mA, .ref pA, .int y t₁, .int 3 t₂] (d + 1) need (BlockP cA dA rA st Φ) := by
  have hne' := hne.symm
  rcases hy with ⟨rfl, rfl⟩ | ⟨rfl, rfl⟩
  · k_with_none
    k_with "ne" => (first | assumption | exact Ne.symm (by assumption) | (refine neN ?_; (try dsimp only); omega))
    k_with "all" => (repeat' (first | exact List.forall_mem_nil _ | assumption | (refine' List.forall_mem_cons.mpr ⟨?_, ?_⟩) | k_ne))
    k_with "getAttr ref" => k_dflt (((with_reducible show wpAny _ _ (getAttr (Value.ref _) (PySem.Str.ofString "pc") _) _ _ _); refine cpu_pc (by k_asm) (by k_asm) (by k_asm) (by k_mem) (by k_mem) (by assumption) ?_; k_whole); intro _)
    k_with "setAttr ref" => k_dflt ((with_reducible show wpAny _ _ (setAttr (Value.ref _) (PySem.Str.ofString "pc") _) _ _ _); refine cpu_set_pc (by k_asm) (by k_asm) (by k_asm) (by k_mem) (by assumption) (by k_updF) ?_; k_whole; intro h' o' F' N' hD'; (try dsimp only at N'); (try k_sweep))
    k_dflt (refine' spec_of ?k6 ?k7 ?k9 ?kB ?c2 ?c3 ?c4 ?c5 ?c6 ?_; (case k6 => k_is); (case k7 => k_is); (case k9 => exact fun s => BindsTo.of_eq rfl); (case kB => exact locs rfl); (case c2 => exact rfl); (case c3 => exact rfl); (case c4 => exact rfl); (case c5 => decide); (case c6 => omega); k_whole)
    intro p loose mean mg mb dp un gd outer A₁ base g L h₁ s tk D9 hD9 F N B X T hd hu
    (try dsimp only)
    (try k_fold)
    k_steps
    k_dflt (refine' use_all (C _) ?k1b7 ?k2b7 ?k3b7 ?k4b7 ?k5b7 ?kKb7 ?kdb7 ?kub7 ?_; (case k1b7 => k_asm); (case k2b7 => k_asm); (case k3b7 => k_asm); (case k4b7 => k_asm); (case k5b7 => k_asm); (case kKb7 => exact rfl); (case kdb7 => first | omega | (dsimp only [ktrTop, Around.deeper]; omega)); (case kub7 => first | omega | (dsimp only [ktrTop, Around.deeper]; omega)); intro go9 rest9 h9 tk9 F9 N9 I9; have a9 := I9.1; have b9 := I9.2.1; (try dsimp only); (try k_sweep); (try k_fold))
    k_steps
    all_goals cases go9
    all_goals first | contradiction | exact hD9 (by assumption) (by assumption) (.inl ⟨_, _, _, rfl, rfl, (by assumption), a9, b9, I9.2.2⟩) | exact hD9 (by assumption) (by assumption) (.inr ⟨_, _, _, rfl, rfl, (by assumption), a9, b9, I9.2.2⟩)
  · k_with_none
    k_with "ne" => (first | assumption | exact Ne.symm (by assumption) | (refine neN ?_; (try dsimp only); omega))
    k_with "all" => (repeat' (first | exact List.forall_mem_nil _ | assumption | (refine' List.forall_mem_cons.mpr ⟨?_, ?_⟩) | k_ne))
    k_with "getAttr ref" => k_dflt (((with_reducible show wpAny _ _ (getAttr (Value.ref _) (PySem.Str.ofString "pc") _) _ _ _); refine cpu_pc (by k_asm) (by k_asm) (by k_asm) (by k_mem) (by k_mem) (by assumption) ?_; k_whole); intro _)
    k_with "setAttr ref" => k_dflt ((with_reducible show wpAny _ _ (setAttr (Value.ref _) (PySem.Str.ofString "pc") _) _ _ _); refine cpu_set_pc (by k_asm) (by k_asm) (by k_asm) (by k_mem) (by assumption) (by k_updF) ?_; k_whole; intro h' o' F' N' hD'; (try dsimp only at N'); (try k_sweep))
    k_dflt (refine' spec_of ?k6 ?k7 ?k9 ?kB ?c2 ?c3 ?c4 ?c5 ?c6 ?_; (case k6 => k_is); (case k7 => k_is); (case k9 => exact fun s => BindsTo.of_eq rfl); (case kB => exact locs rfl); (case c2 => exact rfl); (case c3 => exact rfl); (case c4 => exact rfl); (case c5 => decide); (case c6 => omega); k_whole)
    intro p loose mean mg mb dp un gd outer A₁ base g L h₁ s tk D9 hD9 F N B X T hd hu
    (try dsimp only)
    (try k_fold)
    k_steps
    k_dflt (refine' use_all (C _) ?k1b8 ?k2b8 ?k3b8 ?k4b8 ?k5b8 ?kKb8 ?kdb8 ?kub8 ?_; (case k1b8 => k_asm); (case k2b8 => k_asm); (case k3b8 => k_asm); (case k4b8 => k_asm); (case k5b8 => k_asm); (case kKb8 => exact rfl); (case kdb8 => first | omega | (dsimp only [ktrTop, Around.deeper]; omega)); (case kub8 => first | omega | (dsimp only [ktrTop, Around.deeper]; omega)); intro go9 rest9 h9 tk9 F9 N9 I9; have a9 := I9.1; have b9 := I9.2.1; (try dsimp only); (try k_sweep); (try k_fold))
    k_steps
    all_goals cases go9
    all_goals first | contradiction | exact hD9 (by assumption) (by assumption) (.inl ⟨_, _, _, rfl, rfl, (by assumption), a9, b9, I9.2.2⟩) | exact hD9 (by assumption) (by assumption) (.inr ⟨_, _, _, rfl, rfl, (by assumption), a9, b9, I9.2.2⟩)

theorem do_ed_is {prog : Program} {w : World} {cA mA : Addr} {pv : Value} {co y z : Int} {d : Nat} {need : List (Addr × Obj)} {Post : List (Addr × Obj) → Value → Prop} {u : Tok} (h6 : co.fdiv 64 = 2) (h8 : Builtin.bitAnd (co.fdiv 8) 7 = y) (h7 : Builtin.bitAnd co 7 = z) (hy : 3 < y) (hz : z < 4)
    (C : ∀ t₁ t₂, Spec prog w 282 [.ref cA, .ref mA, pv, .int y t₁, .int z t₂] d need Post) : Spec prog w 247 [.ref cA, .ref mA, pv, .int co u] (d + 1) need Post := by
  k_with_none
  k_with "ne" => (first | assumption | exact Ne.symm (by assumption) | (refine neN ?_; (try dsimp only); omega))
  k_with "all" => (repeat' (first | exact List.forall_mem_nil _ | assumption | (refine' List.forall_mem_cons.mpr ⟨?_, ?_⟩) | k_ne))
  k_with "binaryOp RShift int int" => (first | refine rsh6 (by assumption) ?_ | refine rsh3 ?_)
  k_with "binaryOp BitAnd int int" => (refine and7 (by assumption) ?_)
  k_dflt (refine' spec_of ?k6 ?k7 ?k9 ?kB ?c2 ?c3 ?c4 ?c5 ?c6 ?_; (case k6 => k_is); (case k7 => k_is); (case k9 => exact fun s => BindsTo.of_eq rfl); (case kB => exact locs rfl); (case c2 => exact rfl); (case c3 => exact rfl); (case c4 => exact rfl); (case c5 => decide); (case c6 => omega); k_whole)
  intro p loose mean mg mb dp un gd outer A₁ base g L h₁ s tk D9 hD9 F N B X T hd hu
  (try dsimp only)
  (try k_fold)
  k_steps
  k_dflt (refine' spec_use (C _ _) ?k1 ?k2 ?k3 ?k4 ?k5 ?kK ?kP ?kS ?kd ?ku ?_; (case k1 => k_asm); (case k2 => k_asm); (case k3 => k_asm); (case k4 => k_asm); (case k5 => k_asm); (case kK => exact rfl); (case kP => exact Pick.behind _); (case kS => exact fun q hq p hp e => by rw [List.mem_singleton.mp hq] at e; exact absurd e (Nat.ne_of_lt ((by assumption : ∀ p ∈ need, p.1 < _) p hp))); (case kd => first | omega | (dsimp only [ktrTop, Around.deeper]; omega)); (case ku => first | omega | (dsimp only [ktrTop, Around.deeper]; omega)); intro r9 need9 h9 tk9 F9 N9 S9 P9; (try dsimp only); (try k_sweep); (try k_fold))
  k_steps
  all_goals exact hD9 (by assumption) (fun q hq => N9 q (List.mem_append_left _ hq)) P9
/-- one round by the code of do_ed -/
theorem ed_move {prog : Program} {w : World} {cA dA rA mA : Addr} {oD : Obj} {st x co : Int} {d : Nat} {need : List (Addr × Obj)} {Φ : Bool → List (Addr × Obj) → Prop} {u : Tok} {pv : Value} (hne : cA ≠ dA) (hD : CpuD oD rA 102 st) (hco : co = 176 ∧ x = 1 ∨ co = 184 ∧ x = -1)
    (C : ∀ t, Spec prog w 296 [.ref cA, .ref mA, .int x t] d need (StepP cA dA oD Φ)) : Spec prog w 247 [.ref cA, .ref mA, pv, .int co u] (d + 2) need (BlockP cA dA rA st Φ) := by
  rcases hco with ⟨rfl, rfl⟩ | ⟨rfl, rfl⟩
  · exact do_ed_is (y := 6) (z := 0) (by decide) (by decide) (by decide) (by decide) (by decide) fun _ _ => block0_is hne hD (.inl ⟨rfl, rfl⟩) C
  · exact do_ed_is (y := 7) (z := 0) (by decide) (by decide) (by decide) (by decide) (by decide) fun _ _ => block0_is hne hD (.inr ⟨rfl, rfl⟩) C
theorem ed_seek {prog : Program} {w : World} {cA dA rA mA : Addr} {oD : Obj} {st x co : Int} {d : Nat} {need : List (Addr × Obj)} {Φ : Bool → List (Addr × Obj) → Prop} {u : Tok} {pv : Value} (hne : cA ≠ dA) (hD : CpuD oD rA 102 st) (hco : co = 177 ∧ x = 1 ∨ co = 185 ∧ x = -1)
    (C : ∀ t, Spec prog w 303 [.ref cA, .ref mA, .int x t] d need (StepP cA dA oD Φ)) : Spec prog w 247 [.ref cA, .ref mA, pv, .int co u] (d + 2) need (BlockP cA dA rA st Φ) := by
  rcases hco with ⟨rfl, rfl⟩ | ⟨rfl, rfl⟩
  · exact do_ed_is (y := 6) (z := 1) (by decide) (by decide) (by decide) (by decide) (by decide) fun _ _ => block1_is hne hD (.inl ⟨rfl, rfl⟩) C
  · exact do_ed_is (y := 7) (z := 1) (by decide) (by decide) (by decide) (by decide) (by decide) fun _ _ => block1_is hne hD (.inr ⟨rfl, rfl⟩) C
theorem ed_take {prog : Program} {w : World} {cA dA rA mA pA : Addr} {oD : Obj} {st x co : Int} {d : Nat} {need : List (Addr × Obj)} {Φ : Bool → List (Addr × Obj) → Prop} {u : Tok} (hne : cA ≠ dA) (hD : CpuD oD rA 102 st) (hco : co = 178 ∧ x = 1 ∨ co = 186 ∧ x = -1)
    (C : ∀ t, Spec prog w 310 [.ref cA, .ref mA, .ref pA, .int x t] d need (StepP cA dA oD Φ)) : Spec prog w 247 [.ref cA, .ref mA, .ref pA, .int co u] (d + 2) need (BlockP cA dA rA st Φ) := by
  rcases hco with ⟨rfl, rfl⟩ | ⟨rfl, rfl⟩
  · exact do_ed_is (y := 6) (z := 2) (by decide) (by decide) (by decide) (by decide) (by decide) fun _ _ => block2_is hne hD (.inl ⟨rfl, rfl⟩) C
  · exact do_ed_is (y := 7) (z := 2) (by decide) (by decide) (by decide) (by decide) (by decide) fun _ _ => block2_is hne hD (.inr ⟨rfl, rfl⟩) C
theorem ed_send {prog : Program} {w : World} {cA dA rA mA pA : Addr} {oD : Obj} {st x co : Int} {d : Nat} {need : List (Addr × Obj)} {Φ : Bool → List (Addr × Obj) → Prop} {u : Tok} (hne : cA ≠ dA) (hD : CpuD oD rA 102 st) (hco : co = 179 ∧ x = 1 ∨ co = 187 ∧ x = -1)
    (C : ∀ t, Spec prog w 317 [.ref cA, .ref mA, .ref pA, .int x t] d need (StepP cA dA oD Φ)) : Spec prog w 247 [.ref cA, .ref mA, .ref pA, .int co u] (d + 2) need (BlockP cA dA rA st Φ) := by
  rcases hco with ⟨rfl, rfl⟩ | ⟨rfl, rfl⟩
  · exact do_ed_is (y := 6) (z := 3) (by decide) (by decide) (by decide) (by decide) (by decide) fun _ _ => block3_is hne hD (.inl ⟨rfl, rfl⟩) C
  · exact do_ed_is (y := 7) (z := 3) (by decide) (by decide) (by decide) (by decide) (by decide) fun _ _ => block3_is hne hD (.inr ⟨rfl, rfl⟩) C
end Mine
end

section
namespace Mine
theorem fresh_N12 : True ∧ True := by
  w_top off
  k_with_none
  first | (walk1 <;> trivial) | exact ⟨trivial, trivial⟩
end Mine
open PySem PySem.W PyProof.Rows PySem.Spec PySem.Calls
set_option Elab.async false
set_option maxRecDepth 100000
set_option maxHeartbeats 8000000
namespace Mine
set_option pp.maxSteps 20000
set_option pp.deepTerms false
set_option pp.deepTerms.threshold 4
local macro_rules | `(tactic| k_ne) => `(tactic| k_extra "ne")
local macro_rules | `(tactic| walk_at "getAttr ref") => `(tactic| (k_here; k_extra "getAttr ref"))
local macro_rules | `(tactic| walk_at "setAttr ref") => `(tactic| (k_here; k_extra "setAttr ref"))
local macro_rules | `(tactic| walk_at "pyIter ref") => `(tactic| (k_here; k_extra "pyIter ref"))
local macro_rules | `(tactic| walk_at "exec For Name Call cons nil") => `(tactic| (k_here; k_extra "for"))
local macro_rules | `(tactic| k_all) => `(tactic| k_extra "all")

def RunJ (cA dA rA : Addr) (J : Nat → List (Addr × Obj) → Prop) (n : Nat) (st : Int) (i : Nat) (nx : List (Addr × Obj)) : Prop :=
  i < n ∧ ∃ oD pc rest, nx = (cA, instObj 31 dA) :: (dA, oD) :: rest ∧ CpuD oD rA pc (st + 21 * (i : Int)) ∧ J i rest
theorem news_rot {h₀ : Heap} {L : Addr} {h : Heap} {p : Addr × Obj} {l : List (Addr × Obj)} (N : News h₀ L h (l ++ [p])) : News h₀ L h (p :: l) := fun q hq => by
  rcases List.mem_cons.mp hq with rfl | hq
  · exact N _ (List.mem_append_right _ (.head _))
  · exact N _ (List.mem_append_left _ hq)
theorem run_is {prog : Program} {w : World} {cA dA rA mA : Addr} {oD : Obj} {pc st co : Int} {d n : Nat} {rest : List (Addr × Obj)} {J F : Nat → List (Addr × Obj) → Prop} {u : Tok} {pv : Value} (hne : cA ≠ dA) (hn0 : 0 < n) (hn1 : n ≤ 10) (hD : CpuD oD rA pc st) (hJ0 : J 0 rest)
    (hoff : ∀ i r, J i r → (∀ p ∈ r, p.1 ≠ cA) ∧ ∀ p ∈ r, p.1 ≠ dA)
    (C : ∀ i r oD st', i < n → J i r → CpuD oD rA 102 st' → Spec prog w 247 [.ref cA, .ref mA, pv, .int co u] d ((cA, instObj 31 dA) :: (dA, oD) :: r) (BlockP cA dA rA st' fun go r' => (go = true → i + 1 < n ∧ J (i + 1) r') ∧ (go = false → F (i + 1) r'))) :
    Spec prog w 331 [.ref cA, .ref mA, pv, .int co u] (d + 1) ((cA, instObj 31 dA) :: (dA, oD) :: rest)
     (fun need' r => ∃ k oD' rest' t, need' = (cA, instObj 31 dA) :: (dA, oD') :: rest' ∧ r = .int ((k : Nat) : Int) t ∧ 1 ≤ k ∧ k ≤ n ∧ CpuD oD' rA 102 (st + 21 * (k : Int) - 5) ∧ (∀ p ∈ rest', p.1 ≠ cA) ∧ (∀ p ∈ rest', p.1 ≠ dA) ∧ F k rest') := by
  have hne' := hne.symm
  obtain ⟨ha0, hb0⟩ := hoff 0 rest hJ0
  k_with_none
  k_with "ne" => (first | assumption | exact Ne.symm (by assumption) | (refine neN ?_; (try dsimp only); omega))
  k_with "all" => (repeat' (first | exact List.forall_mem_nil _ | assumption | (refine' List.forall_mem_cons.mpr ⟨?_, ?_⟩) | k_ne))
  k_with "getAttr ref" => k_dflt (((with_reducible show wpAny _ _ (getAttr (Value.ref _) (PySem.Str.ofString "pc") _) _ _ _); refine cpu_pc (by k_asm) (by k_asm) (by k_asm) (by k_mem) (by k_mem) (by assumption) ?_; k_whole); intro _)
  k_with "getAttr ref" => k_dflt (((with_reducible show wpAny _ _ (getAttr (Value.ref _) (PySem.Str.ofString "states") _) _ _ _); refine cpu_states (by k_asm) (by k_asm) (by k_asm) (by k_mem) (by k_mem) (by assumption) ?_; k_whole); intro _)
  k_with "setAttr ref" => k_dflt ((with_reducible show wpAny _ _ (setAttr (Value.ref _) (PySem.Str.ofString "pc") _) _ _ _); refine cpu_set_pc (by k_asm) (by k_asm) (by k_asm) (by k_mem) (by assumption) (by k_updF) ?_; k_whole; intro h' o' F' N' hD'; (try dsimp only at N'); (try k_sweep))
  k_with "setAttr ref" => k_dflt ((with_reducible show wpAny _ _ (setAttr (Value.ref _) (PySem.Str.ofString "states") _) _ _ _); refine cpu_set_states (by k_asm) (by k_asm) (by k_asm) (by k_mem) (by assumption) (by k_updF) ?_; k_whole; intro h' o' F' N' hD'; (try dsimp only at N'); (try k_sweep))
  k_with "for" => ((rename Fr _ _ _ _ => lF'); (with_unfolding_all refine' For_invVF lF' ?k1 ?k2 ?_; (case k1 => exact rfl); (case k2 => exact rfl); k_whole))
  k_dflt (refine' spec_of ?k6 ?k7 ?k9 ?kB ?c2 ?c3 ?c4 ?c5 ?c6 ?_; (case k6 => k_is); (case k7 => k_is); (case k9 => exact fun s => BindsTo.of_eq rfl); (case kB => exact locs rfl); (case c2 => exact rfl); (case c3 => exact rfl); (case c4 => exact rfl); (case c5 => decide); (case c6 => omega); k_whole)
  intro p loose mean mg mb dp un gd outer A₁ base g L h₁ s tk D9 hD9 F N B X T hd hu
  (try dsimp only)
  (try k_fold)
  k_with "pyIter ref" => k_dflt (
    refine' range_loop (n := 30) (RunJ cA dA rA J n st) rfl ?hr ?hs ?hz ?hF ?hN ?hj ?turn ?done
    (case hr => assumption)
    (case hs => decide)
    (case hz => decide)
    (case hF => k_asm)
    (case hN => k_asm)
    (case hj => exact ⟨hn0, _, _, _, rfl, hD.cast (by omega), hJ0⟩)
    (case done => (intro nx h tk v hJ; exact absurd hJ.1 (by omega)))
    intro i t nx h tk it oI TE9 hT8 hT9 hi30 hJ hne9 F N
    obtain ⟨hin, oD, pc, rest, rfl, hD, hJ⟩ := hJ
    obtain ⟨ha, hb⟩ := hoff i rest hJ
    have hic : cA ≠ it := hne9 _ (.head _)
    have hid : dA ≠ it := hne9 _ (.tail _ (.head _))
    have hir : ∀ p ∈ rest, p.1 ≠ it := fun p hp => hne9 _ (.tail _ (.tail _ hp))
    clear hne9
    (try dsimp only at F N)
    (try k_sweep)
    (try dsimp only)
    (try k_fold))
  k_steps
  k_dflt (refine' spec_use (C i rest _ (st + 21 * (i : Int)) hin hJ ?kc) ?k1 ?k2 ?k3 ?k4 ?k5 ?kK ?kP ?kS ?kd ?ku ?_; (case kc => assumption); (case k1 => k_asm); (case k2 => k_asm); (case k3 => k_asm); (case k4 => k_asm); (case k5 => k_asm); (case kK => exact rfl); (case kP => exact Pick.behind _); (case kS => exact fun q hq p hp e => by (rw [List.mem_singleton.mp hq] at e; rcases List.mem_cons.mp hp with rfl | hp; exact hic e; rcases List.mem_cons.mp hp with rfl | hp; exact hid e; exact hir p hp e)); (case kd => first | omega | (dsimp only [ktrTop, Around.deeper]; omega)); (case ku => first | omega | (dsimp only [ktrTop, Around.deeper]; omega)); intro r9 need9 h9 tk9 F9 N9 S9 P9; (try dsimp only); (try k_sweep); (try k_fold))
  rcases P9 with P9 | P9
  · obtain ⟨oD9, rest9, t9, rfl, rfl, hD9', ha9, hb9, hf9⟩ := P9
    have N8 := news_rot N9
    have hir9 : ∀ p ∈ rest9, p.1 ≠ it := fun p hp => (S9 _ (.head _) p (.tail _ (.tail _ hp))).symm
    clear N9 S9 hD ha hb hir hJ
    have hf8 := hf9.1 rfl
    k_steps
    exact hT9 (by assumption) (by assumption) (List.forall_mem_cons.mpr ⟨hic, List.forall_mem_cons.mpr ⟨hid, hir9⟩⟩) ⟨hf8.1, _, _, _, rfl, CpuD.cast (by assumption) (by omega), hf8.2⟩
  · obtain ⟨oD9, rest9, t9, rfl, rfl, hD9', ha9, hb9, hf9⟩ := P9
    have N8 := news_rot N9
    have hir9 : ∀ p ∈ rest9, p.1 ≠ it := fun p hp => (S9 _ (.head _) p (.tail _ (.tail _ hp))).symm
    clear N9 S9 hD ha hb hir hJ
    k_steps
    refine hT8 ?_
    dsimp only
    exact hD9 (by assumption) (fun q hq => (by assumption : News _ _ _ ((it, oI) :: _)) q (.tail _ hq)) ⟨i + 1, _, _, _, rfl, congrArg (fun z => Value.int z _) (by omega), by omega, by omega, CpuD.cast (by assumption) (by omega), ha9, hb9, hf9.2 rfl⟩
end Mine
end

section
namespace Mine
theorem fresh_N13 : True ∧ True := by
  w_top off
  k_with_none
  first | (walk1 <;> trivial) | exact ⟨trivial, trivial⟩
end Mine
open PySem PySem.W PyProof.Rows PySem.Calls
set_option Elab.async false
set_option maxRecDepth 100000
set_option maxHeartbeats 8000000
namespace Mine
theorem Spec.mono {prog : Program} {w : World} {f : Addr} {vs : List Value} {d : Nat} {need : List (Addr × Obj)} {Post Post' : List (Addr × Obj) → Value → Prop} (C : Spec prog w f vs d need Post)
    (h : ∀ need' r, Post need' r → ∃ need'', (∀ p ∈ need'', p ∈ need') ∧ Post' need'' r) : Spec prog w f vs d need Post' := by
  intro p loose mean mg mb dp un gd cn cs a ccd cl outer A₀ base h₀ L m rest s Q E B F X N T hkk hsep hd hu hret
  refine C p loose mean mg mb dp un gd cn cs a ccd cl outer A₀ base h₀ L m rest s Q E B F X N T hkk hsep hd hu ?_
  intro r need' h' tk' F' N' S' P'
  obtain ⟨need'', hs, P''⟩ := h need' r P'
  refine hret r need'' h' tk' F' (fun q hq => ?_) (fun p hp q hq => S' p hp q (hs q hq)) P''
  rcases List.mem_append.mp hq with hq | hq
  · exact N' q (List.mem_append_left _ (hs q hq))
  · exact N' q (List.mem_append_right _ hq)
theorem Spec.frame {prog : Program} {w : World} {f : Addr} {vs : List Value} {d : Nat} {need fr : List (Addr × Obj)} {Post : List (Addr × Obj) → Value → Prop} (C : Spec prog w f vs d need Post) (hs : ∀ p ∈ fr, ∀ q ∈ need, p.1 ≠ q.1) :
    Spec prog w f vs d (need ++ fr) (fun need' r => ∃ n1, need' = n1 ++ fr ∧ Post n1 r ∧ ∀ p ∈ fr, ∀ q ∈ n1, p.1 ≠ q.1) := by
  intro p loose mean mg mb dp un gd cn cs a ccd cl outer A₀ base h₀ L m rest s Q E B F X N T hkk hsep hd hu hret
  refine C p loose mean mg mb dp un gd cn cs a ccd cl outer A₀ base h₀ L m (fr ++ rest) s Q E B F X (by rw [← List.append_assoc]; exact N) T hkk ?_ hd hu ?_
  · intro q hq
    rcases List.mem_append.mp hq with hq | hq
    · exact hs q hq
    · exact fun r hr => hsep q hq r (List.mem_append_left _ hr)
  · intro r need' h' tk' F' N' S' P'
    refine hret r (need' ++ fr) h' tk' F' (by rw [List.append_assoc]; exact N') ?_ ⟨need', rfl, P', fun q hq => S' q (List.mem_append_left _ hq)⟩
    intro q hq r' hr'
    rcases List.mem_append.mp hr' with hr' | hr'
    · exact S' q (List.mem_append_right _ hq) r' hr'
    · exact hsep q hq r' (List.mem_append_right _ hr')
abbrev lreg (rA : Addr) (rs : List Value) (nr : Nat) : Addr × Obj := (rA, listOf rs.toArray nr)
theorem off_two {a b d : Addr} {o o' : Obj} (h1 : d ≠ a) (h2 : d ≠ b) : ∀ p ∈ [(a, o), (b, o')], p.1 ≠ d := by
  intro p hp
  rcases List.mem_cons.mp hp with rfl | hp
  · exact h1.symm
  · rw [List.mem_singleton.mp hp]; exact h2.symm
theorem off_of {d : Addr} {l : List (Addr × Obj)} (h : d ∉ l.map (·.1)) : ∀ p ∈ l, p.1 ≠ d := fun p hp e => h (e ▸ List.mem_map_of_mem hp)
theorem nd_off {a b : Addr} {l : List Addr} {r : List (Addr × Obj)} (h : (a :: b :: l).Nodup) (e : r.map (·.1) = l) : (∀ p ∈ r, p.1 ≠ a) ∧ ∀ p ∈ r, p.1 ≠ b := by
  subst e
  obtain ⟨h1, h2⟩ := List.nodup_cons.mp h
  exact ⟨off_of fun q => h1 (.tail _ q), off_of (List.nodup_cons.mp h2).1⟩

section
variable {prog : Program} {w : World} {cA dA rA mA : Addr} {oD : Obj} {pc st : Int} {nr nm : Nat} {rs vs : List Value} {mem : List Int} {u : Tok} {x co : Int} {n : Nat} {pv : Value}

def MvJ (rA mA : Addr) (nr nm : Nat) (n : Nat) (e l f a x : Int) (mem : List Int) (i : Nat) (r : List (Addr × Obj)) : Prop :=
  ∃ rs vs f', r = [(rA, listOf rs.toArray nr), (mA, listOf vs.toArray nm)] ∧ IntsAre rs [0, (n : Int) - (i : Int), 0, e + x * (i : Int), 0, l + x * (i : Int), f', a] ∧ IntsAre vs (mvMem mem e l x i) ∧ 0 ≤ f' ∧ f' < 256 ∧ Builtin.bitAnd f' 193 = Builtin.bitAnd f 193
def MvF (rA mA : Addr) (nr nm : Nat) (n : Nat) (e l f a x : Int) (mem : List Int) (i : Nat) (r : List (Addr × Obj)) : Prop :=
  i = n ∧ ∃ rs vs f', r = [(rA, listOf rs.toArray nr), (mA, listOf vs.toArray nm)] ∧ IntsAre rs [0, 0, 0, e + x * (n : Int), 0, l + x * (n : Int), f', a] ∧ IntsAre vs (mvMem mem e l x n) ∧ Builtin.bitAnd f' 215 = Builtin.bitAnd f 193
theorem ne_zero_true {c : Int} (h : (c != 0) = true) : c ≠ 0 := by intro e; subst e; exact absurd h (by decide)
theorem ne_zero_false {c : Int} (h : (c != 0) = false) : c = 0 := by
  by_cases e : c = 0
  · exact e
  · exact absurd h (by simp [e])
theorem run_move_is {e l f a : Int} (nd : [cA, dA, rA, mA].Nodup) (hn0 : 1 ≤ n) (hn1 : n ≤ 10) (hco : co = 176 ∧ x = 1 ∨ co = 184 ∧ x = -1) (hD : CpuD oD rA pc st) (hr : IntsAre rs [0, (n : Int), 0, e, 0, l, f, a]) (hi : IntsAre vs mem) (hlen : mem.length = 128) (hb : Bytes mem)
    (hl : ∀ i : Nat, i ≤ n → 0 ≤ l + x * (i : Int) ∧ l + x * (i : Int) < 128) (he : ∀ i : Nat, i ≤ n → 0 ≤ e + x * (i : Int) ∧ e + x * (i : Int) < 128) (hf0 : 0 ≤ f) (hf1 : f < 256) :
    Spec prog w 331 [.ref cA, .ref mA, pv, .int co u] 6 [(cA, instObj 31 dA), (dA, oD), (rA, listOf rs.toArray nr), (mA, listOf vs.toArray nm)]
     (fun need' r => ∃ k oD' rest' t, need' = (cA, instObj 31 dA) :: (dA, oD') :: rest' ∧ r = .int ((k : Nat) : Int) t ∧ 1 ≤ k ∧ k ≤ n ∧ CpuD oD' rA 102 (st + 21 * (k : Int) - 5) ∧ (∀ p ∈ rest', p.1 ≠ cA) ∧ (∀ p ∈ rest', p.1 ≠ dA) ∧ MvF rA mA nr nm n e l f a x mem k rest') := by
  refine run_is (J := MvJ rA mA nr nm n e l f a x mem) (d := 5) (ndp nd 0 1 rfl) hn0 hn1 hD ⟨rs, vs, f, rfl, ?_, hi, hf0, hf1, rfl⟩ ?_ ?_
  · simpa only [Int.natCast_zero, Int.mul_zero, Int.add_zero, Int.sub_zero, Int.ofNat_eq_natCast] using hr
  · rintro i r ⟨rs', vs', f', rfl, _⟩
    exact nd_off nd rfl
  · rintro i r oD₁ st' hin ⟨rs', vs', f', rfl, hr', hi', h0, h1, h2⟩ hD'
    have hl0 := hl i (by omega)
    have hl1 := hl (i + 1) (by omega)
    have he0 := he i (by omega)
    have he1 := he (i + 1) (by omega)
    rw [step_eq] at hl1 he1
    refine ed_move (ndp nd 0 1 rfl) hD' hco fun t => (move_one_is nd hD' hr' hi' (by rw [mvMem_length]; exact hlen) hl0 he0 ⟨by omega, by omega⟩ ⟨by omega, by omega⟩ ⟨by omega, by omega⟩ (mvMem_bytes hb _ _).1 (mvMem_bytes hb _ _).2 h0 h1).mono ?_
    rintro _ _ ⟨rs₂, vs₂, f₂, rfl, rfl, k1, k2, k3, k4, k5, k6⟩
    rw [← step_eq, ← step_eq] at k1
    refine ⟨_, fun p hp => hp, _, _, rfl, rfl, (nd_off nd rfl).1, (nd_off nd rfl).2, fun hg => ?_, fun hg => ?_⟩
    · have hg' := ne_zero_true hg
      exact ⟨by omega, rs₂, vs₂, f₂, rfl, by rw [show (n : Int) - ((i + 1 : Nat) : Int) = (n : Int) - (i : Int) + -1 by omega]; exact k1, k2, k3, k4, k5.trans h2⟩
    · have hg' := ne_zero_false hg
      have hn : n = i + 1 := by omega
      rw [hg'] at k1
      subst hn
      exact ⟨rfl, rs₂, vs₂, f₂, rfl, k1, k2, (k6 hg').trans h2⟩

def SkJ (rA mA : Addr) (nr nm : Nat) (n : Nat) (d e l f a x : Int) (mem : List Int) (vs : List Value) (i : Nat) (r : List (Addr × Obj)) : Prop :=
  ∃ rs f', r = [(rA, listOf rs.toArray nr), (mA, listOf vs.toArray nm)] ∧ IntsAre rs [0, (n : Int) - (i : Int), d, e, 0, l + x * (i : Int), f', a] ∧ f' % 2 = f % 2 ∧ ∀ j : Nat, j < i → a ≠ mem.getD (l + x * (j : Int)).toNat 0
def SkF (rA mA : Addr) (nr nm : Nat) (n : Nat) (d e l f a x : Int) (mem : List Int) (vs : List Value) (i : Nat) (r : List (Addr × Obj)) : Prop :=
  ∃ k, i = k + 1 ∧ k < n ∧ (∀ j : Nat, j < k → a ≠ mem.getD (l + x * (j : Int)).toNat 0) ∧ (k + 1 = n ∨ a = mem.getD (l + x * (k : Int)).toNat 0) ∧
  ∃ rs f', r = [(rA, listOf rs.toArray nr), (mA, listOf vs.toArray nm)] ∧ IntsAre rs [0, (n : Int) - ((k + 1 : Nat) : Int), d, e, 0, l + x * ((k + 1 : Nat) : Int), f', a] ∧ Builtin.bitAnd f' 215 = seekT a (mem.getD (l + x * (k : Int)).toNat 0) ((n : Int) - ((k + 1 : Nat) : Int)) f
theorem run_seek_is {d e l f a : Int} (nd : [cA, dA, rA, mA].Nodup) (hn0 : 1 ≤ n) (hn1 : n ≤ 10) (hco : co = 177 ∧ x = 1 ∨ co = 185 ∧ x = -1) (hD : CpuD oD rA pc st) (hr : IntsAre rs [0, (n : Int), d, e, 0, l, f, a]) (hi : IntsAre vs mem) (hlen : mem.length = 128) (hb : Bytes mem) (ha : 0 ≤ a ∧ a < 256)
    (hl : ∀ i : Nat, i ≤ n → 0 ≤ l + x * (i : Int) ∧ l + x * (i : Int) < 128) :
    Spec prog w 331 [.ref cA, .ref mA, pv, .int co u] 8 [(cA, instObj 31 dA), (dA, oD), (rA, listOf rs.toArray nr), (mA, listOf vs.toArray nm)]
     (fun need' r => ∃ k oD' rest' t, need' = (cA, instObj 31 dA) :: (dA, oD') :: rest' ∧ r = .int ((k : Nat) : Int) t ∧ 1 ≤ k ∧ k ≤ n ∧ CpuD oD' rA 102 (st + 21 * (k : Int) - 5) ∧ (∀ p ∈ rest', p.1 ≠ cA) ∧ (∀ p ∈ rest', p.1 ≠ dA) ∧ SkF rA mA nr nm n d e l f a x mem vs k rest') := by
  refine run_is (J := SkJ rA mA nr nm n d e l f a x mem vs) (d := 7) (ndp nd 0 1 rfl) hn0 hn1 hD ⟨rs, f, rfl, ?_, rfl, fun j hj => absurd hj (Nat.not_lt_zero _)⟩ ?_ ?_
  · simpa only [Int.natCast_zero, Int.mul_zero, Int.add_zero, Int.sub_zero, Int.ofNat_eq_natCast] using hr
  · rintro i r ⟨rs', f', rfl, _⟩
    exact nd_off nd rfl
  · rintro i r oD₁ st' hin ⟨rs', f', rfl, hr', h2, hno⟩ hD'
    have hl0 := hl i (by omega)
    have hl1 := hl (i + 1) (by omega)
    rw [step_eq] at hl1
    refine ed_seek (ndp nd 0 1 rfl) hD' hco fun t => (seek_one_is nd hD' hr' hi hlen hl0 ⟨by omega, by omega⟩ ⟨by omega, by omega⟩ (hb _) ha).mono ?_
    rintro _ _ ⟨rs₂, f₂, go, rfl, rfl, k1, k2, k3, k4⟩
    rw [← step_eq, show (n : Int) - (i : Int) + -1 = (n : Int) - ((i + 1 : Nat) : Int) by omega] at k1
    rw [show (n : Int) - (i : Int) + -1 = (n : Int) - ((i + 1 : Nat) : Int) by omega] at k2 k3
    refine ⟨_, fun p hp => hp, _, _, rfl, rfl, (nd_off nd rfl).1, (nd_off nd rfl).2, fun hg => ?_, fun hg => ?_⟩
    · have hg' := k2.mp hg
      refine ⟨by omega, rs₂, f₂, rfl, k1, k4.trans h2, fun j hj => ?_⟩
      rcases Nat.lt_succ_iff_lt_or_eq.mp hj with h | h
      · exact hno j h
      · subst h; exact hg'.2
    · refine ⟨i, rfl, hin, hno, ?_, rs₂, f₂, rfl, k1, k3.trans (seekT_congr rfl h2)⟩
      by_cases q : a = mem.getD (l + x * (i : Int)).toNat 0
      · exact .inr q
      · left
        by_cases q2 : (n : Int) - ((i + 1 : Nat) : Int) = 0
        · omega
        · have := k2.mpr ⟨q2, q⟩
          rw [hg] at this
          exact absurd this (by decide)

variable {pA pdA iA oA : Addr} {oP : Obj}
def TkJ (rA mA pA pdA iA oA : Addr) (nr nm ni : Nat) (n : Nat) (c d e l a x : Int) (mem ins : List Int) (is : List Value) (i : Nat) (r : List (Addr × Obj)) : Prop :=
  ∃ rs vs oP f', r = [(rA, listOf rs.toArray nr), (mA, listOf vs.toArray nm), (pA, instObj 52 pdA), (pdA, oP), (iA, listOf is.toArray ni)] ∧ IntsAre rs [(n : Int) - (i : Int), c, d, e, 0, l + x * (i : Int), f', a] ∧ IntsAre vs (tkMem mem ins l x i) ∧ PortsD oP iA oA (i : Int)
def TkF (rA mA pA pdA iA oA : Addr) (nr nm ni : Nat) (n : Nat) (c d e l a x : Int) (mem ins : List Int) (is : List Value) (i : Nat) (r : List (Addr × Obj)) : Prop :=
  i = n ∧ ∃ rs vs oP f', r = [(rA, listOf rs.toArray nr), (mA, listOf vs.toArray nm), (pA, instObj 52 pdA), (pdA, oP), (iA, listOf is.toArray ni)] ∧ IntsAre rs [0, c, d, e, 0, l + x * (n : Int), f', a] ∧ IntsAre vs (tkMem mem ins l x n) ∧ PortsD oP iA oA (n : Int) ∧ Builtin.bitAnd f' 192 = 64
theorem run_take_is {c d e l f a : Int} {ni : Nat} {is : List Value} {ins : List Int} (nd : [cA, dA, rA, mA, pA, pdA, iA].Nodup) (hn0 : 1 ≤ n) (hn1 : n ≤ 10) (hco : co = 178 ∧ x = 1 ∨ co = 186 ∧ x = -1) (hD : CpuD oD rA pc st) (hP : PortsD oP iA oA 0) (hr : IntsAre rs [(n : Int), c, d, e, 0, l, f, a]) (hi : IntsAre vs mem) (hlen : mem.length = 128)
    (hii : IntsAre is ins) (hil : ins.length = n) (hbi : Bytes ins) (hl : ∀ i : Nat, i ≤ n → 0 ≤ l + x * (i : Int) ∧ l + x * (i : Int) < 128) :
    Spec prog w 331 [.ref cA, .ref mA, .ref pA, .int co u] 7 [(cA, instObj 31 dA), (dA, oD), (rA, listOf rs.toArray nr), (mA, listOf vs.toArray nm), (pA, instObj 52 pdA), (pdA, oP), (iA, listOf is.toArray ni)]
     (fun need' r => ∃ k oD' rest' t, need' = (cA, instObj 31 dA) :: (dA, oD') :: rest' ∧ r = .int ((k : Nat) : Int) t ∧ 1 ≤ k ∧ k ≤ n ∧ CpuD oD' rA 102 (st + 21 * (k : Int) - 5) ∧ (∀ p ∈ rest', p.1 ≠ cA) ∧ (∀ p ∈ rest', p.1 ≠ dA) ∧ TkF rA mA pA pdA iA oA nr nm ni n c d e l a x mem ins is k rest') := by
  refine run_is (J := TkJ rA mA pA pdA iA oA nr nm ni n c d e l a x mem ins is) (d := 6) (ndp nd 0 1 rfl) hn0 hn1 hD ⟨rs, vs, oP, f, rfl, ?_, hi, hP⟩ ?_ ?_
  · simpa only [Int.natCast_zero, Int.mul_zero, Int.add_zero, Int.sub_zero, Int.ofNat_eq_natCast] using hr
  · rintro i r ⟨rs', vs', oP', f', rfl, _⟩
    exact nd_off nd rfl
  · rintro i r oD₁ st' hin ⟨rs', vs', oP', f', rfl, hr', hi', hP'⟩ hD'
    have hl0 := hl i (by omega)
    have hl1 := hl (i + 1) (by omega)
    rw [step_eq] at hl1
    refine ed_take (ndp nd 0 1 rfl) hD' hco fun t => (take_one_is nd hD' hP' hr' hi' (by rw [tkMem_length]; exact hlen) hii (by omega) (by omega) (by omega) hl0 ⟨by omega, by omega⟩ ⟨by omega, by omega⟩ (hbi _).1 (hbi _).2).mono ?_
    rintro _ _ ⟨rs₂, vs₂, oP₂, f₂, rfl, rfl, k1, k2, k3, k4⟩
    rw [← step_eq] at k1
    refine ⟨_, fun p hp => hp, _, _, rfl, rfl, (nd_off nd rfl).1, (nd_off nd rfl).2, fun hg => ?_, fun hg => ?_⟩
    · have hg' := ne_zero_true hg
      exact ⟨by omega, rs₂, vs₂, oP₂, f₂, rfl, by rw [show (n : Int) - ((i + 1 : Nat) : Int) = (n : Int) - (i : Int) - 1 by omega]; exact k1, k2, k3.cast (by omega)⟩
    · have hg' := ne_zero_false hg
      have hn : n = i + 1 := by omega
      rw [hg'] at k1
      subst hn
      exact ⟨rfl, rs₂, vs₂, oP₂, f₂, rfl, k1, k2, k3.cast (by omega), k4 hg'⟩

def SdJ (cA dA rA mA pA pdA oA : Addr) (oP : Obj) (nr nm : Nat) (n : Nat) (c d e l a x : Int) (mem : List Int) (vs : List Value) (i : Nat) (r : List (Addr × Obj)) : Prop :=
  ∃ rs f' outs tups k, r = [(rA, listOf rs.toArray nr), (mA, listOf vs.toArray nm), (pA, instObj 52 pdA), (pdA, oP), (oA, listOf outs.toArray k)] ++ tups ∧ IntsAre rs [(n : Int) - (i : Int), c, d, e, 0, l + x * (i : Int), f', a] ∧ OutsAre c outs tups (sent mem l x i) ∧ Apart tups [cA, dA, rA, mA, pA, pdA, oA]
def SdF (cA dA rA mA pA pdA oA : Addr) (oP : Obj) (nr nm : Nat) (n : Nat) (c d e l a x : Int) (mem : List Int) (vs : List Value) (i : Nat) (r : List (Addr × Obj)) : Prop :=
  i = n ∧ ∃ rs f' outs tups k, r = [(rA, listOf rs.toArray nr), (mA, listOf vs.toArray nm), (pA, instObj 52 pdA), (pdA, oP), (oA, listOf outs.toArray k)] ++ tups ∧ IntsAre rs [0, c, d, e, 0, l + x * (n : Int), f', a] ∧ OutsAre c outs tups (sent mem l x n) ∧ Apart tups [cA, dA, rA, mA, pA, pdA, oA] ∧ Builtin.bitAnd f' 192 = 64
theorem apart_off {cA dA : Addr} {l : List Addr} {b : List (Addr × Obj)} {tups : List (Addr × Obj)} (nd : (cA :: dA :: l).Nodup) (e : b.map (·.1) = l) (h : Apart tups (cA :: dA :: l)) : (∀ p ∈ b ++ tups, p.1 ≠ cA) ∧ ∀ p ∈ b ++ tups, p.1 ≠ dA := by
  have h1 := nd_off nd e
  refine ⟨fun p hp => ?_, fun p hp => ?_⟩
  · rcases List.mem_append.mp hp with hp | hp
    · exact h1.1 p hp
    · exact h.ne (.head _) p hp
  · rcases List.mem_append.mp hp with hp | hp
    · exact h1.2 p hp
    · exact h.ne (.tail _ (.head _)) p hp
theorem run_send_is {y : Int} {k : Nat} {c d e l f a : Int} (nd : [cA, dA, rA, mA, pA, pdA, oA].Nodup) (hn0 : 1 ≤ n) (hn1 : n ≤ 10) (hco : co = 179 ∧ x = 1 ∨ co = 187 ∧ x = -1) (hD : CpuD oD rA pc st) (hP : PortsD oP iA oA y) (hr : IntsAre rs [(n : Int), c, d, e, 0, l, f, a]) (hi : IntsAre vs mem) (hlen : mem.length = 128) (hb : Bytes mem) (hc : 0 ≤ c ∧ c < 256)
    (hl : ∀ i : Nat, i ≤ n → 0 ≤ l + x * (i : Int) ∧ l + x * (i : Int) < 128) :
    Spec prog w 331 [.ref cA, .ref mA, .ref pA, .int co u] 7 [(cA, instObj 31 dA), (dA, oD), (rA, listOf rs.toArray nr), (mA, listOf vs.toArray nm), (pA, instObj 52 pdA), (pdA, oP), (oA, listOf [].toArray k)]
     (fun need' r => ∃ k oD' rest' t, need' = (cA, instObj 31 dA) :: (dA, oD') :: rest' ∧ r = .int ((k : Nat) : Int) t ∧ 1 ≤ k ∧ k ≤ n ∧ CpuD oD' rA 102 (st + 21 * (k : Int) - 5) ∧ (∀ p ∈ rest', p.1 ≠ cA) ∧ (∀ p ∈ rest', p.1 ≠ dA) ∧ SdF cA dA rA mA pA pdA oA oP nr nm n c d e l a x mem vs k rest') := by
  refine run_is (J := SdJ cA dA rA mA pA pdA oA oP nr nm n c d e l a x mem vs) (d := 6) (ndp nd 0 1 rfl) hn0 hn1 hD ⟨rs, f, [], [], k, rfl, ?_, .nil, .nil⟩ ?_ ?_
  · simpa only [Int.natCast_zero, Int.mul_zero, Int.add_zero, Int.sub_zero, Int.ofNat_eq_natCast] using hr
  · rintro i r ⟨rs', f', outs, tups, k', rfl, _, _, hA⟩
    exact apart_off nd rfl hA
  · rintro i r oD₁ st' hin ⟨rs', f', outs, tups, k', rfl, hr', hO, hA⟩ hD'
    have hl0 := hl i (by omega)
    have hl1 := hl (i + 1) (by omega)
    rw [step_eq] at hl1
    have hz : outs.length ≤ 100 := by rw [hO.length, sent_length]; omega
    refine ed_send (ndp nd 0 1 rfl) hD' hco fun t => ((send_one_is nd hD' hP hr' hi hlen hz hl0 ⟨by omega, by omega⟩ ⟨by omega, by omega⟩ (hb _) hc).frame (fr := tups) fun p hp q hq e => hA p hp q.1 (List.mem_map_of_mem (f := (·.1)) hq) e.symm).mono ?_
    rintro _ _ ⟨_, rfl, ⟨rs₂, f₂, tA, w₁, w₂, rfl, rfl, k1, k2, k3⟩, _⟩
    rw [← step_eq] at k1
    have hA2 : Apart ((tA, tupOf c w₁ (mem.getD (l + x * (i : Int)).toNat 0) w₂) :: tups) [cA, dA, rA, mA, pA, pdA, oA] := hA.cons fun a ha e => k3 (e ▸ ha)
    have hO2 := hO.snoc (a := tA) (t := w₁) (u := w₂) (o := mem.getD (l + x * (i : Int)).toNat 0)
    rw [← sent_succ] at hO2
    refine ⟨(cA, instObj 31 dA) :: (dA, oD₁) :: ([(rA, listOf rs₂.toArray nr), (mA, listOf vs.toArray nm), (pA, instObj 52 pdA), (pdA, oP), (oA, listOf (outs ++ [Value.ref tA]).toArray (k' + 1))] ++ (tA, tupOf c w₁ (mem.getD (l + x * (i : Int)).toNat 0) w₂) :: tups), fun p hp => ?_, _, _, rfl, rfl, (apart_off nd rfl hA2).1, (apart_off nd rfl hA2).2, fun hg => ?_, fun hg => ?_⟩
    · rw [show (outs ++ [Value.ref tA]).toArray = outs.toArray.push (Value.ref tA) by simp] at hp
      simp only [List.mem_cons, List.mem_append, List.not_mem_nil, or_false, List.cons_append, List.nil_append] at hp ⊢
      rcases hp with h | h | h | h | h | h | h | h | h <;> simp only [h, true_or, or_true]
    · have hg' := ne_zero_true hg
      exact ⟨by omega, rs₂, f₂, _, _, _, rfl, by rw [show (n : Int) - ((i + 1 : Nat) : Int) = (n : Int) - (i : Int) - 1 by omega]; exact k1, hO2, hA2⟩
    · have hg' := ne_zero_false hg
      have hn : n = i + 1 := by omega
      rw [hg'] at k1
      subst hn
      exact ⟨rfl, rs₂, f₂, _, _, _, rfl, k1, hO2, hA2, k2 hg'⟩
end
end Mine
end

section
namespace Mine
theorem fresh_N16a : True ∧ True := by
  w_top off
  k_with_none
  first | (walk1 <;> trivial) | exact ⟨trivial, trivial⟩
end Mine
open PySem PySem.W PyProof.Rows PySem.Calls
set_option Elab.async false
set_option maxRecDepth 100000
set_option maxHeartbeats 8000000
namespace Mine
theorem spec_cls {prog : Program} {w : World} {C f : Addr} {vs : List Value} {d : Nat} {need : List (Addr × Obj)} {Post : List (Addr × Obj) → Value → Prop}
    {name qual : Str} {params : Arguments} {body : List Stmt} {scope : Scope} {dV kV doc pm cdv ct oc : Value} {an od : Option Addr} {osl : Array (Option Value)} {binds : Addr → List (Str × Value)}
    (hm : makesIn (hd.heap_1 w.params) C = true) (hi : findIn (hd.heap_1 w.params) (.ref C) "__init__" = some (some (.ref f))) (hf : isFn (hd.heap_1 w.params) (.ref f) = true)
    (ho : List.lookup f (hd.heap_1 w.params) = some ⟨oc, od, .func (fnOf name qual params body scope dV kV doc pm an cdv ct), osl⟩) (hcd : codeIn (hd.heap_1 w.params) cdv qual = true)
    (hbind : ∀ s x, BindsTo s (fnOf name qual params body scope dV kV doc pm an cdv ct) ⟨.ref x :: vs, []⟩ (binds x)) (hloc : ∀ x, ∀ y ∈ binds x, scope.names.lookup y.1 = some .local)
    (hco : scope.isCoroutine = false) (hgen : scope.isGenerator = false) (hk : scope.kind = .function) (hcell : ∀ x ∈ scope.names, x.2 ≠ .cell) (h1 : 2 ≤ d)
    (h : ∀ (x dx : Addr) (p : Program) (loose : List Str) (mean : ExcName → Option Value) (mg mb : Str → Option Value) (A : Around) (outer : List Env) (A₁ : Around) (base g : Heap) (L : Addr) (h₁ : Heap) (s : Shared) (tk : Nat) (D : Value → Shared → Prop) (E : Value → Shared → Prop),
      (∀ {L' : Addr} {m' : Str → Option Value} {need' : List (Addr × Obj)} {h' : Heap} {tk' : Nat} {v : Value}, Fr g L' h' m' → News g L' h' need' → v = .none → Post need' (.ref x) → D v { s with heap := h', toks := tk' }) →
      (∀ p ∈ need, p.1 < dx) → dx < x → A.frames = some outer →
      Fr g L h₁ (fun y => (binds x).reverse.lookup y) → News g L h₁ ((x, instObj C dx) :: (dx, dictOf [] 0) :: need) → Below A₁ base outer g → (hd.heap_1 w.params).In g → Top p loose mean mg mb g →
      wpAny (model prog w) (A.deeper (envOf qual scope L f cdv)) (execs body (envOf qual scope L f cdv))
        (fun fl s' => D (match fl with | .ret v => v | _ => .none) s') E { s with heap := h₁, toks := tk }) :
    Spec prog w C vs d need Post := by
  intro p loose mean mg mb dp un gd cn cs a ccd cl outer A₀ base h₀ L m rest s Q E B F X N T hkk hsep hd hu hret
  refine call_cls F X N hm hi hf fun x dx h' F' N' l1 l2 => ?_
  have N2 : News h₀ L h' (((x, instObj C dx) :: (dx, dictOf [] 0) :: need) ++ rest) := N'
  refine code_defR B F' X N2 T (fun q hq p hp e => ?_) rfl rfl hkk ho hcd (by simp only [depth_under_make]; show dp + 1 < recursionLimit; omega) (hbind _ x) (hloc x) (fun g L' h₁ F'' N'' B'' X'' T'' => ?_) hco hgen hk hcell
  · have hlt : q.1 < dx := l1 q (List.mem_append_right _ hq)
    rcases List.mem_cons.mp hp with rfl | hp
    · exact absurd e (Nat.ne_of_lt (Nat.lt_trans hlt l2))
    · rcases List.mem_cons.mp hp with rfl | hp
      · exact absurd e (Nat.ne_of_lt hlt)
      · exact hsep q hq p hp e
  · refine h x dx p loose mean mg mb _ _ _ base g L' h₁ s _ (LeaveR h₀ L m g rest (InitBack x fun r s' => match r with | .ok (.ret v) => Q v s' | .ok _ => False | .error e => E e s')) _ (fun {L2 m2 need2 h2 tk2 v} F3 N3 hv hp => ?_) (fun p hp => l1 p (List.mem_append_left _ hp)) l2 rfl F'' N'' B'' X'' T''
    subst hv
    exact leaveR_ F3 N3 fun F4 N4 S4 => ⟨rfl, hret _ _ _ _ F4 N4 S4 hp⟩

/-- a dict in the making: what it says of three names -/
def DictI (a b c : Str) (o : Obj) (k : Nat) (va vb vc : Option Value) : Prop :=
  ∃ es n, o = dictOf es n ∧ es.length ≤ k ∧ es.any (·.refKey) = false ∧ (∀ v, va = some v → getL a es = some (some v)) ∧ (∀ v, vb = some v → getL b es = some (some v)) ∧ ∀ v, vc = some v → getL c es = some (some v)
theorem putL_any {name : Str} {hsh : Int} {t : Tok} {v : Value} : ∀ {es : List DictEntry}, es.any (·.refKey) = false → (putL name hsh (.str name t) v es).any (·.refKey) = false
  | [], _ => rfl
  | a :: r, h => by
    simp only [List.any_cons, Bool.or_eq_false_iff] at h
    simp only [putL]
    cases q : a.key.isStr name with
    | true => simp only [if_true, List.any_cons, Bool.or_eq_false_iff]; exact ⟨h.1, h.2⟩
    | false => simp only [Bool.false_eq_true, if_false, List.any_cons, Bool.or_eq_false_iff]; exact ⟨h.1, putL_any h.2⟩
theorem putL_len {name : Str} {hsh : Int} {key v : Value} : ∀ {es : List DictEntry}, (putL name hsh key v es).length ≤ es.length + 1
  | [] => Nat.le_refl _
  | a :: r => by
    simp only [putL]
    split
    · simp
    · simp only [List.length_cons]; exact Nat.succ_le_succ putL_len
theorem put_same {name : Str} {hsh : Int} {t : Tok} {v : Value} : ∀ {es : List DictEntry}, ∃ e, (putL name hsh (.str name t) v es).find? (·.key.isStr name) = some e ∧ e.val = v
  | [] => ⟨⟨hsh, .str name t, v⟩, by simp [putL, Value.isStr], rfl⟩
  | a :: r => by
    simp only [putL]
    cases q : a.key.isStr name with
    | true => simp only [if_true]; exact ⟨⟨a.hash, a.key, v⟩, by simp [List.find?_cons, q], rfl⟩
    | false => simp only [Bool.false_eq_true, if_false, List.find?_cons, q]; exact put_same
theorem put_ne {name name' : Str} (hne : name ≠ name') {hsh : Int} {t : Tok} {v : Value} : ∀ {es : List DictEntry} {e : DictEntry}, es.find? (·.key.isStr name) = some e → ∃ e', (putL name' hsh (.str name' t) v es).find? (·.key.isStr name) = some e' ∧ e'.val = e.val
  | [], _, h => by cases h
  | a :: r, e, h => by
    simp only [putL]
    cases q : a.key.isStr name' with
    | true =>
      have q2 : a.key.isStr name = false := by
        cases q3 : a.key.isStr name with
        | false => rfl
        | true => exact absurd (isStr_eq q3 q) hne
      simp only [if_true]
      rw [List.find?_cons, q2] at h
      exact ⟨e, by rw [List.find?_cons]; simp only [q2]; exact h, rfl⟩
    | false =>
      simp only [Bool.false_eq_true, if_false]
      rw [List.find?_cons] at h
      rw [List.find?_cons]
      cases q2 : a.key.isStr name with
      | true => rw [q2] at h; exact ⟨e, h, rfl⟩
      | false => rw [q2] at h; exact put_ne hne h
theorem getL_put {name : Str} {hsh : Int} {t : Tok} {v : Value} {es : List DictEntry} : getL name (putL name hsh (.str name t) v es) = some (some v) := getL_some.mpr put_same
theorem getL_put_ne {name name' : Str} (hne : name ≠ name') {hsh : Int} {t : Tok} {v u : Value} {es : List DictEntry} (h : getL name es = some (some u)) : getL name (putL name' hsh (.str name' t) v es) = some (some u) := by
  obtain ⟨e, he, hv⟩ := getL_some.mp h
  obtain ⟨e', he', hv'⟩ := put_ne hne he
  exact getL_some.mpr ⟨e', he', hv'.trans hv⟩
theorem getL_any {name : Str} {es : List DictEntry} (h : es.any (·.refKey) = false) : (getL name es).isSome = true := by
  unfold getL
  cases es.find? (·.key.isStr name) with
  | some e => rfl
  | none => rw [h]; rfl
section
variable {prog : Program} {w : World} {A : Around} {E : Value → Shared → Prop} {s : Shared} {h₀ : Heap} {L x dx C : Addr} {m : Str → Option Value} {news : List (Addr × Obj)} {g : Obj → List (Addr × Obj)} {oD : Obj} {v : Value} {a b c name : Str} {k : Nat} {va vb vc : Option Value} {Q : Unit → Shared → Prop}
theorem ini_set {P : Obj → Prop} (F : Fr h₀ L s.heap m) (X : (hd.heap_1 w.params).In h₀) (N : News h₀ L s.heap news) (hx : (x, instObj C dx) ∈ news) (hD : DictI a b c oD k va vb vc) (U : UpdF dx oD news g) (hk : k < 900)
    (hs : findIn (hd.heap_1 w.params) (.ref C) "__setattr__" = some (some (.builtin "object.__setattr__"))) (hp : plainOver (hd.heap_1 w.params) C = true) (ht : takerIn (hd.heap_1 w.params) C name = some none) (hh : hasDictIn (hd.heap_1 w.params) C = true)
    (hP : ∀ es n, oD = dictOf es n → es.length ≤ k → es.any (·.refKey) = false → (∀ v, va = some v → getL a es = some (some v)) → (∀ v, vb = some v → getL b es = some (some v)) → (∀ v, vc = some v → getL c es = some (some v)) → P (dictOf (putL name (PyData.keyHash w.params name) (.str name (s.toks + 1)) v es) (putN name es n)))
    (h : ∀ h' o', Fr h₀ L h' m → News h₀ L h' (g o') → P o' → Q () { s with heap := h', toks := s.toks + 2 }) :
    wpAny (model prog w) A (setAttr (.ref x) name v) Q E s := by
  obtain ⟨es, n, rfl, hl, hr, h1, h2, h3⟩ := hD
  exact set_dict F X N (InstAt.of_news N hx (updF_mem U)) rfl hs hp ht hh (getL_any hr) rfl (upd_of U) (Nat.le_trans putL_len (by omega)) (fun h' F' N' => h h' _ F' N' (hP es n rfl hl hr h1 h2 h3))
theorem ini_other (F : Fr h₀ L s.heap m) (X : (hd.heap_1 w.params).In h₀) (N : News h₀ L s.heap news) (hx : (x, instObj C dx) ∈ news) (hD : DictI a b c oD k va vb vc) (U : UpdF dx oD news g) (hk : k < 900)
    (hs : findIn (hd.heap_1 w.params) (.ref C) "__setattr__" = some (some (.builtin "object.__setattr__"))) (hp : plainOver (hd.heap_1 w.params) C = true) (ht : takerIn (hd.heap_1 w.params) C name = some none) (hh : hasDictIn (hd.heap_1 w.params) C = true)
    (na : a ≠ name) (nb : b ≠ name) (nc : c ≠ name) (h : ∀ h' o', Fr h₀ L h' m → News h₀ L h' (g o') → DictI a b c o' (k + 1) va vb vc → Q () { s with heap := h', toks := s.toks + 2 }) :
    wpAny (model prog w) A (setAttr (.ref x) name v) Q E s :=
  ini_set F X N hx hD U hk hs hp ht hh (fun es n _ hl hr h1 h2 h3 => ⟨_, _, rfl, Nat.le_trans putL_len (by omega), putL_any hr, fun v q => getL_put_ne na (h1 v q), fun v q => getL_put_ne nb (h2 v q), fun v q => getL_put_ne nc (h3 v q)⟩) h
theorem ini_a (F : Fr h₀ L s.heap m) (X : (hd.heap_1 w.params).In h₀) (N : News h₀ L s.heap news) (hx : (x, instObj C dx) ∈ news) (hD : DictI a b c oD k va vb vc) (U : UpdF dx oD news g) (hk : k < 900)
    (hs : findIn (hd.heap_1 w.params) (.ref C) "__setattr__" = some (some (.builtin "object.__setattr__"))) (hp : plainOver (hd.heap_1 w.params) C = true) (ht : takerIn (hd.heap_1 w.params) C a = some none) (hh : hasDictIn (hd.heap_1 w.params) C = true)
    (nb : b ≠ a) (nc : c ≠ a) (h : ∀ h' o', Fr h₀ L h' m → News h₀ L h' (g o') → DictI a b c o' (k + 1) (some v) vb vc → Q () { s with heap := h', toks := s.toks + 2 }) :
    wpAny (model prog w) A (setAttr (.ref x) a v) Q E s :=
  ini_set F X N hx hD U hk hs hp ht hh (fun es n _ hl hr h1 h2 h3 => ⟨_, _, rfl, Nat.le_trans putL_len (by omega), putL_any hr, fun v q => by cases q; exact getL_put, fun v q => getL_put_ne nb (h2 v q), fun v q => getL_put_ne nc (h3 v q)⟩) h
theorem ini_b (F : Fr h₀ L s.heap m) (X : (hd.heap_1 w.params).In h₀) (N : News h₀ L s.heap news) (hx : (x, instObj C dx) ∈ news) (hD : DictI a b c oD k va vb vc) (U : UpdF dx oD news g) (hk : k < 900)
    (hs : findIn (hd.heap_1 w.params) (.ref C) "__setattr__" = some (some (.builtin "object.__setattr__"))) (hp : plainOver (hd.heap_1 w.params) C = true) (ht : takerIn (hd.heap_1 w.params) C b = some none) (hh : hasDictIn (hd.heap_1 w.params) C = true)
    (na : a ≠ b) (nc : c ≠ b) (h : ∀ h' o', Fr h₀ L h' m → News h₀ L h' (g o') → DictI a b c o' (k + 1) va (some v) vc → Q () { s with heap := h', toks := s.toks + 2 }) :
    wpAny (model prog w) A (setAttr (.ref x) b v) Q E s :=
  ini_set F X N hx hD U hk hs hp ht hh (fun es n _ hl hr h1 h2 h3 => ⟨_, _, rfl, Nat.le_trans putL_len (by omega), putL_any hr, fun v q => getL_put_ne na (h1 v q), fun v q => by cases q; exact getL_put, fun v q => getL_put_ne nc (h3 v q)⟩) h
theorem ini_c (F : Fr h₀ L s.heap m) (X : (hd.heap_1 w.params).In h₀) (N : News h₀ L s.heap news) (hx : (x, instObj C dx) ∈ news) (hD : DictI a b c oD k va vb vc) (U : UpdF dx oD news g) (hk : k < 900)
    (hs : findIn (hd.heap_1 w.params) (.ref C) "__setattr__" = some (some (.builtin "object.__setattr__"))) (hp : plainOver (hd.heap_1 w.params) C = true) (ht : takerIn (hd.heap_1 w.params) C c = some none) (hh : hasDictIn (hd.heap_1 w.params) C = true)
    (na : a ≠ c) (nb : b ≠ c) (h : ∀ h' o', Fr h₀ L h' m → News h₀ L h' (g o') → DictI a b c o' (k + 1) va vb (some v) → Q () { s with heap := h', toks := s.toks + 2 }) :
    wpAny (model prog w) A (setAttr (.ref x) c v) Q E s :=
  ini_set F X N hx hD U hk hs hp ht hh (fun es n _ hl hr h1 h2 h3 => ⟨_, _, rfl, Nat.le_trans putL_len (by omega), putL_any hr, fun v q => getL_put_ne na (h1 v q), fun v q => getL_put_ne nb (h2 v q), fun v q => by cases q; exact getL_put⟩) h
end
theorem DictI.start {a b c : Str} : DictI a b c (dictOf [] 0) 0 none none none := ⟨_, _, rfl, Nat.le_refl _, rfl, fun _ q => (nomatch q), fun _ q => (nomatch q), fun _ q => (nomatch q)⟩
theorem cpuD_of {oD : Obj} {rA : Addr} {k : Nat} {pc st : Int} {t t' : Tok} (hk : k ≤ 900) (h : DictI "r" "pc" "states" oD k (some (.ref rA)) (some (.int pc t)) (some (.int st t'))) : CpuD oD rA pc st := by
  obtain ⟨es, n, rfl, hl, _, h1, h2, h3⟩ := h
  exact ⟨es, n, rfl, by omega, h1 _ rfl, ⟨_, h2 _ rfl⟩, ⟨_, h3 _ rfl⟩⟩
theorem portsD_of {oD : Obj} {iA oA : Addr} {k : Nat} {y : Int} {t : Tok} (hk : k ≤ 900) (h : DictI "ins" "outs" "at" oD k (some (.ref iA)) (some (.ref oA)) (some (.int y t))) : PortsD oD iA oA y := by
  obtain ⟨es, n, rfl, hl, _, h1, h2, h3⟩ := h
  exact ⟨es, n, rfl, by omega, h1 _ rfl, h2 _ rfl, ⟨_, h3 _ rfl⟩⟩
end Mine
namespace Mine
theorem nod3 {a b c : Nat} (h1 : a ≠ b) (h2 : a ≠ c) (h3 : b ≠ c) : [a, b, c].Nodup := by simp [h1, h2, h3]
theorem nod4 {a b c d : Nat} (h1 : a ≠ b) (h2 : a ≠ c) (h3 : a ≠ d) (h4 : b ≠ c) (h5 : b ≠ d) (h6 : c ≠ d) : [a, b, c, d].Nodup := by simp [h1, h2, h3, h4, h5, h6]
theorem cpu_set_r {prog : Program} {w : World} {A : Around} {E : Value → Shared → Prop} {s : Shared} {h₀ : Heap} {L x dx rA rB : Addr} {m : Str → Option Value} {news : List (Addr × Obj)} {g : Obj → List (Addr × Obj)} {oD : Obj} {pc st : Int} {Q : Unit → Shared → Prop} (F : Fr h₀ L s.heap m) (X : (hd.heap_1 w.params).In h₀) (N : News h₀ L s.heap news) (hx : (x, instObj 31 dx) ∈ news) (hD : CpuD oD rA pc st) (U : UpdF dx oD news g)
    (h : ∀ h' o', Fr h₀ L h' m → News h₀ L h' (g o') → CpuD o' rB pc st → Q () { s with heap := h', toks := s.toks + 2 }) : wpAny (model prog w) A (setAttr (.ref x) "r" (.ref rB)) Q E s := by
  obtain ⟨es, n, rfl, hz, hr, ⟨t1, hp⟩, ⟨t2, hs⟩⟩ := hD
  k_dflt (refine' set_dict (C := 31) F X N (InstAt.of_news N hx (updF_mem U)) rfl ?k6 ?k7 ?k8 ?k9 (by rw [hr]; rfl) rfl (upd_of U) (by rw [putL_length (getL_some.mp hr)]; omega) (fun h' F' N' => h h' _ F' N' ⟨_, _, rfl, by rw [putL_length (getL_some.mp hr)]; exact hz, getL_same hr, ⟨_, getL_ne (by decide) hr hp⟩, ⟨_, getL_ne (by decide) hr hs⟩⟩); (case k6 => k_is); (case k7 => k_is); (case k8 => k_is); (case k9 => k_is))
end Mine
namespace Mine
def LtAll (i : Nat) : List Nat → Prop
  | [] => True
  | [a] => a < i
  | a :: b :: l => a < i ∧ LtAll i (b :: l)
theorem ltAll_mem {i : Nat} : ∀ {l : List Nat}, LtAll i l → ∀ a ∈ l, a < i
  | [], _, a, h => nomatch h
  | [b], h, a, ha => by rw [List.mem_singleton.mp ha]; exact h
  | b :: c :: l, h, a, ha => by
    rcases List.mem_cons.mp ha with rfl | ha
    · exact h.1
    · exact ltAll_mem h.2 a ha
theorem nd_lt {i : Nat} {l : List Nat} (nd : l.Nodup) (h : LtAll i l) : (i :: l).Nodup := List.nodup_cons.mpr ⟨fun q => Nat.lt_irrefl _ (ltAll_mem h _ q), nd⟩
theorem nd_one {i : Nat} : [i].Nodup := by simp
theorem News.behind {h₀ : Heap} {L : Addr} {h : Heap} {p : Addr × Obj} {l : List (Addr × Obj)} (N : News h₀ L h (p :: l)) : News h₀ L h l := fun q hq => N q (.tail _ hq)
/-- a ledger cut down to some of its entries -/
theorem News.pick {h₀ : Heap} {L : Addr} {h : Heap} {need l r : List (Addr × Obj)} (N : News h₀ L h l) (P : Pick need l r) : News h₀ L h need := fun q hq => N q (P.mem q (List.mem_append_left _ hq))
theorem regs_open {rs : List Value} {a b c d e f g h : Int} (hi : IntsAre rs [a, b, c, d, e, f, g, h]) : ∃ t₀ t₁ t₂ t₃ t₄ t₅ t₆ t₇, rs = [.int a t₀, .int b t₁, .int c t₂, .int d t₃, .int e t₄, .int f t₅, .int g t₆, .int h t₇] := by
  cases hi with | cons _ t₀ hi => cases hi with | cons _ t₁ hi => cases hi with | cons _ t₂ hi => cases hi with | cons _ t₃ hi => cases hi with | cons _ t₄ hi => cases hi with | cons _ t₅ hi => cases hi with | cons _ t₆ hi => cases hi with | cons _ t₇ hi => cases hi; exact ⟨t₀, t₁, t₂, t₃, t₄, t₅, t₆, t₇, rfl⟩
end Mine
namespace Mine
theorem News.sel {h₀ : Heap} {L : Addr} {h : Heap} {l : List (Addr × Obj)} (N : News h₀ L h l) (is : List Nat) : News h₀ L h (is.filterMap fun i => l[i]?) := fun q hq => by
  obtain ⟨i, _, hi⟩ := List.mem_filterMap.mp hq
  exact N q (List.mem_of_getElem? hi)
end Mine
namespace Mine
theorem nd_of3 {h₀ : Heap} {L : Addr} {h : Heap} {a b c : Addr} {oa ob oc : Obj} (_ : News h₀ L h [(a, oa), (b, ob), (c, oc)]) (h1 : @LT.lt Nat _ b a ∧ @LT.lt Nat _ c a) (h2 : @LT.lt Nat _ c b) : [a, b, c].Nodup := nd_lt (nd_lt nd_one h2) h1
end Mine
namespace Mine
def NeAll (i : Nat) : List Nat → Prop
  | [] => True
  | [a] => a ≠ i
  | a :: b :: l => a ≠ i ∧ NeAll i (b :: l)
theorem neAll_mem {i : Nat} : ∀ {l : List Nat}, NeAll i l → ∀ a ∈ l, a ≠ i
  | [], _, a, h => nomatch h
  | [b], h, a, ha => by rw [List.mem_singleton.mp ha]; exact h
  | b :: c :: l, h, a, ha => by
    rcases List.mem_cons.mp ha with rfl | ha
    · exact h.1
    · exact neAll_mem h.2 a ha
theorem nd_ne {i : Nat} {l : List Nat} (nd : l.Nodup) (h : NeAll i l) : (i :: l).Nodup := List.nodup_cons.mpr ⟨fun q => neAll_mem h _ q rfl, nd⟩
end Mine
end

section
namespace Mine
theorem fresh_N16 : True ∧ True := by
  w_top off
  k_with_none
  first | (walk1 <;> trivial) | exact ⟨trivial, trivial⟩
end Mine
open PySem PySem.W PyProof.Rows PySem.Spec PySem.Calls
set_option Elab.async false
set_option maxRecDepth 100000
set_option maxHeartbeats 8000000
namespace Mine
set_option pp.maxSteps 20000
set_option pp.deepTerms false
set_option pp.deepTerms.threshold 4
local macro_rules | `(tactic| k_ne) => `(tactic| k_extra "ne")
local macro_rules | `(tactic| walk_at "setAttr ref") => `(tactic| (k_here; k_extra "setAttr ref"))
local macro_rules | `(tactic| k_all) => `(tactic| k_extra "all")

theorem ports_is {prog : Program} {w : World} {iA : Addr} {o : Obj} :
    Spec prog w 52 [.ref iA] 2 [(iA, o)] (fun need' r => ∃ pA pdA oA oP no, need' = [(pA, instObj 52 pdA), (pdA, oP), (oA, listOf [].toArray no), (iA, o)] ∧ r = .ref pA ∧ PortsD oP iA oA 0 ∧ [pA, pdA, oA, iA].Nodup) := by
  k_with_none
  k_with "ne" => (first | assumption | exact Ne.symm (by assumption) | (refine neN ?_; (try dsimp only); omega))
  k_with "all" => (repeat' (first | exact List.forall_mem_nil _ | assumption | (refine' List.forall_mem_cons.mpr ⟨?_, ?_⟩) | k_ne))
  k_with "setAttr ref" => k_dflt (refine ini_other (by k_asm) (by k_asm) (by k_asm) (by k_mem) (by assumption) (by k_updF) (by decide) (by k_is) (by k_is) (by k_is) (by k_is) (by decide) (by decide) (by decide) ?_; k_whole; clear hD; intro h' o' F' N' hD; (try dsimp only at N'); (try k_sweep))
  k_with "setAttr ref" => k_dflt ((with_reducible show wpAny _ _ (setAttr (Value.ref _) (PySem.Str.ofString "ins") _) _ _ _); refine ini_a (by k_asm) (by k_asm) (by k_asm) (by k_mem) (by assumption) (by k_updF) (by decide) (by k_is) (by k_is) (by k_is) (by k_is) (by decide) (by decide) ?_; k_whole; clear hD; intro h' o' F' N' hD; (try dsimp only at N'); (try k_sweep))
  k_with "setAttr ref" => k_dflt ((with_reducible show wpAny _ _ (setAttr (Value.ref _) (PySem.Str.ofString "outs") _) _ _ _); refine ini_b (by k_asm) (by k_asm) (by k_asm) (by k_mem) (by assumption) (by k_updF) (by decide) (by k_is) (by k_is) (by k_is) (by k_is) (by decide) (by decide) ?_; k_whole; clear hD; intro h' o' F' N' hD; (try dsimp only at N'); (try k_sweep))
  k_with "setAttr ref" => k_dflt ((with_reducible show wpAny _ _ (setAttr (Value.ref _) (PySem.Str.ofString "at") _) _ _ _); refine ini_c (by k_asm) (by k_asm) (by k_asm) (by k_mem) (by assumption) (by k_updF) (by decide) (by k_is) (by k_is) (by k_is) (by k_is) (by decide) (by decide) ?_; k_whole; clear hD; intro h' o' F' N' hD; (try dsimp only at N'); (try k_sweep))
  k_dflt (refine' spec_cls ?k6 ?k7 ?k8 ?kA ?kB ?kC ?kD ?c2 ?c3 ?c4 ?c5 ?c6 ?_; (case k6 => k_is); (case k7 => k_is); (case k8 => k_is); (case kA => k_is); (case kB => k_is); (case kC => exact fun s x => BindsTo.of_eq rfl); (case kD => exact fun x => locs rfl); (case c2 => exact rfl); (case c3 => exact rfl); (case c4 => exact rfl); (case c5 => decide); (case c6 => decide); k_whole)
  intro xA xD p loose mean mg mb A outer A₁ base g L h₁ s tk D9 E9 hD9 l1 l2 hAf F N B X T
  (try dsimp only)
  (try k_fold)
  have l3 : @LT.lt Nat _ iA xD := l1 _ (.head _)
  have l4 : @LT.lt Nat _ xD xA := l2
  have hD : DictI "ins" "outs" "at" (dictOf [] 0) 0 none none none := DictI.start
  k_steps
  exact hD9 (by assumption) (cb_drop (by assumption) (by repeat' (first | exact List.forall_mem_nil _ | (refine' List.forall_mem_cons.mpr ⟨?_, ?_⟩) | k_mem))) rfl ⟨_, _, _, _, _, rfl, rfl, portsD_of (by decide) hD, nod4 (by k_ne) (by k_ne) (by k_ne) (by k_ne) (by k_ne) (by k_ne)⟩

theorem cpu_new_is {prog : Program} {w : World} : Spec prog w 31 [] 2 [] (fun need' r => ∃ cA dA rA oD, need' = [(cA, instObj 31 dA), (dA, oD)] ∧ r = .ref cA ∧ CpuD oD rA 0 0 ∧ cA ≠ dA) := by
  k_with_none
  k_with "ne" => (first | assumption | exact Ne.symm (by assumption) | (refine neN ?_; (try dsimp only); omega))
  k_with "all" => (repeat' (first | exact List.forall_mem_nil _ | assumption | (refine' List.forall_mem_cons.mpr ⟨?_, ?_⟩) | k_ne))
  k_with "setAttr ref" => k_dflt (refine ini_other (by k_asm) (by k_asm) (by k_asm) (by k_mem) (by assumption) (by k_updF) (by decide) (by k_is) (by k_is) (by k_is) (by k_is) (by decide) (by decide) (by decide) ?_; k_whole; clear hD; intro h' o' F' N' hD; (try dsimp only at N'); (try k_sweep))
  k_with "setAttr ref" => k_dflt ((with_reducible show wpAny _ _ (setAttr (Value.ref _) (PySem.Str.ofString "r") _) _ _ _); refine ini_a (by k_asm) (by k_asm) (by k_asm) (by k_mem) (by assumption) (by k_updF) (by decide) (by k_is) (by k_is) (by k_is) (by k_is) (by decide) (by decide) ?_; k_whole; clear hD; intro h' o' F' N' hD; (try dsimp only at N'); (try k_sweep))
  k_with "setAttr ref" => k_dflt ((with_reducible show wpAny _ _ (setAttr (Value.ref _) (PySem.Str.ofString "pc") _) _ _ _); refine ini_b (by k_asm) (by k_asm) (by k_asm) (by k_mem) (by assumption) (by k_updF) (by decide) (by k_is) (by k_is) (by k_is) (by k_is) (by decide) (by decide) ?_; k_whole; clear hD; intro h' o' F' N' hD; (try dsimp only at N'); (try k_sweep))
  k_with "setAttr ref" => k_dflt ((with_reducible show wpAny _ _ (setAttr (Value.ref _) (PySem.Str.ofString "states") _) _ _ _); refine ini_c (by k_asm) (by k_asm) (by k_asm) (by k_mem) (by assumption) (by k_updF) (by decide) (by k_is) (by k_is) (by k_is) (by k_is) (by decide) (by decide) ?_; k_whole; clear hD; intro h' o' F' N' hD; (try dsimp only at N'); (try k_sweep))
  k_dflt (refine' spec_cls ?k6 ?k7 ?k8 ?kA ?kB ?kC ?kD ?c2 ?c3 ?c4 ?c5 ?c6 ?_; (case k6 => k_is); (case k7 => k_is); (case k8 => k_is); (case kA => k_is); (case kB => k_is); (case kC => exact fun s x => BindsTo.of_eq rfl); (case kD => exact fun x => locs rfl); (case c2 => exact rfl); (case c3 => exact rfl); (case c4 => exact rfl); (case c5 => decide); (case c6 => decide); k_whole)
  intro xA xD p loose mean mg mb A outer A₁ base g L h₁ s tk D9 E9 hD9 l1 l2 hAf F N B X T
  (try dsimp only)
  (try k_fold)
  have l4 : @LT.lt Nat _ xD xA := l2
  have hD : DictI "r" "pc" "states" (dictOf [] 0) 0 none none none := DictI.start
  k_steps
  exact hD9 (by assumption) (cb_drop (by assumption) (by repeat' (first | exact List.forall_mem_nil _ | (refine' List.forall_mem_cons.mpr ⟨?_, ?_⟩) | k_mem))) rfl ⟨_, _, _, _, rfl, rfl, cpuD_of (by decide) hD, by k_ne⟩

theorem law_cpu_is {prog : Program} {w : World} {b c e l f a : Int} {t₁ t₂ t₃ t₄ t₅ t₆ : Tok} :
    Spec prog w 338 [.int b t₁, .int c t₂, .int e t₃, .int l t₄, .int f t₅, .int a t₆] 4 []
     (fun need' r => ∃ cA dA rA oD rs nr, need' = [(cA, instObj 31 dA), (dA, oD), (rA, listOf rs.toArray nr)] ∧ r = .ref cA ∧ CpuD oD rA 0 0 ∧ IntsAre rs [b, c, 0, e, 0, l, f, a] ∧ [cA, dA, rA].Nodup) := by
  k_with_none
  k_with "ne" => (first | assumption | exact Ne.symm (by assumption) | (refine neN ?_; (try dsimp only); omega))
  k_with "all" => (repeat' (first | exact List.forall_mem_nil _ | assumption | (refine' List.forall_mem_cons.mpr ⟨?_, ?_⟩) | k_ne))
  k_with "setAttr ref" => k_dflt (refine cpu_set_r (by k_asm) (by k_asm) (by k_asm) (by k_mem) (by assumption) (by k_updF) ?_; k_whole; clear hD; intro h' o' F' N' hD; (try dsimp only at N'); (try k_sweep))
  k_dflt (refine' spec_of ?k6 ?k7 ?k9 ?kB ?c2 ?c3 ?c4 ?c5 ?c6 ?_; (case k6 => k_is); (case k7 => k_is); (case k9 => exact fun s => BindsTo.of_eq rfl); (case kB => exact locs rfl); (case c2 => exact rfl); (case c3 => exact rfl); (case c4 => exact rfl); (case c5 => decide); (case c6 => decide); k_whole)
  intro p loose mean mg mb dp un gd outer A₁ base g L h₁ s tk D9 hD9 F N B X T hd hu
  (try dsimp only)
  (try k_fold)
  k_steps
  k_dflt (refine' spec_use cpu_new_is ?k1 ?k2 ?k3 ?k4 ?k5 ?kK ?kP ?kS ?kd ?ku ?_; (case k1 => k_asm); (case k2 => k_asm); (case k3 => k_asm); (case k4 => k_asm); (case k5 => k_asm); (case kK => exact rfl); (case kP => exact Pick.nil); (case kS => exact fun q hq => (nomatch hq)); (case kd => first | omega | (dsimp only [ktrTop, Around.deeper]; omega)); (case ku => first | omega | (dsimp only [ktrTop, Around.deeper]; omega)); rintro _ _ h9 tk9 F9 N9 S9 ⟨cA, dA, rA, oD, rfl, rfl, hD, hne⟩; (try dsimp only [List.cons_append, List.nil_append] at N9); (try dsimp only); (try k_sweep); (try k_fold))
  k_steps
  exact hD9 (by assumption) (cb_drop (by assumption) (by repeat' (first | exact List.forall_mem_nil _ | (refine' List.forall_mem_cons.mpr ⟨?_, ?_⟩) | k_mem))) ⟨_, _, _, _, _, _, rfl, rfl, (by assumption), .cons _ _ (.cons _ _ (.cons _ _ (.cons _ _ (.cons _ _ (.cons _ _ (.cons _ _ (.cons _ _ .nil))))))), nod3 hne (by k_ne) (by k_ne)⟩
end Mine
end

section
namespace Mine
theorem fresh_N17 : True ∧ True := by
  w_top off
  k_with_none
  first | (walk1 <;> trivial) | exact ⟨trivial, trivial⟩
end Mine
open PySem PySem.W PyProof.Rows PySem.Spec PySem.Calls
set_option Elab.async false
set_option maxRecDepth 100000
set_option maxHeartbeats 8000000
namespace Mine
set_option pp.maxSteps 20000
set_option pp.deepTerms false
set_option pp.deepTerms.threshold 4
local macro_rules | `(tactic| k_ne) => `(tactic| k_extra "ne")
local macro_rules | `(tactic| walk_at "getAttr ref") => `(tactic| (k_here; k_extra "getAttr ref"))
local macro_rules | `(tactic| walk_at "pyIter ref") => `(tactic| (k_here; k_extra "pyIter ref"))
local macro_rules | `(tactic| walk_at "exec For Name Call cons nil") => `(tactic| (k_here; k_extra "for"))
local macro_rules | `(tactic| walk_at "eval IfExp") => `(tactic| (k_here; k_extra "eval IfExp"))

theorem copied_is {prog : Program} {w : World} {mA : Addr} {nm : Nat} {vs : List Value} {mem : List Int} {t₁ t₂ t₃ t₄ t₅ : Tok} {l x way f : Int} {n : Nat} (hn0 : 1 ≤ n) (hn1 : n ≤ 10) (hx : x = 1 ∨ x = -1) (hi : IntsAre vs mem) (hlen : mem.length = 128) (hb : Bytes mem)
    (hl : 40 ≤ l ∧ l < 88) (hw : -9 ≤ way ∧ way ≤ 9) (hf0 : 0 ≤ f) (hf1 : f < 256) :
    Spec prog w 345 [.ref mA, .int (n : Int) t₁, .int x t₂, .int l t₃, .int way t₄, .int f t₅] 9 [(mA, listOf vs.toArray nm)] (fun need' r => need' = [(mA, listOf vs.toArray nm)] ∧ r = .bool true) := by
  k_with_none
  k_with "ne" => (first | assumption | exact Ne.symm (by assumption) | (refine neN ?_; (try dsimp only); first | exact Nat.ne_of_lt (And.left (by with_reducible assumption)) | exact Nat.ne_of_lt (And.left (And.right (by with_reducible assumption))) | exact Nat.ne_of_lt (And.left (And.right (And.right (by with_reducible assumption)))) | exact Nat.ne_of_lt (And.left (And.right (And.right (And.right (by with_reducible assumption))))) | exact Nat.ne_of_lt (And.left (And.right (And.right (And.right (And.right (by with_reducible assumption)))))) | exact Nat.ne_of_lt (And.left (And.right (And.right (And.right (And.right (And.right (by with_reducible assumption))))))) | exact Nat.ne_of_lt (And.left (And.right (And.right (And.right (And.right (And.right (And.right (by with_reducible assumption)))))))) | exact Nat.ne_of_lt (And.left (And.right (And.right (And.right (And.right (And.right (And.right (And.right (by with_reducible assumption))))))))) | exact Nat.ne_of_lt (And.left (And.right (And.right (And.right (And.right (And.right (And.right (And.right (And.right (by with_reducible assumption)))))))))) | exact Nat.ne_of_lt (And.left (And.right (And.right (And.right (And.right (And.right (And.right (And.right (And.right (And.right (by with_reducible assumption))))))))))) | exact Nat.ne_of_lt (And.left (And.right (And.right (And.right (And.right (And.right (And.right (And.right (And.right (And.right (And.right (by with_reducible assumption)))))))))))) | exact Nat.ne_of_lt (And.left (And.right (And.right (And.right (And.right (And.right (And.right (And.right (And.right (And.right (And.right (And.right (by with_reducible assumption))))))))))))) | exact Nat.ne_of_lt (And.left (And.right (And.right (And.right (And.right (And.right (And.right (And.right (And.right (And.right (And.right (And.right (And.right (by with_reducible assumption)))))))))))))) | exact Nat.ne_of_lt (And.left (And.right (And.right (And.right (And.right (And.right (And.right (And.right (And.right (And.right (And.right (And.right (And.right (And.right (by with_reducible assumption))))))))))))))) | exact Nat.ne_of_lt (And.left (And.right (And.right (And.right (And.right (And.right (And.right (And.right (And.right (And.right (And.right (And.right (And.right (And.right (And.right (by with_reducible assumption)))))))))))))))) | exact Nat.ne_of_lt (by with_reducible assumption) | exact Nat.ne_of_lt (And.right (by with_reducible assumption)) | exact Nat.ne_of_lt (And.right (And.right (by with_reducible assumption))) | exact Nat.ne_of_lt (And.right (And.right (And.right (by with_reducible assumption)))) | exact Nat.ne_of_lt (And.right (And.right (And.right (And.right (by with_reducible assumption))))) | exact Nat.ne_of_lt (And.right (And.right (And.right (And.right (And.right (by with_reducible assumption)))))) | exact Nat.ne_of_lt (And.right (And.right (And.right (And.right (And.right (And.right (by with_reducible assumption))))))) | exact Nat.ne_of_lt (And.right (And.right (And.right (And.right (And.right (And.right (And.right (by with_reducible assumption)))))))) | exact Nat.ne_of_lt (And.right (And.right (And.right (And.right (And.right (And.right (And.right (And.right (by with_reducible assumption))))))))) | exact Nat.ne_of_lt (And.right (And.right (And.right (And.right (And.right (And.right (And.right (And.right (And.right (by with_reducible assumption)))))))))) | exact Nat.ne_of_lt (And.right (And.right (And.right (And.right (And.right (And.right (And.right (And.right (And.right (And.right (by with_reducible assumption))))))))))) | exact Nat.ne_of_lt (And.right (And.right (And.right (And.right (And.right (And.right (And.right (And.right (And.right (And.right (And.right (by with_reducible assumption)))))))))))) | exact Nat.ne_of_lt (And.right (And.right (And.right (And.right (And.right (And.right (And.right (And.right (And.right (And.right (And.right (And.right (by with_reducible assumption))))))))))))) | exact Nat.ne_of_lt (And.right (And.right (And.right (And.right (And.right (And.right (And.right (And.right (And.right (And.right (And.right (And.right (And.right (by with_reducible assumption)))))))))))))) | exact Nat.ne_of_lt (And.right (And.right (And.right (And.right (And.right (And.right (And.right (And.right (And.right (And.right (And.right (And.right (And.right (And.right (by with_reducible assumption))))))))))))))) | exact Nat.ne_of_gt (And.left (by with_reducible assumption)) | exact Nat.ne_of_gt (And.left (And.right (by with_reducible assumption))) | exact Nat.ne_of_gt (And.left (And.right (And.right (by with_reducible assumption)))) | exact Nat.ne_of_gt (And.left (And.right (And.right (And.right (by with_reducible assumption))))) | exact Nat.ne_of_gt (And.left (And.right (And.right (And.right (And.right (by with_reducible assumption)))))) | exact Nat.ne_of_gt (And.left (And.right (And.right (And.right (And.right (And.right (by with_reducible assumption))))))) | exact Nat.ne_of_gt (And.left (And.right (And.right (And.right (And.right (And.right (And.right (by with_reducible assumption)))))))) | exact Nat.ne_of_gt (And.left (And.right (And.right (And.right (And.right (And.right (And.right (And.right (by with_reducible assumption))))))))) | exact Nat.ne_of_gt (And.left (And.right (And.right (And.right (And.right (And.right (And.right (And.right (And.right (by with_reducible assumption)))))))))) | exact Nat.ne_of_gt (And.left (And.right (And.right (And.right (And.right (And.right (And.right (And.right (And.right (And.right (by with_reducible assumption))))))))))) | exact Nat.ne_of_gt (And.left (And.right (And.right (And.right (And.right (And.right (And.right (And.right (And.right (And.right (And.right (by with_reducible assumption)))))))))))) | exact Nat.ne_of_gt (And.left (And.right (And.right (And.right (And.right (And.right (And.right (And.right (And.right (And.right (And.right (And.right (by with_reducible assumption))))))))))))) | exact Nat.ne_of_gt (And.left (And.right (And.right (And.right (And.right (And.right (And.right (And.right (And.right (And.right (And.right (And.right (And.right (by with_reducible assumption)))))))))))))) | exact Nat.ne_of_gt (And.left (And.right (And.right (And.right (And.right (And.right (And.right (And.right (And.right (And.right (And.right (And.right (And.right (And.right (by with_reducible assumption))))))))))))))) | exact Nat.ne_of_gt (And.left (And.right (And.right (And.right (And.right (And.right (And.right (And.right (And.right (And.right (And.right (And.right (And.right (And.right (And.right (by with_reducible assumption)))))))))))))))) | exact Nat.ne_of_gt (by with_reducible assumption) | exact Nat.ne_of_gt (And.right (by with_reducible assumption)) | exact Nat.ne_of_gt (And.right (And.right (by with_reducible assumption))) | exact Nat.ne_of_gt (And.right (And.right (And.right (by with_reducible assumption)))) | exact Nat.ne_of_gt (And.right (And.right (And.right (And.right (by with_reducible assumption))))) | exact Nat.ne_of_gt (And.right (And.right (And.right (And.right (And.right (by with_reducible assumption)))))) | exact Nat.ne_of_gt (And.right (And.right (And.right (And.right (And.right (And.right (by with_reducible assumption))))))) | exact Nat.ne_of_gt (And.right (And.right (And.right (And.right (And.right (And.right (And.right (by with_reducible assumption)))))))) | exact Nat.ne_of_gt (And.right (And.right (And.right (And.right (And.right (And.right (And.right (And.right (by with_reducible assumption))))))))) | exact Nat.ne_of_gt (And.right (And.right (And.right (And.right (And.right (And.right (And.right (And.right (And.right (by with_reducible assumption)))))))))) | exact Nat.ne_of_gt (And.right (And.right (And.right (And.right (And.right (And.right (And.right (And.right (And.right (And.right (by with_reducible assumption))))))))))) | exact Nat.ne_of_gt (And.right (And.right (And.right (And.right (And.right (And.right (And.right (And.right (And.right (And.right (And.right (by with_reducible assumption)))))))))))) | exact Nat.ne_of_gt (And.right (And.right (And.right (And.right (And.right (And.right (And.right (And.right (And.right (And.right (And.right (And.right (by with_reducible assumption))))))))))))) | exact Nat.ne_of_gt (And.right (And.right (And.right (And.right (And.right (And.right (And.right (And.right (And.right (And.right (And.right (And.right (And.right (by with_reducible assumption)))))))))))))) | exact Nat.ne_of_gt (And.right (And.right (And.right (And.right (And.right (And.right (And.right (And.right (And.right (And.right (And.right (And.right (And.right (And.right (by with_reducible assumption))))))))))))))) | exact id (And.left (by with_reducible assumption)) | exact id (And.left (And.right (by with_reducible assumption))) | exact id (And.left (And.right (And.right (by with_reducible assumption)))) | exact id (And.left (And.right (And.right (And.right (by with_reducible assumption))))) | exact id (And.left (And.right (And.right (And.right (And.right (by with_reducible assumption)))))) | exact id (And.left (And.right (And.right (And.right (And.right (And.right (by with_reducible assumption))))))) | exact id (And.left (And.right (And.right (And.right (And.right (And.right (And.right (by with_reducible assumption)))))))) | exact id (And.left (And.right (And.right (And.right (And.right (And.right (And.right (And.right (by with_reducible assumption))))))))) | exact id (And.left (And.right (And.right (And.right (And.right (And.right (And.right (And.right (And.right (by with_reducible assumption)))))))))) | exact id (And.left (And.right (And.right (And.right (And.right (And.right (And.right (And.right (And.right (And.right (by with_reducible assumption))))))))))) | exact id (And.left (And.right (And.right (And.right (And.right (And.right (And.right (And.right (And.right (And.right (And.right (by with_reducible assumption)))))))))))) | exact id (And.left (And.right (And.right (And.right (And.right (And.right (And.right (And.right (And.right (And.right (And.right (And.right (by with_reducible assumption))))))))))))) | exact id (And.left (And.right (And.right (And.right (And.right (And.right (And.right (And.right (And.right (And.right (And.right (And.right (And.right (by with_reducible assumption)))))))))))))) | exact id (And.left (And.right (And.right (And.right (And.right (And.right (And.right (And.right (And.right (And.right (And.right (And.right (And.right (And.right (by with_reducible assumption))))))))))))))) | exact id (And.left (And.right (And.right (And.right (And.right (And.right (And.right (And.right (And.right (And.right (And.right (And.right (And.right (And.right (And.right (by with_reducible assumption)))))))))))))))) | exact id (by with_reducible assumption) | exact id (And.right (by with_reducible assumption)) | exact id (And.right (And.right (by with_reducible assumption))) | exact id (And.right (And.right (And.right (by with_reducible assumption)))) | exact id (And.right (And.right (And.right (And.right (by with_reducible assumption))))) | exact id (And.right (And.right (And.right (And.right (And.right (by with_reducible assumption)))))) | exact id (And.right (And.right (And.right (And.right (And.right (And.right (by with_reducible assumption))))))) | exact id (And.right (And.right (And.right (And.right (And.right (And.right (And.right (by with_reducible assumption)))))))) | exact id (And.right (And.right (And.right (And.right (And.right (And.right (And.right (And.right (by with_reducible assumption))))))))) | exact id (And.right (And.right (And.right (And.right (And.right (And.right (And.right (And.right (And.right (by with_reducible assumption)))))))))) | exact id (And.right (And.right (And.right (And.right (And.right (And.right (And.right (And.right (And.right (And.right (by with_reducible assumption))))))))))) | exact id (And.right (And.right (And.right (And.right (And.right (And.right (And.right (And.right (And.right (And.right (And.right (by with_reducible assumption)))))))))))) | exact id (And.right (And.right (And.right (And.right (And.right (And.right (And.right (And.right (And.right (And.right (And.right (And.right (by with_reducible assumption))))))))))))) | exact id (And.right (And.right (And.right (And.right (And.right (And.right (And.right (And.right (And.right (And.right (And.right (And.right (And.right (by with_reducible assumption)))))))))))))) | exact id (And.right (And.right (And.right (And.right (And.right (And.right (And.right (And.right (And.right (And.right (And.right (And.right (And.right (And.right (by with_reducible assumption))))))))))))))) | exact Ne.symm (And.left (by with_reducible assumption)) | exact Ne.symm (And.left (And.right (by with_reducible assumption))) | exact Ne.symm (And.left (And.right (And.right (by with_reducible assumption)))) | exact Ne.symm (And.left (And.right (And.right (And.right (by with_reducible assumption))))) | exact Ne.symm (And.left (And.right (And.right (And.right (And.right (by with_reducible assumption)))))) | exact Ne.symm (And.left (And.right (And.right (And.right (And.right (And.right (by with_reducible assumption))))))) | exact Ne.symm (And.left (And.right (And.right (And.right (And.right (And.right (And.right (by with_reducible assumption)))))))) | exact Ne.symm (And.left (And.right (And.right (And.right (And.right (And.right (And.right (And.right (by with_reducible assumption))))))))) | exact Ne.symm (And.left (And.right (And.right (And.right (And.right (And.right (And.right (And.right (And.right (by with_reducible assumption)))))))))) | exact Ne.symm (And.left (And.right (And.right (And.right (And.right (And.right (And.right (And.right (And.right (And.right (by with_reducible assumption))))))))))) | exact Ne.symm (And.left (And.right (And.right (And.right (And.right (And.right (And.right (And.right (And.right (And.right (And.right (by with_reducible assumption)))))))))))) | exact Ne.symm (And.left (And.right (And.right (And.right (And.right (And.right (And.right (And.right (And.right (And.right (And.right (And.right (by with_reducible assumption))))))))))))) | exact Ne.symm (And.left (And.right (And.right (And.right (And.right (And.right (And.right (And.right (And.right (And.right (And.right (And.right (And.right (by with_reducible assumption)))))))))))))) | exact Ne.symm (And.left (And.right (And.right (And.right (And.right (And.right (And.right (And.right (And.right (And.right (And.right (And.right (And.right (And.right (by with_reducible assumption))))))))))))))) | exact Ne.symm (And.left (And.right (And.right (And.right (And.right (And.right (And.right (And.right (And.right (And.right (And.right (And.right (And.right (And.right (And.right (by with_reducible assumption)))))))))))))))) | exact Ne.symm (by with_reducible assumption) | exact Ne.symm (And.right (by with_reducible assumption)) | exact Ne.symm (And.right (And.right (by with_reducible assumption))) | exact Ne.symm (And.right (And.right (And.right (by with_reducible assumption)))) | exact Ne.symm (And.right (And.right (And.right (And.right (by with_reducible assumption))))) | exact Ne.symm (And.right (And.right (And.right (And.right (And.right (by with_reducible assumption)))))) | exact Ne.symm (And.right (And.right (And.right (And.right (And.right (And.right (by with_reducible assumption))))))) | exact Ne.symm (And.right (And.right (And.right (And.right (And.right (And.right (And.right (by with_reducible assumption)))))))) | exact Ne.symm (And.right (And.right (And.right (And.right (And.right (And.right (And.right (And.right (by with_reducible assumption))))))))) | exact Ne.symm (And.right (And.right (And.right (And.right (And.right (And.right (And.right (And.right (And.right (by with_reducible assumption)))))))))) | exact Ne.symm (And.right (And.right (And.right (And.right (And.right (And.right (And.right (And.right (And.right (And.right (by with_reducible assumption))))))))))) | exact Ne.symm (And.right (And.right (And.right (And.right (And.right (And.right (And.right (And.right (And.right (And.right (And.right (by with_reducible assumption)))))))))))) | exact Ne.symm (And.right (And.right (And.right (And.right (And.right (And.right (And.right (And.right (And.right (And.right (And.right (And.right (by with_reducible assumption))))))))))))) | exact Ne.symm (And.right (And.right (And.right (And.right (And.right (And.right (And.right (And.right (And.right (And.right (And.right (And.right (And.right (by with_reducible assumption)))))))))))))) | exact Ne.symm (And.right (And.right (And.right (And.right (And.right (And.right (And.right (And.right (And.right (And.right (And.right (And.right (And.right (And.right (by with_reducible assumption))))))))))))))) | exact id (And.left (And.left (by with_reducible assumption))) | exact id (And.left (And.right (And.left (by with_reducible assumption)))) | exact id (And.right (And.right (And.left (by with_reducible assumption)))) | exact id (And.left (And.left (And.right (by with_reducible assumption)))) | exact id (And.left (And.right (And.left (And.right (by with_reducible assumption))))) | exact id (And.right (And.right (And.left (And.right (by with_reducible assumption))))) | exact id (And.left (And.left (And.right (And.right (by with_reducible assumption))))) | exact id (And.left (And.right (And.left (And.right (And.right (by with_reducible assumption)))))) | exact id (And.right (And.right (And.left (And.right (And.right (by with_reducible assumption)))))) | exact id (And.left (And.left (And.right (And.right (And.right (by with_reducible assumption)))))) | exact id (And.left (And.right (And.left (And.right (And.right (And.right (by with_reducible assumption))))))) | exact id (And.right (And.right (And.left (And.right (And.right (And.right (by with_reducible assumption))))))) | exact id (And.left (And.left (And.right (And.right (And.right (And.right (by with_reducible assumption))))))) | exact id (And.left (And.right (And.left (And.right (And.right (And.right (And.right (by with_reducible assumption)))))))) | exact id (And.right (And.right (And.left (And.right (And.right (And.right (And.right (by with_reducible assumption)))))))) | exact id (And.left (And.left (And.right (And.right (And.right (And.right (And.right (by with_reducible assumption)))))))) | exact id (And.left (And.right (And.left (And.right (And.right (And.right (And.right (And.right (by with_reducible assumption))))))))) | exact id (And.right (And.right (And.left (And.right (And.right (And.right (And.right (And.right (by with_reducible assumption))))))))) | exact id (And.left (And.left (And.right (And.right (And.right (And.right (And.right (And.right (by with_reducible assumption))))))))) | exact id (And.left (And.right (And.left (And.right (And.right (And.right (And.right (And.right (And.right (by with_reducible assumption)))))))))) | exact id (And.right (And.right (And.left (And.right (And.right (And.right (And.right (And.right (And.right (by with_reducible assumption)))))))))) | exact id (And.left (And.left (And.right (And.right (And.right (And.right (And.right (And.right (And.right (by with_reducible assumption)))))))))) | exact id (And.left (And.right (And.left (And.right (And.right (And.right (And.right (And.right (And.right (And.right (by with_reducible assumption))))))))))) | exact id (And.right (And.right (And.left (And.right (And.right (And.right (And.right (And.right (And.right (And.right (by with_reducible assumption))))))))))) | exact id (And.left (And.left (And.right (And.right (And.right (And.right (And.right (And.right (And.right (And.right (by with_reducible assumption))))))))))) | exact id (And.left (And.right (And.left (And.right (And.right (And.right (And.right (And.right (And.right (And.right (And.right (by with_reducible assumption)))))))))))) | exact id (And.right (And.right (And.left (And.right (And.right (And.right (And.right (And.right (And.right (And.right (And.right (by with_reducible assumption)))))))))))) | exact id (And.left (And.left (And.right (And.right (And.right (And.right (And.right (And.right (And.right (And.right (And.right (by with_reducible assumption)))))))))))) | exact id (And.left (And.right (And.left (And.right (And.right (And.right (And.right (And.right (And.right (And.right (And.right (And.right (by with_reducible assumption))))))))))))) | exact id (And.right (And.right (And.left (And.right (And.right (And.right (And.right (And.right (And.right (And.right (And.right (And.right (by with_reducible assumption))))))))))))) | exact id (And.left (And.left (And.right (And.right (And.right (And.right (And.right (And.right (And.right (And.right (And.right (And.right (by with_reducible assumption))))))))))))) | exact id (And.left (And.right (And.left (And.right (And.right (And.right (And.right (And.right (And.right (And.right (And.right (And.right (And.right (by with_reducible assumption)))))))))))))) | exact id (And.right (And.right (And.left (And.right (And.right (And.right (And.right (And.right (And.right (And.right (And.right (And.right (And.right (by with_reducible assumption)))))))))))))) | exact id (And.left (And.left (And.right (And.right (And.right (And.right (And.right (And.right (And.right (And.right (And.right (And.right (And.right (by with_reducible assumption)))))))))))))) | exact id (And.left (And.right (And.left (And.right (And.right (And.right (And.right (And.right (And.right (And.right (And.right (And.right (And.right (And.right (by with_reducible assumption))))))))))))))) | exact id (And.right (And.right (And.left (And.right (And.right (And.right (And.right (And.right (And.right (And.right (And.right (And.right (And.right (And.right (by with_reducible assumption))))))))))))))) | exact Ne.symm (And.left (And.left (by with_reducible assumption))) | exact Ne.symm (And.left (And.right (And.left (by with_reducible assumption)))) | exact Ne.symm (And.right (And.right (And.left (by with_reducible assumption)))) | exact Ne.symm (And.left (And.left (And.right (by with_reducible assumption)))) | exact Ne.symm (And.left (And.right (And.left (And.right (by with_reducible assumption))))) | exact Ne.symm (And.right (And.right (And.left (And.right (by with_reducible assumption))))) | exact Ne.symm (And.left (And.left (And.right (And.right (by with_reducible assumption))))) | exact Ne.symm (And.left (And.right (And.left (And.right (And.right (by with_reducible assumption)))))) | exact Ne.symm (And.right (And.right (And.left (And.right (And.right (by with_reducible assumption)))))) | exact Ne.symm (And.left (And.left (And.right (And.right (And.right (by with_reducible assumption)))))) | exact Ne.symm (And.left (And.right (And.left (And.right (And.right (And.right (by with_reducible assumption))))))) | exact Ne.symm (And.right (And.right (And.left (And.right (And.right (And.right (by with_reducible assumption))))))) | exact Ne.symm (And.left (And.left (And.right (And.right (And.right (And.right (by with_reducible assumption))))))) | exact Ne.symm (And.left (And.right (And.left (And.right (And.right (And.right (And.right (by with_reducible assumption)))))))) | exact Ne.symm (And.right (And.right (And.left (And.right (And.right (And.right (And.right (by with_reducible assumption)))))))) | exact Ne.symm (And.left (And.left (And.right (And.right (And.right (And.right (And.right (by with_reducible assumption)))))))) | exact Ne.symm (And.left (And.right (And.left (And.right (And.right (And.right (And.right (And.right (by with_reducible assumption))))))))) | exact Ne.symm (And.right (And.right (And.left (And.right (And.right (And.right (And.right (And.right (by with_reducible assumption))))))))) | exact Ne.symm (And.left (And.left (And.right (And.right (And.right (And.right (And.right (And.right (by with_reducible assumption))))))))) | exact Ne.symm (And.left (And.right (And.left (And.right (And.right (And.right (And.right (And.right (And.right (by with_reducible assumption)))))))))) | exact Ne.symm (And.right (And.right (And.left (And.right (And.right (And.right (And.right (And.right (And.right (by with_reducible assumption)))))))))) | exact Ne.symm (And.left (And.left (And.right (And.right (And.right (And.right (And.right (And.right (And.right (by with_reducible assumption)))))))))) | exact Ne.symm (And.left (And.right (And.left (And.right (And.right (And.right (And.right (And.right (And.right (And.right (by with_reducible assumption))))))))))) | exact Ne.symm (And.right (And.right (And.left (And.right (And.right (And.right (And.right (And.right (And.right (And.right (by with_reducible assumption))))))))))) | exact Ne.symm (And.left (And.left (And.right (And.right (And.right (And.right (And.right (And.right (And.right (And.right (by with_reducible assumption))))))))))) | exact Ne.symm (And.left (And.right (And.left (And.right (And.right (And.right (And.right (And.right (And.right (And.right (And.right (by with_reducible assumption)))))))))))) | exact Ne.symm (And.right (And.right (And.left (And.right (And.right (And.right (And.right (And.right (And.right (And.right (And.right (by with_reducible assumption)))))))))))) | exact Ne.symm (And.left (And.left (And.right (And.right (And.right (And.right (And.right (And.right (And.right (And.right (And.right (by with_reducible assumption)))))))))))) | exact Ne.symm (And.left (And.right (And.left (And.right (And.right (And.right (And.right (And.right (And.right (And.right (And.right (And.right (by with_reducible assumption))))))))))))) | exact Ne.symm (And.right (And.right (And.left (And.right (And.right (And.right (And.right (And.right (And.right (And.right (And.right (And.right (by with_reducible assumption))))))))))))) | exact Ne.symm (And.left (And.left (And.right (And.right (And.right (And.right (And.right (And.right (And.right (And.right (And.right (And.right (by with_reducible assumption))))))))))))) | exact Ne.symm (And.left (And.right (And.left (And.right (And.right (And.right (And.right (And.right (And.right (And.right (And.right (And.right (And.right (by with_reducible assumption)))))))))))))) | exact Ne.symm (And.right (And.right (And.left (And.right (And.right (And.right (And.right (And.right (And.right (And.right (And.right (And.right (And.right (by with_reducible assumption)))))))))))))) | exact Ne.symm (And.left (And.left (And.right (And.right (And.right (And.right (And.right (And.right (And.right (And.right (And.right (And.right (And.right (by with_reducible assumption)))))))))))))) | exact Ne.symm (And.left (And.right (And.left (And.right (And.right (And.right (And.right (And.right (And.right (And.right (And.right (And.right (And.right (And.right (by with_reducible assumption))))))))))))))) | exact Ne.symm (And.right (And.right (And.left (And.right (And.right (And.right (And.right (And.right (And.right (And.right (And.right (And.right (And.right (And.right (by with_reducible assumption))))))))))))))) | omega))
  k_with "for" => ((rename Fr _ _ _ _ => lF'); (with_unfolding_all refine' For_invVF lF' ?k1 ?k2 ?_; (case k1 => exact rfl); (case k2 => exact rfl); k_whole))
  k_with "eval IfExp" => k_dflt (refine ifexp_int ?_)
  k_with "getAttr ref" => k_dflt (((with_reducible show wpAny _ _ (getAttr (Value.ref _) (PySem.Str.ofString "r") _) _ _ _); refine cpu_r (by k_asm) (by k_asm) (by k_asm) (by k_mem) (by k_mem) (by assumption) ?_; k_whole))
  k_with "getAttr ref" => k_dflt (((with_reducible show wpAny _ _ (getAttr (Value.ref _) (PySem.Str.ofString "states") _) _ _ _); refine cpu_states (by k_asm) (by k_asm) (by k_asm) (by k_mem) (by k_mem) (by assumption) ?_; k_whole); intro _)
  k_dflt (refine' spec_of ?k6 ?k7 ?k9 ?kB ?c2 ?c3 ?c4 ?c5 ?c6 ?_; (case k6 => k_is); (case k7 => k_is); (case k9 => exact fun s => BindsTo.of_eq rfl); (case kB => exact locs rfl); (case c2 => exact rfl); (case c3 => exact rfl); (case c4 => exact rfl); (case c5 => decide); (case c6 => decide); k_whole)
  intro p loose mean mg mb dp un gd outer A₁ base g L h₁ s tk D9 hD9 F N B X T hd hu
  (try dsimp only)
  (try k_fold)

  k_with "pyIter ref" => k_dflt (
    refine' list_loop n (dueMem mem (l + x * way) l x way) rfl ?hr ?hs ?hz ?hF ?hN ?hU ?hj ?turn ?done
    (case hr => assumption)
    (case hs => exact range_small hn1)
    (case hz => exact range_size)
    (case hF => k_asm)
    (case hN => k_asm)
    (case hU => exact UpdF.tail (by k_ne) (UpdF.tail (by k_ne) (UpdF.head (by k_all))))
    (case hj => exact hi)
    (case' done => (
      intro vs' h tk v hi' F N
      have hlen' : (dueMem mem (l + x * way) l x way n).length = 128 := by rw [dueMem_length]; exact hlen
      (try dsimp only at F N)
      (try k_sweep)
      (try dsimp only)
      (try k_fold)))
    (case' turn => (
      intro i t vs' h tk it oI TE9 hT8 hT9 hin hi' hne F N
      have hlen' : (dueMem mem (l + x * way) l x way i).length = 128 := by rw [dueMem_length]; exact hlen
      have hm := fmod_in (i : Int) way
      have hq1 := mul_sign hx way
      have hq2 := mul_sign hx (i : Int)
      have hq3 := mul_sign hx ((i : Int).fmod way)
      simp only [AllNe, and_true] at hne
      (try dsimp only at F N)
      (try k_sweep)
      (try dsimp only)
      (try k_fold))))
  k_steps
  · exact hT9 (by assumption) (by assumption) (by repeat' (first | exact List.forall_mem_nil _ | (refine' List.forall_mem_cons.mpr ⟨?_, ?_⟩) | k_ne)) (by rw [dueMem, if_pos (by assumption)]; assumption)
  · exact hT9 (by assumption) (by assumption) (by repeat' (first | exact List.forall_mem_nil _ | (refine' List.forall_mem_cons.mpr ⟨?_, ?_⟩) | k_ne)) (by rw [dueMem, if_neg (by assumption)]; assumption)
  · replace N := News.behind N
    have nd := nd_of3 N (by assumption) (by assumption)
    have hI7 := hi'
    k_dflt (refine' use_nd (law_cpu_is) ?k1z1 ?k2z1 ?k3z1 ?k4z1 ?k5z1 ?kKz1 ?kPz1 ?kSz1 ?kHz1 ?kdz1 ?kuz1 ?_; (case k1z1 => k_asm); (case k2z1 => k_asm); (case k3z1 => k_asm); (case k4z1 => k_asm); (case k5z1 => k_asm); (case kKz1 => exact rfl); (case kPz1 => exact Pick.nil); (case kSz1 => exact nd); (case kHz1 => rintro _ _ ⟨_, _, _, _, _, _, rfl, _, _, _, h⟩; exact h); (case kdz1 => first | omega | (dsimp only [ktrTop, Around.deeper]; omega)); (case kuz1 => first | omega | (dsimp only [ktrTop, Around.deeper]; omega)); rintro _ _ h9 tk9 F9 N9 nd9 ⟨cA, dA, rA, oD, rs, nr, rfl, rfl, hD, hr, _⟩; clear nd; have nd := nd9; clear nd9; (try dsimp only [List.nil_append, List.cons_append] at N9); (try dsimp only); (try k_sweep); (try k_fold))
    k_steps
    k_dflt (refine' use_nd (ports_is) ?k1z2 ?k2z2 ?k3z2 ?k4z2 ?k5z2 ?kKz2 ?kPz2 ?kSz2 ?kHz2 ?kdz2 ?kuz2 ?_; (case k1z2 => k_asm); (case k2z2 => k_asm); (case k3z2 => k_asm); (case k4z2 => k_asm); (case k5z2 => k_asm); (case kKz2 => exact rfl); (case kPz2 => repeat' (first | exact Pick.nil | (refine' Pick.cons ?_ ?_) | exact Take.head | (refine' Take.tail ?_))); (case kSz2 => exact nd_lt nd (by assumption)); (case kHz2 => rintro _ _ ⟨_, _, _, _, _, rfl, _, _, h⟩; exact h); (case kdz2 => first | omega | (dsimp only [ktrTop, Around.deeper]; omega)); (case kuz2 => first | omega | (dsimp only [ktrTop, Around.deeper]; omega)); rintro _ _ h9 tk9 F9 N9 nd9 ⟨pA, pdA, oA, oP, no, rfl, rfl, hP, _⟩; clear nd; have nd := nd9; clear nd9; (try dsimp only [List.nil_append, List.cons_append] at N9); (try dsimp only); (try k_sweep); (try k_fold))
    k_steps
    k_dflt (refine' use_nd (run_move_is (x := x) (co := if decide (x > 0) = true then 176 else 184) ?knz3 ?kh0z3 ?kh1z3 ?kcoz3 ?kcz3 ?krz3 ?kiz3 ?klz3 ?kbz3 ?kl1z3 ?ke1z3 ?kf0z3 ?kf1z3) ?k1z3 ?k2z3 ?k3z3 ?k4z3 ?k5z3 ?kKz3 ?kPz3 ?kSz3 ?kHz3 ?kdz3 ?kuz3 ?_; (case kcoz3 => exact code_of hx 176 184); (case kcz3 => exact hD); (case k1z3 => k_asm); (case k2z3 => k_asm); (case k3z3 => k_asm); (case k4z3 => k_asm); (case k5z3 => k_asm); (case kKz3 => exact rfl); (case kPz3 => repeat' (first | exact Pick.nil | (refine' Pick.cons ?_ ?_) | exact Take.head | (refine' Take.tail ?_))); (case kSz3 => exact nd); (case kHz3 => rintro _ _ ⟨_, _, _, _, rfl, _, _, _, _, _, _, rfl, _, _, _, rfl, _⟩; exact nod4 (ndp nd 4 5 rfl) (ndp nd 4 6 rfl) (ndp nd 4 7 rfl) (ndp nd 5 6 rfl) (ndp nd 5 7 rfl) (ndp nd 6 7 rfl)); (case kdz3 => first | omega | (dsimp only [ktrTop, Around.deeper]; omega)); (case kuz3 => first | omega | (dsimp only [ktrTop, Around.deeper]; omega)); (case knz3 => exact nod4 (ndp nd 4 5 rfl) (ndp nd 4 6 rfl) (ndp nd 4 7 rfl) (ndp nd 5 6 rfl) (ndp nd 5 7 rfl) (ndp nd 6 7 rfl)); (case krz3 => exact hr); (case kh0z3 => assumption); (case kh1z3 => assumption); (case kiz3 => assumption); (case klz3 => assumption); (case kbz3 => assumption); (case kl1z3 => exact fun i hi => (by have hq9 := mul_sign hx (i : Int); exact ⟨by omega, by omega⟩)); (case ke1z3 => exact fun i hi => (by have hq9 := mul_sign hx (i : Int); have hq8 := mul_sign hx way; exact ⟨by omega, by omega⟩)); (case kf0z3 => assumption); (case kf1z3 => assumption); rintro _ _ h9 tk9 F9 N9 nd9 ⟨k, oD', _, t9, rfl, rfl, _, _, hD', _, _, rfl, rs', vs'', f', rfl, hr', hv', hf'⟩; clear nd; have nd := nd9; clear nd9; replace N9 : News _ _ _ [_, _, _, _, _, _] := News.sel N9 [0, 1, 2, 3, 8, 9]; rw [mv_due (way := way) hx rfl hlen (fun i hi => (by have hq9 := mul_sign hx (i : Int); exact ⟨by omega, by omega⟩)) (fun i hi => (by have hq9 := mul_sign hx (i : Int); have hq8 := mul_sign hx way; exact ⟨by omega, by omega⟩)) _ (Nat.le_refl _)] at hv'; (try dsimp only [List.nil_append, List.cons_append] at N9); (try dsimp only); (try k_sweep); (try k_fold))
    k_steps
    all_goals first | (exfalso; omega) | exact absurd rfl (by assumption : ¬ (List.take 6 _ ++ _ = _)) | exact hD9 (by assumption) (cb_drop (by assumption) (by repeat' (first | exact List.forall_mem_nil _ | (refine' List.forall_mem_cons.mpr ⟨?_, ?_⟩) | k_mem))) ⟨rfl, congrArg Value.bool (beq_iff_eq.mpr hf')⟩
end Mine
end

section
namespace Mine
theorem fresh_N18 : True ∧ True := by
  w_top off
  k_with_none
  first | (walk1 <;> trivial) | exact ⟨trivial, trivial⟩
end Mine
open PySem PySem.W PyProof.Rows PySem.Spec PySem.Calls
set_option Elab.async false
set_option maxRecDepth 100000
set_option maxHeartbeats 8000000
namespace Mine
set_option pp.maxSteps 20000
set_option pp.deepTerms false
set_option pp.deepTerms.threshold 4
local macro_rules | `(tactic| k_ne) => `(tactic| k_extra "ne")
local macro_rules | `(tactic| walk_at "getAttr ref") => `(tactic| (k_here; k_extra "getAttr ref"))
local macro_rules | `(tactic| walk_at "pyIter ref") => `(tactic| (k_here; k_extra "pyIter ref"))
local macro_rules | `(tactic| walk_at "exec For Name Call cons nil") => `(tactic| (k_here; k_extra "for"))
local macro_rules | `(tactic| walk_at "eval IfExp") => `(tactic| (k_here; k_extra "eval IfExp"))
local macro_rules | `(tactic| walk_at "CompSrcT") => `(tactic| (k_here; k_extra "CompSrcT"))

def Goes (mem : List Int) (l x q : Int) (n : Nat) (g : Int) : Prop :=
  (g = (n : Int) ∧ ∀ j : Nat, j < n → ¬ mem.getD (l + x * (j : Int)).toNat 0 = q) ∨ ∃ k : Nat, k < n ∧ g = (k : Int) + 1 ∧ mem.getD (l + x * (k : Int)).toNat 0 = q ∧ ∀ j : Nat, j < k → ¬ mem.getD (l + x * (j : Int)).toNat 0 = q
theorem goes_cut {prog : Program} {w : World} {A : Around} {E : Value → Shared → Prop} {s : Shared} {h₀ : Heap} {L : Addr} {m : Str → Option Value} {news : List (Addr × Obj)} {env : Env} {test : PySem.Expr} {va : PySem.Expr} {o : Operator} {c : PySem.Expr} {y : Str} {p₁ p₂ pos : Pos} {Q : Value → Shared → Prop} {mem : List Int} {l x q : Int} {n : Nat}
    (_ : Fr h₀ L s.heap m) (_ : News h₀ L s.heap news)
    (h1 : wpAny (model prog w) A (eval (.IfExp test (.BinOp va o c p₁) (.Name y p₂) pos) env) (fun v s' => ∃ g t h' tk', v = .int g t ∧ s' = { s with heap := h', toks := tk' } ∧ Fr h₀ L h' m ∧ News h₀ L h' news ∧ Goes mem l x q n g) E s)
    (h2 : ∀ g t h' tk', Fr h₀ L h' m → News h₀ L h' news → Goes mem l x q n g → Q (.int g t) { s with heap := h', toks := tk' }) :
    wpAny (model prog w) A (eval (.IfExp test (.BinOp va o c p₁) (.Name y p₂) pos) env) Q E s :=
  wpAny_mono h1 (fun v s' hq => by obtain ⟨g, t, h', tk', rfl, rfl, F, N, hg⟩ := hq; exact h2 g t h' tk' F N hg) fun _ _ e => e
theorem nd_cells {L m : Nat} (h : m < L) : [L + 1 + 1 + 1 + 1, L + 1 + 1 + 1, L + 1 + 1, L + 1, m].Nodup := by
  simp only [List.nodup_cons, List.mem_cons, List.not_mem_nil, or_false, not_or, not_false_eq_true, List.nodup_nil, and_true]
  omega
theorem goes_no {mem : List Int} {l x q : Int} {n : Nat} {i : ∀ k : Int, Decidable (mem.getD (l + x * k).toNat 0 = q)} {d : Decidable (List.foldl (fun s k => @ite (List Int) (mem.getD (l + x * k).toNat 0 = q) (i k) (s ++ [k]) s) [] (rangeKs 0 n) = [])} (h : @decide _ d = true) : Goes mem l x q n n := .inl ⟨rfl, hits_no h⟩
theorem goes_is {mem : List Int} {l x q g : Int} {n k : Nat} (h : Goes mem l x q n g) (hk : k < n) (w : ∀ j : Nat, j < k → q ≠ mem.getD (l + x * (j : Int)).toNat 0) (e : k + 1 = n ∨ q = mem.getD (l + x * (k : Int)).toNat 0) : g = (k : Int) + 1 := by
  rcases h with ⟨rfl, hno⟩ | ⟨j, hj, rfl, hp, hno⟩
  · rcases e with e | e
    · omega
    · exact absurd e.symm (hno k hk)
  · rcases Nat.lt_trichotomy k j with h | h | h
    · rcases e with e | e
      · omega
      · exact absurd e.symm (hno k h)
    · rw [h]
    · exact absurd hp.symm (w j h)
theorem goes_hits {mem : List Int} {l x q : Int} {n k : Nat} {i : ∀ k : Int, Decidable (mem.getD (l + x * k).toNat 0 = q)} {d : Decidable (List.foldl (fun s k => @ite (List Int) (mem.getD (l + x * k).toNat 0 = q) (i k) (s ++ [k]) s) [] (rangeKs 0 n) = [])}
    (hG : Goes mem l x q n ((k : Int) + 1)) (hk : k < n) : (if (!@decide _ d) = true then (64 : Int) else 0) = if q = mem.getD (l + x * (k : Int)).toNat 0 then 64 else 0 := by
  rcases hG with ⟨e, hno⟩ | ⟨j, hj, e, hp, hno⟩
  · have he : List.foldl (fun s k => @ite (List Int) (mem.getD (l + x * k).toNat 0 = q) (i k) (s ++ [k]) s) [] (rangeKs 0 n) = [] := by
      rcases hits_are (p := fun k : Int => mem.getD (l + x * k).toNat 0 = q) (i := i) n with ⟨h, _⟩ | ⟨j, _, hj, _, hp, _⟩
      · exact h
      · exact absurd hp (hno j hj)
    rw [decide_eq_true he, if_neg (by decide), if_neg fun h => hno k hk h.symm]
  · have hjk : j = k := by omega
    subst hjk
    have he : ¬ List.foldl (fun s k => @ite (List Int) (mem.getD (l + x * k).toNat 0 = q) (i k) (s ++ [k]) s) [] (rangeKs 0 n) = [] := by
      rcases hits_are (p := fun k : Int => mem.getD (l + x * k).toNat 0 = q) (i := i) n with ⟨_, h⟩ | ⟨_, _, _, h, _⟩
      · exact absurd hp (h j hk)
      · rw [h]; exact List.cons_ne_nil _ _
    rw [decide_eq_false he, if_pos (by decide), if_pos hp.symm]
theorem told_any {mem : List Int} {l x q f g : Int} {k n : Nat} {z : Int} (s9 : Builtin.bitAnd g 215 = seekT q (mem.getD (l + x * (k : Int)).toNat 0) ((n : Int) - ((k + 1 : Nat) : Int)) f) (hk : k < n) (hz : z = if q = mem.getD (l + x * (k : Int)).toNat 0 then 64 else 0) :
    Value.bool (Builtin.bitAnd g 215 == Builtin.bitOr (Builtin.bitOr (Builtin.bitOr (Builtin.bitOr (Builtin.bitOr (Builtin.bitAnd f 1) 2) (if decide (((k : Int) + 1) < (n : Int)) = true then 4 else 0)) z)
      (Builtin.bitAnd ((q - mem.getD (l + x * (((k : Int) + 1) - 1)).toNat 0).fmod 256) 128)) (if decide (q.fmod 16 < (mem.getD (l + x * (((k : Int) + 1) - 1)).toNat 0).fmod 16) = true then 16 else 0)) = Value.bool true := by
  rw [show ((k : Int) + 1) - 1 = (k : Int) by omega, Int.fmod_eq_emod_of_nonneg _ (by decide), Int.fmod_eq_emod_of_nonneg _ (by decide), Int.fmod_eq_emod_of_nonneg _ (by decide), s9,
    told_is (q := q) (o := mem.getD (l + x * (k : Int)).toNat 0) (f := f) (l := (n : Int) - ((k + 1 : Nat) : Int)) ?_ hz ?_, beq_self_eq_true]
  · by_cases h : (k : Int) + 1 < (n : Int)
    · rw [if_pos (decide_eq_true h), if_neg (by omega)]
    · rw [if_neg (by rw [decide_eq_false h]; exact Bool.false_ne_true), if_pos (by omega)]
  · by_cases h : q % 16 < mem.getD (l + x * (k : Int)).toNat 0 % 16
    · rw [if_pos (decide_eq_true h), if_pos h]
    · rw [if_neg (by rw [decide_eq_false h]; exact Bool.false_ne_true), if_neg h]
theorem sought_is {prog : Program} {w : World} {mA : Addr} {nm : Nat} {vs : List Value} {mem : List Int} {t₁ t₂ t₃ t₄ t₅ : Tok} {l x q f : Int} {n : Nat} (hn0 : 1 ≤ n) (hn1 : n ≤ 10) (hx : x = 1 ∨ x = -1) (hi : IntsAre vs mem) (hlen : mem.length = 128) (hb : Bytes mem)
    (hl : 40 ≤ l ∧ l < 88) (hq : 0 ≤ q ∧ q < 256) (hf0 : 0 ≤ f) (hf1 : f < 256) :
    Spec prog w 350 [.ref mA, .int (n : Int) t₁, .int x t₂, .int l t₃, .int q t₄, .int f t₅] 12 [(mA, listOf vs.toArray nm)] (fun need' r => need' = [(mA, listOf vs.toArray nm)] ∧ r = .bool true) := by
  k_with_none
  k_with "ne" => (first | assumption | exact Ne.symm (by assumption) | (refine neN ?_; (try dsimp only); first | exact Nat.ne_of_lt (And.left (by with_reducible assumption)) | exact Nat.ne_of_lt (And.left (And.right (by with_reducible assumption))) | exact Nat.ne_of_lt (And.left (And.right (And.right (by with_reducible assumption)))) | exact Nat.ne_of_lt (And.left (And.right (And.right (And.right (by with_reducible assumption))))) | exact Nat.ne_of_lt (And.left (And.right (And.right (And.right (And.right (by with_reducible assumption)))))) | exact Nat.ne_of_lt (And.left (And.right (And.right (And.right (And.right (And.right (by with_reducible assumption))))))) | exact Nat.ne_of_lt (And.left (And.right (And.right (And.right (And.right (And.right (And.right (by with_reducible assumption)))))))) | exact Nat.ne_of_lt (And.left (And.right (And.right (And.right (And.right (And.right (And.right (And.right (by with_reducible assumption))))))))) | exact Nat.ne_of_lt (And.left (And.right (And.right (And.right (And.right (And.right (And.right (And.right (And.right (by with_reducible assumption)))))))))) | exact Nat.ne_of_lt (And.left (And.right (And.right (And.right (And.right (And.right (And.right (And.right (And.right (And.right (by with_reducible assumption))))))))))) | exact Nat.ne_of_lt (And.left (And.right (And.right (And.right (And.right (And.right (And.right (And.right (And.right (And.right (And.right (by with_reducible assumption)))))))))))) | exact Nat.ne_of_lt (And.left (And.right (And.right (And.right (And.right (And.right (And.right (And.right (And.right (And.right (And.right (And.right (by with_reducible assumption))))))))))))) | exact Nat.ne_of_lt (And.left (And.right (And.right (And.right (And.right (And.right (And.right (And.right (And.right (And.right (And.right (And.right (And.right (by with_reducible assumption)))))))))))))) | exact Nat.ne_of_lt (And.left (And.right (And.right (And.right (And.right (And.right (And.right (And.right (And.right (And.right (And.right (And.right (And.right (And.right (by with_reducible assumption))))))))))))))) | exact Nat.ne_of_lt (And.left (And.right (And.right (And.right (And.right (And.right (And.right (And.right (And.right (And.right (And.right (And.right (And.right (And.right (And.right (by with_reducible assumption)))))))))))))))) | exact Nat.ne_of_lt (by with_reducible assumption) | exact Nat.ne_of_lt (And.right (by with_reducible assumption)) | exact Nat.ne_of_lt (And.right (And.right (by with_reducible assumption))) | exact Nat.ne_of_lt (And.right (And.right (And.right (by with_reducible assumption)))) | exact Nat.ne_of_lt (And.right (And.right (And.right (And.right (by with_reducible assumption))))) | exact Nat.ne_of_lt (And.right (And.right (And.right (And.right (And.right (by with_reducible assumption)))))) | exact Nat.ne_of_lt (And.right (And.right (And.right (And.right (And.right (And.right (by with_reducible assumption))))))) | exact Nat.ne_of_lt (And.right (And.right (And.right (And.right (And.right (And.right (And.right (by with_reducible assumption)))))))) | exact Nat.ne_of_lt (And.right (And.right (And.right (And.right (And.right (And.right (And.right (And.right (by with_reducible assumption))))))))) | exact Nat.ne_of_lt (And.right (And.right (And.right (And.right (And.right (And.right (And.right (And.right (And.right (by with_reducible assumption)))))))))) | exact Nat.ne_of_lt (And.right (And.right (And.right (And.right (And.right (And.right (And.right (And.right (And.right (And.right (by with_reducible assumption))))))))))) | exact Nat.ne_of_lt (And.right (And.right (And.right (And.right (And.right (And.right (And.right (And.right (And.right (And.right (And.right (by with_reducible assumption)))))))))))) | exact Nat.ne_of_lt (And.right (And.right (And.right (And.right (And.right (And.right (And.right (And.right (And.right (And.right (And.right (And.right (by with_reducible assumption))))))))))))) | exact Nat.ne_of_lt (And.right (And.right (And.right (And.right (And.right (And.right (And.right (And.right (And.right (And.right (And.right (And.right (And.right (by with_reducible assumption)))))))))))))) | exact Nat.ne_of_lt (And.right (And.right (And.right (And.right (And.right (And.right (And.right (And.right (And.right (And.right (And.right (And.right (And.right (And.right (by with_reducible assumption))))))))))))))) | exact Nat.ne_of_gt (And.left (by with_reducible assumption)) | exact Nat.ne_of_gt (And.left (And.right (by with_reducible assumption))) | exact Nat.ne_of_gt (And.left (And.right (And.right (by with_reducible assumption)))) | exact Nat.ne_of_gt (And.left (And.right (And.right (And.right (by with_reducible assumption))))) | exact Nat.ne_of_gt (And.left (And.right (And.right (And.right (And.right (by with_reducible assumption)))))) | exact Nat.ne_of_gt (And.left (And.right (And.right (And.right (And.right (And.right (by with_reducible assumption))))))) | exact Nat.ne_of_gt (And.left (And.right (And.right (And.right (And.right (And.right (And.right (by with_reducible assumption)))))))) | exact Nat.ne_of_gt (And.left (And.right (And.right (And.right (And.right (And.right (And.right (And.right (by with_reducible assumption))))))))) | exact Nat.ne_of_gt (And.left (And.right (And.right (And.right (And.right (And.right (And.right (And.right (And.right (by with_reducible assumption)))))))))) | exact Nat.ne_of_gt (And.left (And.right (And.right (And.right (And.right (And.right (And.right (And.right (And.right (And.right (by with_reducible assumption))))))))))) | exact Nat.ne_of_gt (And.left (And.right (And.right (And.right (And.right (And.right (And.right (And.right (And.right (And.right (And.right (by with_reducible assumption)))))))))))) | exact Nat.ne_of_gt (And.left (And.right (And.right (And.right (And.right (And.right (And.right (And.right (And.right (And.right (And.right (And.right (by with_reducible assumption))))))))))))) | exact Nat.ne_of_gt (And.left (And.right (And.right (And.right (And.right (And.right (And.right (And.right (And.right (And.right (And.right (And.right (And.right (by with_reducible assumption)))))))))))))) | exact Nat.ne_of_gt (And.left (And.right (And.right (And.right (And.right (And.right (And.right (And.right (And.right (And.right (And.right (And.right (And.right (And.right (by with_reducible assumption))))))))))))))) | exact Nat.ne_of_gt (And.left (And.right (And.right (And.right (And.right (And.right (And.right (And.right (And.right (And.right (And.right (And.right (And.right (And.right (And.right (by with_reducible assumption)))))))))))))))) | exact Nat.ne_of_gt (by with_reducible assumption) | exact Nat.ne_of_gt (And.right (by with_reducible assumption)) | exact Nat.ne_of_gt (And.right (And.right (by with_reducible assumption))) | exact Nat.ne_of_gt (And.right (And.right (And.right (by with_reducible assumption)))) | exact Nat.ne_of_gt (And.right (And.right (And.right (And.right (by with_reducible assumption))))) | exact Nat.ne_of_gt (And.right (And.right (And.right (And.right (And.right (by with_reducible assumption)))))) | exact Nat.ne_of_gt (And.right (And.right (And.right (And.right (And.right (And.right (by with_reducible assumption))))))) | exact Nat.ne_of_gt (And.right (And.right (And.right (And.right (And.right (And.right (And.right (by with_reducible assumption)))))))) | exact Nat.ne_of_gt (And.right (And.right (And.right (And.right (And.right (And.right (And.right (And.right (by with_reducible assumption))))))))) | exact Nat.ne_of_gt (And.right (And.right (And.right (And.right (And.right (And.right (And.right (And.right (And.right (by with_reducible assumption)))))))))) | exact Nat.ne_of_gt (And.right (And.right (And.right (And.right (And.right (And.right (And.right (And.right (And.right (And.right (by with_reducible assumption))))))))))) | exact Nat.ne_of_gt (And.right (And.right (And.right (And.right (And.right (And.right (And.right (And.right (And.right (And.right (And.right (by with_reducible assumption)))))))))))) | exact Nat.ne_of_gt (And.right (And.right (And.right (And.right (And.right (And.right (And.right (And.right (And.right (And.right (And.right (And.right (by with_reducible assumption))))))))))))) | exact Nat.ne_of_gt (And.right (And.right (And.right (And.right (And.right (And.right (And.right (And.right (And.right (And.right (And.right (And.right (And.right (by with_reducible assumption)))))))))))))) | exact Nat.ne_of_gt (And.right (And.right (And.right (And.right (And.right (And.right (And.right (And.right (And.right (And.right (And.right (And.right (And.right (And.right (by with_reducible assumption))))))))))))))) | exact id (And.left (by with_reducible assumption)) | exact id (And.left (And.right (by with_reducible assumption))) | exact id (And.left (And.right (And.right (by with_reducible assumption)))) | exact id (And.left (And.right (And.right (And.right (by with_reducible assumption))))) | exact id (And.left (And.right (And.right (And.right (And.right (by with_reducible assumption)))))) | exact id (And.left (And.right (And.right (And.right (And.right (And.right (by with_reducible assumption))))))) | exact id (And.left (And.right (And.right (And.right (And.right (And.right (And.right (by with_reducible assumption)))))))) | exact id (And.left (And.right (And.right (And.right (And.right (And.right (And.right (And.right (by with_reducible assumption))))))))) | exact id (And.left (And.right (And.right (And.right (And.right (And.right (And.right (And.right (And.right (by with_reducible assumption)))))))))) | exact id (And.left (And.right (And.right (And.right (And.right (And.right (And.right (And.right (And.right (And.right (by with_reducible assumption))))))))))) | exact id (And.left (And.right (And.right (And.right (And.right (And.right (And.right (And.right (And.right (And.right (And.right (by with_reducible assumption)))))))))))) | exact id (And.left (And.right (And.right (And.right (And.right (And.right (And.right (And.right (And.right (And.right (And.right (And.right (by with_reducible assumption))))))))))))) | exact id (And.left (And.right (And.right (And.right (And.right (And.right (And.right (And.right (And.right (And.right (And.right (And.right (And.right (by with_reducible assumption)))))))))))))) | exact id (And.left (And.right (And.right (And.right (And.right (And.right (And.right (And.right (And.right (And.right (And.right (And.right (And.right (And.right (by with_reducible assumption))))))))))))))) | exact id (And.left (And.right (And.right (And.right (And.right (And.right (And.right (And.right (And.right (And.right (And.right (And.right (And.right (And.right (And.right (by with_reducible assumption)))))))))))))))) | exact id (by with_reducible assumption) | exact id (And.right (by with_reducible assumption)) | exact id (And.right (And.right (by with_reducible assumption))) | exact id (And.right (And.right (And.right (by with_reducible assumption)))) | exact id (And.right (And.right (And.right (And.right (by with_reducible assumption))))) | exact id (And.right (And.right (And.right (And.right (And.right (by with_reducible assumption)))))) | exact id (And.right (And.right (And.right (And.right (And.right (And.right (by with_reducible assumption))))))) | exact id (And.right (And.right (And.right (And.right (And.right (And.right (And.right (by with_reducible assumption)))))))) | exact id (And.right (And.right (And.right (And.right (And.right (And.right (And.right (And.right (by with_reducible assumption))))))))) | exact id (And.right (And.right (And.right (And.right (And.right (And.right (And.right (And.right (And.right (by with_reducible assumption)))))))))) | exact id (And.right (And.right (And.right (And.right (And.right (And.right (And.right (And.right (And.right (And.right (by with_reducible assumption))))))))))) | exact id (And.right (And.right (And.right (And.right (And.right (And.right (And.right (And.right (And.right (And.right (And.right (by with_reducible assumption)))))))))))) | exact id (And.right (And.right (And.right (And.right (And.right (And.right (And.right (And.right (And.right (And.right (And.right (And.right (by with_reducible assumption))))))))))))) | exact id (And.right (And.right (And.right (And.right (And.right (And.right (And.right (And.right (And.right (And.right (And.right (And.right (And.right (by with_reducible assumption)))))))))))))) | exact id (And.right (And.right (And.right (And.right (And.right (And.right (And.right (And.right (And.right (And.right (And.right (And.right (And.right (And.right (by with_reducible assumption))))))))))))))) | exact Ne.symm (And.left (by with_reducible assumption)) | exact Ne.symm (And.left (And.right (by with_reducible assumption))) | exact Ne.symm (And.left (And.right (And.right (by with_reducible assumption)))) | exact Ne.symm (And.left (And.right (And.right (And.right (by with_reducible assumption))))) | exact Ne.symm (And.left (And.right (And.right (And.right (And.right (by with_reducible assumption)))))) | exact Ne.symm (And.left (And.right (And.right (And.right (And.right (And.right (by with_reducible assumption))))))) | exact Ne.symm (And.left (And.right (And.right (And.right (And.right (And.right (And.right (by with_reducible assumption)))))))) | exact Ne.symm (And.left (And.right (And.right (And.right (And.right (And.right (And.right (And.right (by with_reducible assumption))))))))) | exact Ne.symm (And.left (And.right (And.right (And.right (And.right (And.right (And.right (And.right (And.right (by with_reducible assumption)))))))))) | exact Ne.symm (And.left (And.right (And.right (And.right (And.right (And.right (And.right (And.right (And.right (And.right (by with_reducible assumption))))))))))) | exact Ne.symm (And.left (And.right (And.right (And.right (And.right (And.right (And.right (And.right (And.right (And.right (And.right (by with_reducible assumption)))))))))))) | exact Ne.symm (And.left (And.right (And.right (And.right (And.right (And.right (And.right (And.right (And.right (And.right (And.right (And.right (by with_reducible assumption))))))))))))) | exact Ne.symm (And.left (And.right (And.right (And.right (And.right (And.right (And.right (And.right (And.right (And.right (And.right (And.right (And.right (by with_reducible assumption)))))))))))))) | exact Ne.symm (And.left (And.right (And.right (And.right (And.right (And.right (And.right (And.right (And.right (And.right (And.right (And.right (And.right (And.right (by with_reducible assumption))))))))))))))) | exact Ne.symm (And.left (And.right (And.right (And.right (And.right (And.right (And.right (And.right (And.right (And.right (And.right (And.right (And.right (And.right (And.right (by with_reducible assumption)))))))))))))))) | exact Ne.symm (by with_reducible assumption) | exact Ne.symm (And.right (by with_reducible assumption)) | exact Ne.symm (And.right (And.right (by with_reducible assumption))) | exact Ne.symm (And.right (And.right (And.right (by with_reducible assumption)))) | exact Ne.symm (And.right (And.right (And.right (And.right (by with_reducible assumption))))) | exact Ne.symm (And.right (And.right (And.right (And.right (And.right (by with_reducible assumption)))))) | exact Ne.symm (And.right (And.right (And.right (And.right (And.right (And.right (by with_reducible assumption))))))) | exact Ne.symm (And.right (And.right (And.right (And.right (And.right (And.right (And.right (by with_reducible assumption)))))))) | exact Ne.symm (And.right (And.right (And.right (And.right (And.right (And.right (And.right (And.right (by with_reducible assumption))))))))) | exact Ne.symm (And.right (And.right (And.right (And.right (And.right (And.right (And.right (And.right (And.right (by with_reducible assumption)))))))))) | exact Ne.symm (And.right (And.right (And.right (And.right (And.right (And.right (And.right (And.right (And.right (And.right (by with_reducible assumption))))))))))) | exact Ne.symm (And.right (And.right (And.right (And.right (And.right (And.right (And.right (And.right (And.right (And.right (And.right (by with_reducible assumption)))))))))))) | exact Ne.symm (And.right (And.right (And.right (And.right (And.right (And.right (And.right (And.right (And.right (And.right (And.right (And.right (by with_reducible assumption))))))))))))) | exact Ne.symm (And.right (And.right (And.right (And.right (And.right (And.right (And.right (And.right (And.right (And.right (And.right (And.right (And.right (by with_reducible assumption)))))))))))))) | exact Ne.symm (And.right (And.right (And.right (And.right (And.right (And.right (And.right (And.right (And.right (And.right (And.right (And.right (And.right (And.right (by with_reducible assumption))))))))))))))) | exact id (And.left (And.left (by with_reducible assumption))) | exact id (And.left (And.right (And.left (by with_reducible assumption)))) | exact id (And.right (And.right (And.left (by with_reducible assumption)))) | exact id (And.left (And.left (And.right (by with_reducible assumption)))) | exact id (And.left (And.right (And.left (And.right (by with_reducible assumption))))) | exact id (And.right (And.right (And.left (And.right (by with_reducible assumption))))) | exact id (And.left (And.left (And.right (And.right (by with_reducible assumption))))) | exact id (And.left (And.right (And.left (And.right (And.right (by with_reducible assumption)))))) | exact id (And.right (And.right (And.left (And.right (And.right (by with_reducible assumption)))))) | exact id (And.left (And.left (And.right (And.right (And.right (by with_reducible assumption)))))) | exact id (And.left (And.right (And.left (And.right (And.right (And.right (by with_reducible assumption))))))) | exact id (And.right (And.right (And.left (And.right (And.right (And.right (by with_reducible assumption))))))) | exact id (And.left (And.left (And.right (And.right (And.right (And.right (by with_reducible assumption))))))) | exact id (And.left (And.right (And.left (And.right (And.right (And.right (And.right (by with_reducible assumption)))))))) | exact id (And.right (And.right (And.left (And.right (And.right (And.right (And.right (by with_reducible assumption)))))))) | exact id (And.left (And.left (And.right (And.right (And.right (And.right (And.right (by with_reducible assumption)))))))) | exact id (And.left (And.right (And.left (And.right (And.right (And.right (And.right (And.right (by with_reducible assumption))))))))) | exact id (And.right (And.right (And.left (And.right (And.right (And.right (And.right (And.right (by with_reducible assumption))))))))) | exact id (And.left (And.left (And.right (And.right (And.right (And.right (And.right (And.right (by with_reducible assumption))))))))) | exact id (And.left (And.right (And.left (And.right (And.right (And.right (And.right (And.right (And.right (by with_reducible assumption)))))))))) | exact id (And.right (And.right (And.left (And.right (And.right (And.right (And.right (And.right (And.right (by with_reducible assumption)))))))))) | exact id (And.left (And.left (And.right (And.right (And.right (And.right (And.right (And.right (And.right (by with_reducible assumption)))))))))) | exact id (And.left (And.right (And.left (And.right (And.right (And.right (And.right (And.right (And.right (And.right (by with_reducible assumption))))))))))) | exact id (And.right (And.right (And.left (And.right (And.right (And.right (And.right (And.right (And.right (And.right (by with_reducible assumption))))))))))) | exact id (And.left (And.left (And.right (And.right (And.right (And.right (And.right (And.right (And.right (And.right (by with_reducible assumption))))))))))) | exact id (And.left (And.right (And.left (And.right (And.right (And.right (And.right (And.right (And.right (And.right (And.right (by with_reducible assumption)))))))))))) | exact id (And.right (And.right (And.left (And.right (And.right (And.right (And.right (And.right (And.right (And.right (And.right (by with_reducible assumption)))))))))))) | exact id (And.left (And.left (And.right (And.right (And.right (And.right (And.right (And.right (And.right (And.right (And.right (by with_reducible assumption)))))))))))) | exact id (And.left (And.right (And.left (And.right (And.right (And.right (And.right (And.right (And.right (And.right (And.right (And.right (by with_reducible assumption))))))))))))) | exact id (And.right (And.right (And.left (And.right (And.right (And.right (And.right (And.right (And.right (And.right (And.right (And.right (by with_reducible assumption))))))))))))) | exact id (And.left (And.left (And.right (And.right (And.right (And.right (And.right (And.right (And.right (And.right (And.right (And.right (by with_reducible assumption))))))))))))) | exact id (And.left (And.right (And.left (And.right (And.right (And.right (And.right (And.right (And.right (And.right (And.right (And.right (And.right (by with_reducible assumption)))))))))))))) | exact id (And.right (And.right (And.left (And.right (And.right (And.right (And.right (And.right (And.right (And.right (And.right (And.right (And.right (by with_reducible assumption)))))))))))))) | exact id (And.left (And.left (And.right (And.right (And.right (And.right (And.right (And.right (And.right (And.right (And.right (And.right (And.right (by with_reducible assumption)))))))))))))) | exact id (And.left (And.right (And.left (And.right (And.right (And.right (And.right (And.right (And.right (And.right (And.right (And.right (And.right (And.right (by with_reducible assumption))))))))))))))) | exact id (And.right (And.right (And.left (And.right (And.right (And.right (And.right (And.right (And.right (And.right (And.right (And.right (And.right (And.right (by with_reducible assumption))))))))))))))) | exact Ne.symm (And.left (And.left (by with_reducible assumption))) | exact Ne.symm (And.left (And.right (And.left (by with_reducible assumption)))) | exact Ne.symm (And.right (And.right (And.left (by with_reducible assumption)))) | exact Ne.symm (And.left (And.left (And.right (by with_reducible assumption)))) | exact Ne.symm (And.left (And.right (And.left (And.right (by with_reducible assumption))))) | exact Ne.symm (And.right (And.right (And.left (And.right (by with_reducible assumption))))) | exact Ne.symm (And.left (And.left (And.right (And.right (by with_reducible assumption))))) | exact Ne.symm (And.left (And.right (And.left (And.right (And.right (by with_reducible assumption)))))) | exact Ne.symm (And.right (And.right (And.left (And.right (And.right (by with_reducible assumption)))))) | exact Ne.symm (And.left (And.left (And.right (And.right (And.right (by with_reducible assumption)))))) | exact Ne.symm (And.left (And.right (And.left (And.right (And.right (And.right (by with_reducible assumption))))))) | exact Ne.symm (And.right (And.right (And.left (And.right (And.right (And.right (by with_reducible assumption))))))) | exact Ne.symm (And.left (And.left (And.right (And.right (And.right (And.right (by with_reducible assumption))))))) | exact Ne.symm (And.left (And.right (And.left (And.right (And.right (And.right (And.right (by with_reducible assumption)))))))) | exact Ne.symm (And.right (And.right (And.left (And.right (And.right (And.right (And.right (by with_reducible assumption)))))))) | exact Ne.symm (And.left (And.left (And.right (And.right (And.right (And.right (And.right (by with_reducible assumption)))))))) | exact Ne.symm (And.left (And.right (And.left (And.right (And.right (And.right (And.right (And.right (by with_reducible assumption))))))))) | exact Ne.symm (And.right (And.right (And.left (And.right (And.right (And.right (And.right (And.right (by with_reducible assumption))))))))) | exact Ne.symm (And.left (And.left (And.right (And.right (And.right (And.right (And.right (And.right (by with_reducible assumption))))))))) | exact Ne.symm (And.left (And.right (And.left (And.right (And.right (And.right (And.right (And.right (And.right (by with_reducible assumption)))))))))) | exact Ne.symm (And.right (And.right (And.left (And.right (And.right (And.right (And.right (And.right (And.right (by with_reducible assumption)))))))))) | exact Ne.symm (And.left (And.left (And.right (And.right (And.right (And.right (And.right (And.right (And.right (by with_reducible assumption)))))))))) | exact Ne.symm (And.left (And.right (And.left (And.right (And.right (And.right (And.right (And.right (And.right (And.right (by with_reducible assumption))))))))))) | exact Ne.symm (And.right (And.right (And.left (And.right (And.right (And.right (And.right (And.right (And.right (And.right (by with_reducible assumption))))))))))) | exact Ne.symm (And.left (And.left (And.right (And.right (And.right (And.right (And.right (And.right (And.right (And.right (by with_reducible assumption))))))))))) | exact Ne.symm (And.left (And.right (And.left (And.right (And.right (And.right (And.right (And.right (And.right (And.right (And.right (by with_reducible assumption)))))))))))) | exact Ne.symm (And.right (And.right (And.left (And.right (And.right (And.right (And.right (And.right (And.right (And.right (And.right (by with_reducible assumption)))))))))))) | exact Ne.symm (And.left (And.left (And.right (And.right (And.right (And.right (And.right (And.right (And.right (And.right (And.right (by with_reducible assumption)))))))))))) | exact Ne.symm (And.left (And.right (And.left (And.right (And.right (And.right (And.right (And.right (And.right (And.right (And.right (And.right (by with_reducible assumption))))))))))))) | exact Ne.symm (And.right (And.right (And.left (And.right (And.right (And.right (And.right (And.right (And.right (And.right (And.right (And.right (by with_reducible assumption))))))))))))) | exact Ne.symm (And.left (And.left (And.right (And.right (And.right (And.right (And.right (And.right (And.right (And.right (And.right (And.right (by with_reducible assumption))))))))))))) | exact Ne.symm (And.left (And.right (And.left (And.right (And.right (And.right (And.right (And.right (And.right (And.right (And.right (And.right (And.right (by with_reducible assumption)))))))))))))) | exact Ne.symm (And.right (And.right (And.left (And.right (And.right (And.right (And.right (And.right (And.right (And.right (And.right (And.right (And.right (by with_reducible assumption)))))))))))))) | exact Ne.symm (And.left (And.left (And.right (And.right (And.right (And.right (And.right (And.right (And.right (And.right (And.right (And.right (And.right (by with_reducible assumption)))))))))))))) | exact Ne.symm (And.left (And.right (And.left (And.right (And.right (And.right (And.right (And.right (And.right (And.right (And.right (And.right (And.right (And.right (by with_reducible assumption))))))))))))))) | exact Ne.symm (And.right (And.right (And.left (And.right (And.right (And.right (And.right (And.right (And.right (And.right (And.right (And.right (And.right (And.right (by with_reducible assumption))))))))))))))) | omega))
  k_with "for" => ((rename Fr _ _ _ _ => lF'); (with_unfolding_all refine' For_invVF lF' ?k1 ?k2 ?_; (case k1 => exact rfl); (case k2 => exact rfl); k_whole))
  k_with "eval IfExp" => k_dflt (refine ifexp_int ?_)
  k_with "eval IfExp" => k_dflt (refine' goes_cut (mem := mem) (l := l) (x := x) (q := q) (n := n) ?kcF ?kcN ?h1 ?h2; (case kcF => k_asm); (case kcN => k_asm); k_whole)
  k_with "CompSrcT" => ((try k_fmods); k_dflt ((refine' LCt.CompSrcT.range ?kacmt ?kbcmt ?kccmt ?kdcmt ?kecmt ?kfcmt ?kgcmt ?_; (case kacmt => rfl); (case kbcmt => k_asm); (case kccmt => k_asm); (case kdcmt => assumption); (case kecmt => exact range_small (by assumption)); (case kfcmt => exact range_size); (case kgcmt => rw [PySem.sizeLine_eq]; omega)); intro g'; (refine' kci_range _ (fun k' t' I' oI' C' oC' D' m' ys' l' h' tk' E' hlo' hhi' hI' hC' hx' F' N' off' ne' => ?_) ?_ ?_); (all_goals (try (simp only [LCg.Off3, and_true] at off'))); (all_goals (try (have hxk' := mul_sign (by assumption) k'))); (all_goals (try ((show KPfMark → _); intro hMark'))); kcf_last))
  k_with "getAttr ref" => k_dflt (((with_reducible show wpAny _ _ (getAttr (Value.ref _) (PySem.Str.ofString "r") _) _ _ _); refine cpu_r (by k_asm) (by k_asm) (by k_asm) (by k_mem) (by k_mem) (by assumption) ?_; k_whole))
  k_with "getAttr ref" => k_dflt (((with_reducible show wpAny _ _ (getAttr (Value.ref _) (PySem.Str.ofString "states") _) _ _ _); refine cpu_states (by k_asm) (by k_asm) (by k_asm) (by k_mem) (by k_mem) (by assumption) ?_; k_whole); intro _)
  k_dflt (refine' spec_ofC ?k6 ?k7 ?k9 ?kB ?kD ?c2 ?c3 ?c4 ?c6 ?_; (case k6 => k_is); (case k7 => k_is); (case k9 => exact fun s => BindsTo.of_eq rfl); (case kB => exact rfl); (case kD => decide +kernel); (case c2 => exact rfl); (case c3 => exact rfl); (case c4 => exact rfl); (case c6 => decide); k_whole)
  intro p loose mean mg mb dp un gd outer A₁ base g L h₁ s tk cells D9 hD9 F N Y B X T hd hu l1
  (try k_lt l1)
  k_cells Y
  (try simp only [List.cons_append, List.nil_append] at N)
  (try dsimp only)
  (try k_fold)

  k_steps
  · assumption
  · exact News.behind (by assumption)
  · exact goes_no (by assumption)
  · obtain ⟨k8, rest8, hk8, e8, p8, hn8⟩ := hits_some (by assumption)
    rename IntsAre _ (List.foldl _ _ _) => hI8
    k_dflt (refine' head_item ?hl hI8 e8 ?_ ?hs; (case hl => is_list); (case hs => with_unfolding_all rfl); k_whole)
    intro t8
    k_steps
    · assumption
    · exact News.behind (by assumption)
    · exact .inr ⟨k8, hk8, rfl, p8, hn8⟩
  · rename Goes _ _ _ _ _ _ => hG
    rename News _ _ _ _ => N9
    replace N9 := News.behind N9
    have nd := nd_lt (nd_ne (nd_cells l1) (by assumption)) (by assumption)
    k_dflt (refine' use_nd (law_cpu_is) ?k1z1 ?k2z1 ?k3z1 ?k4z1 ?k5z1 ?kKz1 ?kPz1 ?kSz1 ?kHz1 ?kdz1 ?kuz1 ?_; (case k1z1 => k_asm); (case k2z1 => k_asm); (case k3z1 => k_asm); (case k4z1 => k_asm); (case k5z1 => k_asm); (case kKz1 => exact rfl); (case kPz1 => exact Pick.nil); (case kSz1 => exact nd); (case kHz1 => rintro _ _ ⟨_, _, _, _, _, _, rfl, _, _, _, h⟩; exact h); (case kdz1 => first | omega | (dsimp only [ktrTop, Around.deeper]; omega)); (case kuz1 => first | omega | (dsimp only [ktrTop, Around.deeper]; omega)); rintro _ _ h9 tk9 F9 N9 nd9 ⟨cA, dA, rA, oD, rs, nr, rfl, rfl, hD, hr, _⟩; clear nd; have nd := nd9; clear nd9; (try dsimp only [List.nil_append, List.cons_append] at N9); (try dsimp only); (try k_sweep); (try k_fold))
    k_steps
    k_dflt (refine' use_nd (ports_is) ?k1z2 ?k2z2 ?k3z2 ?k4z2 ?k5z2 ?kKz2 ?kPz2 ?kSz2 ?kHz2 ?kdz2 ?kuz2 ?_; (case k1z2 => k_asm); (case k2z2 => k_asm); (case k3z2 => k_asm); (case k4z2 => k_asm); (case k5z2 => k_asm); (case kKz2 => exact rfl); (case kPz2 => repeat' (first | exact Pick.nil | (refine' Pick.cons ?_ ?_) | exact Take.head | (refine' Take.tail ?_))); (case kSz2 => exact nd_lt nd (by assumption)); (case kHz2 => rintro _ _ ⟨_, _, _, _, _, rfl, _, _, h⟩; exact h); (case kdz2 => first | omega | (dsimp only [ktrTop, Around.deeper]; omega)); (case kuz2 => first | omega | (dsimp only [ktrTop, Around.deeper]; omega)); rintro _ _ h9 tk9 F9 N9 nd9 ⟨pA, pdA, oA, oP, no, rfl, rfl, hP, _⟩; clear nd; have nd := nd9; clear nd9; (try dsimp only [List.nil_append, List.cons_append] at N9); (try dsimp only); (try k_sweep); (try k_fold))
    k_steps
    k_dflt (refine' use_nd (run_seek_is (x := x) (co := if decide (x > 0) = true then 177 else 185) ?knz3 ?kh0z3 ?kh1z3 ?kcoz3 ?kcz3 ?krz3 ?kiz3 ?klz3 ?kbz3 ?kaz3 ?kl1z3) ?k1z3 ?k2z3 ?k3z3 ?k4z3 ?k5z3 ?kKz3 ?kPz3 ?kSz3 ?kHz3 ?kdz3 ?kuz3 ?_; (case kcoz3 => exact code_of hx 177 185); (case kcz3 => exact hD); (case k1z3 => k_asm); (case k2z3 => k_asm); (case k3z3 => k_asm); (case k4z3 => k_asm); (case k5z3 => k_asm); (case kKz3 => exact rfl); (case kPz3 => repeat' (first | exact Pick.nil | (refine' Pick.cons ?_ ?_) | exact Take.head | (refine' Take.tail ?_))); (case kSz3 => exact nd); (case kHz3 => rintro _ _ ⟨_, _, _, _, rfl, _, _, _, _, _, _, _, _, _, _, _, _, _, rfl, _⟩; exact nod4 (ndp nd 4 5 rfl) (ndp nd 4 6 rfl) (ndp nd 4 7 rfl) (ndp nd 5 6 rfl) (ndp nd 5 7 rfl) (ndp nd 6 7 rfl)); (case kdz3 => first | omega | (dsimp only [ktrTop, Around.deeper]; omega)); (case kuz3 => first | omega | (dsimp only [ktrTop, Around.deeper]; omega)); (case knz3 => exact nod4 (ndp nd 4 5 rfl) (ndp nd 4 6 rfl) (ndp nd 4 7 rfl) (ndp nd 5 6 rfl) (ndp nd 5 7 rfl) (ndp nd 6 7 rfl)); (case krz3 => exact hr); (case kh0z3 => assumption); (case kh1z3 => assumption); (case kiz3 => assumption); (case klz3 => assumption); (case kbz3 => assumption); (case kaz3 => assumption); (case kl1z3 => exact fun i hi => (by have hq9 := mul_sign hx (i : Int); exact ⟨by omega, by omega⟩)); rintro _ _ h9 tk9 F9 N9 nd9 ⟨_, oD', _, t9, rfl, rfl, _, _, hD', _, _, k9, rfl, b9, w9, q9, rs', f', rfl, hr', hf'⟩; clear nd; have nd := nd9; clear nd9; replace N9 : News _ _ _ [_, _, _, _, _, _, _, _, _, _] := News.sel N9 [0, 1, 2, 3, 8, 9, 10, 11, 12, 13]; have e9 := goes_is hG b9 w9 q9; subst e9; have hx8 := mul_sign hx ((k9 : Int) + 1 - 1); (try dsimp only [List.nil_append, List.cons_append] at N9); (try dsimp only); (try k_sweep); (try k_fold))
    k_steps
    all_goals first | (exfalso; omega) | exact absurd rfl (by assumption : ¬ ((_ :: _ : List Int) = _)) | exact hD9 (by assumption) (cb_drop (by assumption) (by repeat' (first | exact List.forall_mem_nil _ | (refine' List.forall_mem_cons.mpr ⟨?_, ?_⟩) | k_mem))) ⟨rfl, told_any hf' b9 (goes_hits hG b9)⟩
end Mine
end

section
namespace Mine
theorem fresh_N19a : True ∧ True := by
  w_top off
  k_with_none
  first | (walk1 <;> trivial) | exact ⟨trivial, trivial⟩
end Mine
open PySem PySem.W PyProof.Rows PySem.Spec PySem.Calls
set_option Elab.async false
set_option maxRecDepth 100000
set_option maxHeartbeats 8000000
namespace Mine
def TupEnd (h₀ : Heap) (L : Addr) (m : Str → Option Value) (s : Shared) (c k : Int) (all : List (Addr × Obj)) (y : Value) (s₂ : Shared) : Prop :=
  ∃ h' tk' a t' u', s₂ = { s with heap := h', toks := tk' } ∧ y = .ref a ∧ Fr h₀ L h' m ∧ News h₀ L h' ((a, tupOf c t' k u') :: all) ∧ (∀ p ∈ all, p.1 < a)
def OutEnd (h₀ : Heap) (L : Addr) (m : Str → Option Value) (s : Shared) (o : Int) (all : List (Addr × Obj)) (y : Value) (s₂ : Shared) : Prop :=
  ∃ h' tk' u', s₂ = { s with heap := h', toks := tk' } ∧ y = .int o u' ∧ Fr h₀ L h' m ∧ News h₀ L h' all
theorem updF_keep {d : Addr} {o : Obj} {l : List (Addr × Obj)} {g : Obj → List (Addr × Obj)} (U : UpdF d o l g) {p : Addr × Obj} (hp : p ∈ l) (hne : p.1 ≠ d) (o' : Obj) : p ∈ g o' := by
  induction U with
  | head h =>
    rcases List.mem_cons.mp hp with rfl | hp
    · exact absurd rfl hne
    · exact .tail _ hp
  | tail h _ ih =>
    rcases List.mem_cons.mp hp with rfl | hp
    · exact .head _
    · exact .tail _ (ih hp)
theorem updF_addr {d : Addr} {o : Obj} {l : List (Addr × Obj)} {g : Obj → List (Addr × Obj)} (U : UpdF d o l g) (o' : Obj) {p : Addr × Obj} (hp : p ∈ g o') : ∃ q ∈ l, q.1 = p.1 := by
  induction U with
  | head h =>
    rcases List.mem_cons.mp hp with rfl | hp
    · exact ⟨_, .head _, rfl⟩
    · exact ⟨p, .tail _ hp, rfl⟩
  | tail h _ ih =>
    rcases List.mem_cons.mp hp with rfl | hp
    · exact ⟨_, .head _, rfl⟩
    · obtain ⟨q, hq, e⟩ := ih hp
      exact ⟨q, .tail _ hq, e⟩
theorem updF_at {d : Addr} {o : Obj} {l : List (Addr × Obj)} {g : Obj → List (Addr × Obj)} (U : UpdF d o l g) : l = g o := by
  induction U with
  | head h => rfl
  | tail h _ ih => exact congrArg _ ih
section
variable {prog : Program} {w : World} {A : Around} {E : Value → Shared → Prop} {s : Shared} {env : Env} {h₀ : Heap} {body : List Stmt} {Q : Flow → Shared → Prop}
/-- a loop over enumerate(a list of ints) that turns one list of ints of the ledger -/
theorem enum_loop {xa xb : Str} {p₁ p₂ pos : Pos} {k : Nat} {l dA : Addr} {vs ds : List Value} {ks : List Int} {n nl nd : Nat} {m₀ : Str → Option Value} {news : List (Addr × Obj)} {gf : Obj → List (Addr × Obj)} (Fn : Nat → List Int)
    (hh : A.handled = none) (F : Fr h₀ env.locals s.heap m₀) (N : News h₀ env.locals s.heap news) (hm : (l, listOf vs.toArray nl) ∈ news) (hi : IntsAre vs ks) (hn : ks.length = n) (U : UpdF dA (listOf ds.toArray nd) news gf) (hne : l ≠ dA) (hd : IntsAre ds (Fn 0))
    (turn : ∀ (i : Nat) t u T ds' h tk I o1 o2 va vb (TE : Flow → Shared → Prop),
      (∀ {h' : Heap} {tk' : Nat} {ds'' : List Value} {m' : Str → Option Value}, Fr h₀ env.locals h' m' → (∀ y, y ≠ xb → y ≠ xa → m' y = m₀ y) → News h₀ env.locals h' ((I + 1, o1) :: (I, o2) :: gf (listOf ds''.toArray nd)) → IntsAre ds'' (Fn (i + 1)) → TE .next { s with heap := h', toks := tk' }) →
      i < n → IntsAre ds' (Fn i) → (∀ p ∈ gf (listOf ds'.toArray nd), p.1 < I) → IsTup h T #[.int (i : Int) t, .int (ks.getD i 0) u] → Fr h₀ env.locals h (fun y => if y = xb then vb else if y = xa then va else m₀ y) → News h₀ env.locals h ((I + 1, o1) :: (I, o2) :: gf (listOf ds'.toArray nd)) →
      wpAny (model prog w) A (assign (.Tuple [.Name xa p₁, .Name xb p₂] k pos) env (.ref T)) (fun _ s₂ => wpAny (model prog w) A (execs body env) TE E s₂) E { s with heap := h, toks := tk })
    (done : ∀ ds' h tk va vb, IntsAre ds' (Fn n) → Fr h₀ env.locals h (fun y => if y = xb then vb else if y = xa then va else m₀ y) → News h₀ env.locals h (gf (listOf ds'.toArray nd)) → Q .next { s with heap := h, toks := tk }) :
    wpAny (model prog w) A (call (.type "enumerate") [.ref l]) (fun xv s₁ => wpAny (model prog w) A (pyIter xv) (fun it s₂ => TurnsAt prog w A h₀ env (.Tuple [.Name xa p₁, .Name xb p₂] k pos) body Q E it s₂) E s₁) E s := by
  refine ktu_enum hh F N hm rfl rfl rfl fun I hI => ?_
  have hlen : vs.length = n := hi.length.trans hn
  have hlt : ∀ o', ∀ p ∈ gf o', p.1 < I := fun o' p hp => by
    obtain ⟨q, hq, e⟩ := updF_addr U o' hp
    rw [← e]; exact hI q hq
  have key : ∀ (j i : Nat) (ds' : List Value) (va vb : Option Value), i + j = n → IntsAre ds' (Fn i) →
      ItemsRest prog w A E h₀ env (.Tuple [.Name xa p₁, .Name xb p₂] k pos) body Q s [(I + 1, "enumerate"), (I, "list_iterator")] [(l, listOf vs.toArray nl)] (enumItems i (vs.drop i)) (fun y => if y = xb then vb else if y = xa then va else m₀ y) (gf (listOf ds'.toArray nd)) := by
    intro j
    induction j with
    | zero =>
      intro i ds' va vb hij hds
      have e : i = n := by omega
      subst e
      rw [show vs.drop i = [] from List.drop_eq_nil_of_le (by omega)]
      exact ItemsRest.zero fun h tk F' N' => done ds' h tk va vb hds F' N'
    | succ j ih =>
      intro i ds' va vb hij hds
      have hil : i < vs.length := by omega
      rw [List.drop_eq_getElem_cons hil]
      show ItemsRest prog w A E h₀ env _ body Q s _ _ (.pair (fun t => .int (i : Int) t) vs[i] :: enumItems (i + 1) (vs.drop (i + 1))) _ _
      obtain ⟨x, u, hxu, hks⟩ := IntsAre.at hi i vs[i] (List.getElem?_eq_getElem hil)
      have hx : ks.getD i 0 = x := by rw [List.getD_eq_getElem?_getD, hks]; rfl
      rw [hxu, ← hx]
      refine ItemsRest.pair fun T t h tk hT F' => AllObj.cons fun o1 _ => AllObj.cons fun o2 _ => AllObj.nil fun N' => ?_
      refine turn i t u T ds' h tk I o1 o2 va vb _ (fun {h' tk' ds'' m'} F'' hm' N'' hds'' => ?_) (by omega) hds (hlt _) hT F' N'
      refine ⟨h', tk', _, gf (listOf ds''.toArray nd), rfl, F'', N'', fun p hp q hq e => ?_, ⟨updF_keep U hm hne _, trivial⟩, ?_⟩
      · have h1 := hlt _ p hp
        rcases List.mem_cons.mp hq with rfl | hq
        · exact absurd e (Nat.ne_of_lt (Nat.lt_succ_of_lt h1))
        · rcases List.mem_cons.mp hq with rfl | hq
          · exact absurd e (Nat.ne_of_lt h1)
          · exact nomatch hq
      · have em : m' = fun y => if y = xb then m' xb else if y = xa then m' xa else m₀ y := by
          funext y
          by_cases h1 : y = xb
          · rw [if_pos h1, h1]
          · rw [if_neg h1]
            by_cases h2 : y = xa
            · rw [if_pos h2, h2]
            · rw [if_neg h2, hm' y h1 h2]
        rw [em]
        exact ih (i + 1) ds'' _ _ (by omega) hds''
  have em : m₀ = fun y => if y = xb then m₀ xb else if y = xa then m₀ xa else m₀ y := by
    funext y
    by_cases h1 : y = xb
    · rw [if_pos h1, h1]
    · rw [if_neg h1]
      by_cases h2 : y = xa
      · rw [if_pos h2, h2]
      · rw [if_neg h2]
  have h0 := key n 0 ds (m₀ xa) (m₀ xb) (by omega) hd
  rw [← em, ← updF_at U] at h0
  exact h0
end
theorem srcAt_more {h₀ : Heap} {ax : Addr} {its : Array Value} {news more : List (Addr × Obj)} (h : LCg.SrcAt h₀ ax its news) : LCg.SrcAt h₀ ax its (news ++ more) := by
  rcases h with h | ⟨o, hm, r⟩
  · exact .inl h
  · exact .inr ⟨o, List.mem_append_left _ hm, r⟩
theorem OutsAre.at {c : Int} {refs : List Value} {tups : List (Addr × Obj)} {os : List Int} (h : OutsAre c refs tups os) : ∀ (i : Nat) (v : Value), refs[i]? = some v → ∃ a t u, v = .ref a ∧ (a, tupOf c t (os.getD i 0) u) ∈ tups := by
  induction h with
  | nil => intro i v h; simp at h
  | @snoc refs tups os a t u o h ih =>
    intro i v hv
    rw [List.getElem?_append] at hv
    by_cases hi : i < refs.length
    · rw [if_pos hi] at hv
      obtain ⟨a', t', u', e, hm⟩ := ih i v hv
      refine ⟨a', t', u', e, ?_⟩
      rw [List.getD_eq_getElem?_getD, List.getElem?_append_left (by rw [← h.length]; exact hi), ← List.getD_eq_getElem?_getD]
      exact .tail _ hm
    · rw [if_neg hi] at hv
      have h0 : i - refs.length = 0 := by
        cases q : i - refs.length with
        | zero => rfl
        | succ k => rw [q] at hv; simp at hv
      have hio : i = os.length := by rw [← h.length]; omega
      rw [h0] at hv
      simp only [List.getElem?_cons_zero, Option.some.injEq] at hv
      refine ⟨a, t, u, hv.symm, ?_⟩
      rw [hio, List.getD_eq_getElem?_getD, List.getElem?_append_right (Nat.le_refl _), Nat.sub_self]
      exact .head _
theorem datAll_snoc {news : List (Addr × Obj)} : ∀ {vs : List Value} {ds : List Dat} {v : Value} {d : Dat}, DatAll news vs ds → DatIn news v d → DatAll news (vs ++ [v]) (ds ++ [d])
  | _, _, _, _, .nil, h => .cons h .nil
  | _, _, _, _, .cons a r, h => .cons a (datAll_snoc r h)
theorem OutsAre.dat {c : Int} {refs : List Value} {tups : List (Addr × Obj)} {os : List Int} (h : OutsAre c refs tups os) : DatAll tups refs (os.map fun o => Dat.tuple [Dat.int c, Dat.int o]) := by
  induction h with
  | nil => exact .nil
  | @snoc refs tups os a t u o h ih =>
    rw [List.map_append]
    exact datAll_snoc (DatAll.mono (fun p hp => List.Mem.tail _ hp) ih) (.tuple (n := 0) (.head _) (.cons (.int _ _) (.cons (.int _ _) .nil)))
section
variable {prog : Program} {w : World} {A : Around} {E : Value → Shared → Prop} {s : Shared} {h₀ : Heap} {L : Addr} {m : Str → Option Value} {env : Env} {elt : Expr} {x x₂ : Str} {scope : Scope} {cl : List (Str × Addr)} {Fin : List Value → List (Addr × Obj) → Prop}
/-- a comprehension over a list of ints that makes the tuple (c, item) -/
theorem tup_rest {c : Int} {ks : List Int} {vs : List Value} {base : List (Addr × Obj)} {ax : Addr} (hi : IntsAre vs ks) (hS : LCg.SrcAt h₀ ax vs.toArray base)
    (turn : ∀ k t I oI C oC D m₂ ys h tk (E' : Value → Shared → Prop) tups, LCg.NsObj oC m₂ → m₂ x = some (.int k t) → Fr h₀ L h m → News h₀ L h ((I, oI) :: (C, oC) :: (D, LCg.lst ys) :: (base ++ tups)) → LCg.Off3 I C D (base ++ tups) → ((@Ne Nat I C) ∧ (@Ne Nat I D) ∧ (@Ne Nat C D)) →
      wpAny (model prog w) A (eval elt (compEnvC scope cl C env)) (TupEnd h₀ L m s c k ((I, oI) :: (C, oC) :: (D, LCg.lst ys) :: (base ++ tups))) E' { s with heap := h, toks := tk })
    (fin : ∀ ys tups, OutsAre c ys tups ks → (∀ p ∈ tups, ∀ q ∈ base, q.1 < p.1) → Fin ys (base ++ tups)) :
    LCg.CompRest prog w A h₀ L m env elt x scope cl s (LCg.SrcAt h₀ ax vs.toArray) (fun i v => vs.toArray[i]? = some v) Fin vs.toArray.size 0 [] base := by
  have hlen := hi.length
  have key : ∀ (j i : Nat) (ys : List Value) (tups : List (Addr × Obj)), i + j = ks.length → OutsAre c ys tups (ks.take i) → (∀ p ∈ tups, ∀ q ∈ base, q.1 < p.1) → LCg.CompRest prog w A h₀ L m env elt x scope cl s (LCg.SrcAt h₀ ax vs.toArray) (fun i v => vs.toArray[i]? = some v) Fin j i ys (base ++ tups) := by
    intro j
    induction j with
    | zero =>
      intro i ys tups hij hO hb
      have e : i = ks.length := by omega
      subst e
      rw [List.take_length] at hO
      exact LCg.CompRest.zero (fin ys tups hO hb)
    | succ j ih =>
      intro i ys tups hij hO hb
      refine LCg.CompRest.succ ?_
      intro v I oI C oC D m₂ h tk E' hv hC hx F N off ne
      obtain ⟨k, t, hk, hks⟩ := IntsAre.at hi i v (by simpa using hv)
      rw [hk] at hx
      refine wpAny_mono (turn k t I oI C oC D m₂ ys h tk E' tups hC hx F N off ne) (fun y s₂ hq => ?_) fun _ _ e => e
      obtain ⟨h', tk', a, t', u', rfl, rfl, F', N', hlt⟩ := hq
      refine ⟨h', tk', base ++ (a, tupOf c t' k u') :: tups, rfl, F', fun p hp => N' p ?_, LCg.Off3.of fun p hp => ?_, srcAt_more hS, ?_⟩
      · rcases List.mem_cons.mp hp with rfl | hp
        · exact .tail _ (.head _)
        · rcases List.mem_cons.mp hp with rfl | hp
          · exact .tail _ (.tail _ (.head _))
          · rcases List.mem_cons.mp hp with rfl | hp
            · exact .tail _ (.tail _ (.tail _ (.head _)))
            · rcases List.mem_append.mp hp with hp | hp
              · exact .tail _ (.tail _ (.tail _ (.tail _ (List.mem_append_left _ hp))))
              · rcases List.mem_cons.mp hp with rfl | hp
                · exact .head _
                · exact .tail _ (.tail _ (.tail _ (.tail _ (List.mem_append_right _ hp))))
      · have hoff := off.mem
        rcases List.mem_append.mp hp with hp | hp
        · exact hoff p (List.mem_append_left _ hp)
        · rcases List.mem_cons.mp hp with rfl | hp
          · exact ⟨Nat.ne_of_gt (hlt _ (.head _)), Nat.ne_of_gt (hlt _ (.tail _ (.head _))), Nat.ne_of_gt (hlt _ (.tail _ (.tail _ (.head _))))⟩
          · exact hoff p (List.mem_append_right _ hp)
      · refine ih (i + 1) _ _ (by omega) ?_ fun p hp q hq => ?_
        · rw [List.take_add_one, hks]
          exact hO.snoc
        · rcases List.mem_cons.mp hp with rfl | hp
          · exact hlt q (.tail _ (.tail _ (.tail _ (List.mem_append_left _ hq))))
          · exact hb p hp q hq
  have h0 := key ks.length 0 [] [] (by omega) (by simpa using OutsAre.nil) (fun p hp => nomatch hp)
  rw [List.append_nil] at h0
  rw [List.size_toArray, hlen]
  exact h0
/-- a comprehension over what a port has sent out, that takes the octets -/
theorem outs_rest {c : Int} {os : List Int} {refs : List Value} {tups base : List (Addr × Obj)} {ax : Addr} (hO : OutsAre c refs tups os) (hm : ∀ p ∈ tups, p ∈ base) (hS : LCg.SrcAt h₀ ax refs.toArray base)
    (turn : ∀ o u I oI C oC D m₂ ys h tk (E' : Value → Shared → Prop), LCg.NsObj oC m₂ → m₂ x₂ = some (.int o u) → Fr h₀ L h m → News h₀ L h ((I, oI) :: (C, oC) :: (D, LCg.lst ys) :: base) →
      wpAny (model prog w) A (eval elt (compEnvC scope cl C env)) (OutEnd h₀ L m s o ((I, oI) :: (C, oC) :: (D, LCg.lst ys) :: base)) E' { s with heap := h, toks := tk })
    (fin : ∀ ys, IntsAre ys os → Fin ys base) :
    LCp.CompRestP prog w A h₀ L m env elt x x₂ scope cl s (LCg.SrcAt h₀ ax refs.toArray) (fun i v => refs.toArray[i]? = some v) Fin refs.toArray.size 0 [] base := by
  have hlen := hO.length
  have key : ∀ (j i : Nat) (ys : List Value), i + j = os.length → IntsAre ys (os.take i) → LCp.CompRestP prog w A h₀ L m env elt x x₂ scope cl s (LCg.SrcAt h₀ ax refs.toArray) (fun i v => refs.toArray[i]? = some v) Fin j i ys base := by
    intro j
    induction j with
    | zero =>
      intro i ys hij hy
      have e : i = os.length := by omega
      subst e
      rw [List.take_length] at hy
      exact LCp.CompRestP.zero (fin ys hy)
    | succ j ih =>
      intro i ys hij hy
      refine LCp.CompRestP.succ fun v hv => ?_
      obtain ⟨a, t, u, rfl, ha⟩ := hO.at i v (by simpa using hv)
      refine ⟨a, _, _, _, _, rfl, hm _ ha, rfl, rfl, ?_⟩
      intro I oI C oC D m₂ h tk E' hC _ hx F N off ne
      refine wpAny_mono (turn _ u I oI C oC D m₂ ys h tk E' hC hx F N) (fun y s₂ hq => ?_) fun _ _ e => e
      obtain ⟨h', tk', u', rfl, rfl, F', N'⟩ := hq
      refine ⟨h', tk', base, rfl, F', N', off, hS, ih (i + 1) _ (by omega) ?_⟩
      have hio : i < os.length := by omega
      rw [List.take_add_one, List.getElem?_eq_getElem hio, List.getD_eq_getElem?_getD, List.getElem?_eq_getElem hio]
      exact IntsAre.append hy (.cons _ _ .nil)
  have h0 := key os.length 0 [] (by omega) (by simpa using IntsAre.nil)
  rw [List.size_toArray, hlen]
  exact h0
open Classical in
theorem outs_ne {a b : Addr} {news n₁ n₂ : List (Addr × Obj)} {xs ys : List Value} {c : Int} {os : List Int} {ka kb : Nat} {Q : Value → Shared → Prop} (N : News h₀ L s.heap news) (ma : (a, listOf xs.toArray ka) ∈ news) (ha : OutsAre c xs n₁ os) (sa : ∀ p ∈ n₁, p ∈ news)
    (mb : (b, listOf ys.toArray kb) ∈ news) (hb : OutsAre c ys n₂ os) (sb : ∀ p ∈ n₂, p ∈ news) (hu : A.units + 64 < cLine) (h : Q (.bool false) s) : wpAny (model prog w) A (compareOp .NotEq (.ref a) (.ref b)) Q E s := by
  have hok : ∀ d ∈ os.map fun o => Dat.tuple [Dat.int c, Dat.int o], kqdOk 8 d = true := fun d hd => by
    obtain ⟨o, _, rfl⟩ := List.mem_map.mp hd
    simp [kqdOk]
  refine kqd_ne N ma rfl rfl ha.dat sa mb rfl rfl hb.dat sb hok hok hu ?_
  rw [decide_eq_true rfl]
  exact h
end
theorem sent_rangeKs (mem : List Int) (l x : Int) (n : Nat) : (rangeKs 0 n).map (fun k => mem.getD (l + x * k).toNat 0) = sent mem l x n := by
  simp [rangeKs, sent]
def selOk : List Nat → Nat → Bool
  | [], _ => true
  | [a], n => Nat.blt a n
  | a :: b :: l, n => Nat.blt a b && selOk (b :: l) n
theorem selOk_lt : ∀ {is : List Nat} {n : Nat}, selOk is n = true → is.Pairwise (· < ·) ∧ ∀ i ∈ is, i < n
  | [], _, _ => ⟨.nil, fun _ h => nomatch h⟩
  | [a], n, h => ⟨by simp, fun i hi => by rw [List.mem_singleton.mp hi]; exact Nat.blt_eq.mp h⟩
  | a :: b :: l, n, h => by
    simp only [selOk, Bool.and_eq_true, Nat.blt_eq] at h
    obtain ⟨h1, h2⟩ := selOk_lt (is := b :: l) h.2
    have h3 : ∀ i ∈ b :: l, a < i := fun i hi => by
      rcases List.mem_cons.mp hi with rfl | hi
      · exact h.1
      · exact Nat.lt_trans h.1 ((List.pairwise_cons.mp h1).1 i hi)
    exact ⟨List.pairwise_cons.mpr ⟨h3, h1⟩, fun i hi => by
      rcases List.mem_cons.mp hi with rfl | hi
      · exact Nat.lt_trans h.1 (h2 b (.head _))
      · exact h2 i hi⟩
theorem nd_sel {l : List Nat} (nd : l.Nodup) (is : List Nat) (h : selOk is l.length = true) : (is.map fun i => l.getD i 0).Nodup := by
  obtain ⟨h1, h2⟩ := selOk_lt h
  rw [List.nodup_iff_pairwise_ne, List.pairwise_map]
  refine h1.imp_of_mem fun {a b} ha hb hab => ?_
  exact ndp nd a b (by simp only [Bool.and_eq_true, Nat.blt_eq]; exact ⟨hab, h2 b hb⟩)
end Mine
namespace Mine
theorem news_swap {h₀ : Heap} {L : Addr} {h : Heap} {a b t : List (Addr × Obj)} (N : News h₀ L h ((a ++ t) ++ b)) : News h₀ L h ((a ++ b) ++ t) := fun q hq => by
  refine N q ?_
  rcases List.mem_append.mp hq with hq | hq
  · rcases List.mem_append.mp hq with hq | hq
    · exact List.mem_append_left _ (List.mem_append_left _ hq)
    · exact List.mem_append_right _ hq
  · exact List.mem_append_left _ (List.mem_append_right _ hq)
/-- a call, with the word that the old addresses differ, and that the new ones differ from the rest -/
theorem use_s {prog : Program} {w : World} {f : Addr} {vs : List Value} {d : Nat} {need lit rest : List (Addr × Obj)} {p : Program} {loose : List Str} {mean : ExcName → Option Value} {mg mb : Str → Option Value} {dp un : Nat} {gd : Option (List Code)} {cn : Str} {cs : Scope} {a : Addr} {ccd : Value} {cl : List (Str × Addr)} {outer : List Env} {A₀ : Around} {base h₀ : Heap} {L : Addr}
    {m : Str → Option Value} {s : Shared} {Q E : Value → Shared → Prop} {Post : List (Addr × Obj) → Value → Prop} (C : Spec prog w f vs d need Post)
    (B : Below A₀ base outer h₀) (F : Fr h₀ L s.heap m) (X : (hd.heap_1 w.params).In h₀) (N : News h₀ L s.heap lit) (T : Top p loose mean mg mb h₀) (hk : cs.kind = .function) (P : Pick need lit rest) (nd : (lit.map (·.1)).Nodup)
    (hd : dp + d < recursionLimit) (hu : un + 8 * d < cLine)
    (ret : ∀ r need' h' tk', Fr h₀ L h' m → News h₀ L h' (need' ++ rest) → ((need ++ rest).map (·.1)).Nodup → (∀ p ∈ rest, ∀ q ∈ need', p.1 ≠ q.1) → Post need' r → Q r { s with heap := h', toks := tk' }) :
    wpAny (model prog w) (ktrTop dp un gd cn cs L a ccd cl outer) (call (.ref f) vs) Q E s :=
  spec_use C B F X N T hk P (P.sep nd) hd hu fun r need' h' tk' F' N' S' hp => ret r need' h' tk' F' N' ((P.perm.map _).nodup_iff.mp nd) S' hp
end Mine
namespace Mine
theorem allLt_mem {d : Addr} : ∀ {l : List (Addr × Obj)}, AllLt d l → ∀ p ∈ l, p.1 < d
  | [], _, p, h => nomatch h
  | q :: l, h, p, hp => by
    rcases List.mem_cons.mp hp with rfl | hp
    · exact h.1
    · exact allLt_mem h.2 p hp
end Mine
namespace Mine
theorem sent_if {mem : List Int} {l x : Int} {n : Nat} {i : ∀ k : Int, Decidable (x * k = k ∨ x * k = -k)} (hx : x = 1 ∨ x = -1) : (rangeKs 0 n).map (fun k => @ite Int (x * k = k ∨ x * k = -k) (i k) (mem.getD (l + x * k).toNat 0) k) = sent mem l x n := by
  rw [← sent_rangeKs]
  exact List.map_congr_left fun k _ => if_pos (mul_sign hx k)
end Mine
namespace Mine
/-- a word that omega does not open -/
def Hid (p : Prop) : Prop := p
theorem hide {p : Prop} (h : p) : Hid p := h
theorem Hid.get {p : Prop} (h : Hid p) : p := h
end Mine
namespace Mine
theorem tok_F {α : Type} {M : Model} {A : Around} {c : Sem α} {Q : α → Shared → Prop} {E : Value → Shared → Prop} {h₀ h : Heap} {L : Addr} {m : Str → Option Value} {gens : Array GenState} {drawn : Drawn} {toks : Nat} {os : OsState} (_ : Fr h₀ L h m) (H : ∀ tk, wpAny M A c Q E ⟨h, gens, drawn, tk, os⟩) : wpAny M A c Q E ⟨h, gens, drawn, toks, os⟩ := H toks
end Mine
namespace Mine
theorem newsSelT {h₀ : Heap} {L : Addr} {h : Heap} {l : List (Addr × Obj)} (N : News h₀ L h l) (is : List Nat) (t : List (Addr × Obj)) (ht : ∀ p ∈ t, p ∈ l) : News h₀ L h ((is.filterMap fun i => l[i]?) ++ t) := fun q hq => by
  rcases List.mem_append.mp hq with hq | hq
  · exact News.sel N is q hq
  · exact N q (ht q hq)
theorem off1_sep {D : Addr} {o : Obj} : ∀ {l : List (Addr × Obj)}, LCg.Off1 D l → ∀ q ∈ l, ∀ p ∈ [(D, o)], p.1 ≠ q.1
  | [], _, q, hq, _, _ => nomatch hq
  | r :: l, h, q, hq, p, hp => by
    rw [List.mem_singleton.mp hp]
    rcases List.mem_cons.mp hq with rfl | hq
    · exact fun e => h.1 e.symm
    · exact off1_sep h.2 q hq (D, o) (.head _)
theorem code_neg {x : Int} (h : x = 1 ∨ x = -1) : (if decide (x > 0) = true then (186 : Int) else 178) = 178 ∧ -x = 1 ∨ (if decide (x > 0) = true then (186 : Int) else 178) = 186 ∧ -x = -1 := by
  rcases h with rfl | rfl
  · exact .inr ⟨rfl, rfl⟩
  · exact .inl ⟨rfl, rfl⟩
theorem sent_bytes {mem : List Int} (hb : Bytes mem) (l x : Int) (n : Nat) : Bytes (sent mem l x n) := by
  intro i
  rw [List.getD_eq_getElem?_getD, sent, List.getElem?_map]
  cases h : (List.range n)[i]? with
  | none => simp
  | some j => exact hb _
theorem tk_step {mem ins : List Int} {L x : Int} {i : Nat} : tkMem mem ins L (-x) (i + 1) = (tkMem mem ins L (-x) i).set (L - x * (i : Int)).toNat (ins.getD i 0) := by
  rw [tkMem, show L + -x * (i : Int) = L - x * (i : Int) by rw [Int.neg_mul]; omega]
theorem nd_seven {a b c f p q o i : Nat} (n1 : [a, b, c].Nodup) (n2 : [p, q, o, i].Nodup) (h1 : f ≠ a ∧ f ≠ b ∧ f ≠ c) (h2 : a ≠ p ∧ a ≠ q ∧ a ≠ i) (h3 : b ≠ p ∧ b ≠ q ∧ b ≠ i) (h4 : c ≠ p ∧ c ≠ q ∧ c ≠ i) (h5 : f ≠ p ∧ f ≠ q ∧ f ≠ i) : [a, b, c, f, p, q, i].Nodup := by
  simp only [List.nodup_cons, List.mem_cons, List.not_mem_nil, or_false, not_or, not_false_eq_true, List.nodup_nil, and_true] at n1 n2 ⊢
  exact ⟨⟨n1.1.1, n1.1.2, fun e => h1.1 e.symm, h2.1, h2.2.1, h2.2.2⟩, ⟨n1.2, fun e => h1.2.1 e.symm, h3.1, h3.2.1, h3.2.2⟩, ⟨fun e => h1.2.2 e.symm, h4.1, h4.2.1, h4.2.2⟩, ⟨h5.1, h5.2.1, h5.2.2⟩, ⟨n2.1.1, n2.1.2.2⟩, n2.2.1.2⟩
end Mine
namespace Mine
theorem nd_join {need' rest : List (Addr × Obj)} {is : List Nat} (S : ∀ p ∈ rest, ∀ q ∈ need', p.1 ≠ q.1) (n1 : (need'.map (·.1)).Nodup) (n2 : ((is.filterMap fun i => rest[i]?).map (·.1)).Nodup) : ((need' ++ is.filterMap fun i => rest[i]?).map (·.1)).Nodup := by
  rw [List.map_append]
  refine List.nodup_append.mpr ⟨n1, n2, ?_⟩
  intro a ha b hb e
  obtain ⟨q, hq, rfl⟩ := List.mem_map.mp ha
  obtain ⟨p, hp, rfl⟩ := List.mem_map.mp hb
  obtain ⟨i, _, hi⟩ := List.mem_filterMap.mp hp
  exact S p (List.mem_of_getElem? hi) q hq e.symm
end Mine
namespace Mine
theorem take_neg {p a x n f b : Int} : List.take 6 [0, p, 0, 9, 0, a + -x * n, f, b] = [0, p, 0, 9, 0, a - x * n] := by
  rw [Int.neg_mul, ← Int.sub_eq_add_neg]; rfl
end Mine
end

section
namespace Mine
theorem fresh_N19 : True ∧ True := by
  w_top off
  k_with_none
  first | (walk1 <;> trivial) | exact ⟨trivial, trivial⟩
end Mine
open PySem PySem.W PyProof.Rows PySem.Spec PySem.Calls
set_option Elab.async false
set_option maxRecDepth 100000
set_option maxHeartbeats 8000000
namespace Mine
set_option pp.maxSteps 20000
set_option pp.deepTerms false
set_option pp.deepTerms.threshold 4
local macro_rules | `(tactic| k_ne) => `(tactic| k_extra "ne")
local macro_rules | `(tactic| walk_at "getAttr ref") => `(tactic| (k_here; k_extra "getAttr ref"))
local macro_rules | `(tactic| walk_at "pyIter ref") => `(tactic| (k_here; k_extra "pyIter ref"))
local macro_rules | `(tactic| walk_at "exec For Name Call cons nil") => `(tactic| (k_here; k_extra "for"))
local macro_rules | `(tactic| walk_at "eval IfExp") => `(tactic| (k_here; k_extra "eval IfExp"))
local macro_rules | `(tactic| walk_at "CompSrc") => `(tactic| (k_here; k_extra "CompSrc"))
local macro_rules | `(tactic| walk_at "eval ListComp") => `(tactic| (k_here; k_extra "eval ListComp"))
local macro_rules | `(tactic| walk_at "SrcLP") => `(tactic| (k_here; k_extra "SrcLP"))
local macro_rules | `(tactic| walk_at "call type:enumerate") => `(tactic| (k_here; k_extra "call type:enumerate"))
local macro_rules | `(tactic| walk_at "exec For Tuple Call cons nil") => `(tactic| (k_here; k_extra "exec For Tuple Call cons nil"))
local macro_rules | `(tactic| walk_at "execs cons") => `(tactic| (k_here; k_extra "execs cons"))
local macro_rules | `(tactic| k_all) => `(tactic| k_extra "all")

theorem carried_is {prog : Program} {w : World} {mA : Addr} {nm : Nat} {vs : List Value} {mem : List Int} {t₁ t₂ t₃ t₄ t₅ t₆ : Tok} {l x way f port : Int} {n : Nat} (hn0 : 1 ≤ n) (hn1 : n ≤ 10) (hx : x = 1 ∨ x = -1) (hi : IntsAre vs mem) (hlen : mem.length = 128) (hb : Bytes mem)
    (hl : 40 ≤ l ∧ l < 88) (hw : -9 ≤ way ∧ way ≤ 9) (hf0 : 0 ≤ f) (hf1 : f < 256) (hpo : 0 ≤ port ∧ port < 256) :
    Spec prog w 355 [.ref mA, .int (n : Int) t₁, .int x t₂, .int l t₃, .int way t₄, .int f t₅, .int port t₆] 12 [(mA, listOf vs.toArray nm)] (fun need' r => need' = [(mA, listOf vs.toArray nm)] ∧ r = .bool true) := by
  k_with_none
  k_with "execs cons" => ((with_reducible show wpAny _ _ _ _ _ (Shared.mk _ _ _ (@HAdd.hAdd Nat Nat Nat _ _ _) _)); (rename Fr _ _ _ _ => kF); k_dflt (apply (tok_F (gens := s.gens) (drawn := s.drawn) (os := s.os) kF)); intro tk)
  k_with "exec For Tuple Call cons nil" => ((rename Fr _ _ _ _ => lF'); (with_unfolding_all refine' For_turns lF' ?_; k_whole))
  k_with "ne" => (first | assumption | exact Ne.symm (by assumption) | (refine neN ?_; (try dsimp only); first | exact Nat.ne_of_lt (And.left (by with_reducible assumption)) | exact Nat.ne_of_lt (And.left (And.right (by with_reducible assumption))) | exact Nat.ne_of_lt (And.left (And.right (And.right (by with_reducible assumption)))) | exact Nat.ne_of_lt (And.left (And.right (And.right (And.right (by with_reducible assumption))))) | exact Nat.ne_of_lt (And.left (And.right (And.right (And.right (And.right (by with_reducible assumption)))))) | exact Nat.ne_of_lt (And.left (And.right (And.right (And.right (And.right (And.right (by with_reducible assumption))))))) | exact Nat.ne_of_lt (And.left (And.right (And.right (And.right (And.right (And.right (And.right (by with_reducible assumption)))))))) | exact Nat.ne_of_lt (And.left (And.right (And.right (And.right (And.right (And.right (And.right (And.right (by with_reducible assumption))))))))) | exact Nat.ne_of_lt (And.left (And.right (And.right (And.right (And.right (And.right (And.right (And.right (And.right (by with_reducible assumption)))))))))) | exact Nat.ne_of_lt (And.left (And.right (And.right (And.right (And.right (And.right (And.right (And.right (And.right (And.right (by with_reducible assumption))))))))))) | exact Nat.ne_of_lt (And.left (And.right (And.right (And.right (And.right (And.right (And.right (And.right (And.right (And.right (And.right (by with_reducible assumption)))))))))))) | exact Nat.ne_of_lt (And.left (And.right (And.right (And.right (And.right (And.right (And.right (And.right (And.right (And.right (And.right (And.right (by with_reducible assumption))))))))))))) | exact Nat.ne_of_lt (And.left (And.right (And.right (And.right (And.right (And.right (And.right (And.right (And.right (And.right (And.right (And.right (And.right (by with_reducible assumption)))))))))))))) | exact Nat.ne_of_lt (And.left (And.right (And.right (And.right (And.right (And.right (And.right (And.right (And.right (And.right (And.right (And.right (And.right (And.right (by with_reducible assumption))))))))))))))) | exact Nat.ne_of_lt (And.left (And.right (And.right (And.right (And.right (And.right (And.right (And.right (And.right (And.right (And.right (And.right (And.right (And.right (And.right (by with_reducible assumption)))))))))))))))) | exact Nat.ne_of_lt (by with_reducible assumption) | exact Nat.ne_of_lt (And.right (by with_reducible assumption)) | exact Nat.ne_of_lt (And.right (And.right (by with_reducible assumption))) | exact Nat.ne_of_lt (And.right (And.right (And.right (by with_reducible assumption)))) | exact Nat.ne_of_lt (And.right (And.right (And.right (And.right (by with_reducible assumption))))) | exact Nat.ne_of_lt (And.right (And.right (And.right (And.right (And.right (by with_reducible assumption)))))) | exact Nat.ne_of_lt (And.right (And.right (And.right (And.right (And.right (And.right (by with_reducible assumption))))))) | exact Nat.ne_of_lt (And.right (And.right (And.right (And.right (And.right (And.right (And.right (by with_reducible assumption)))))))) | exact Nat.ne_of_lt (And.right (And.right (And.right (And.right (And.right (And.right (And.right (And.right (by with_reducible assumption))))))))) | exact Nat.ne_of_lt (And.right (And.right (And.right (And.right (And.right (And.right (And.right (And.right (And.right (by with_reducible assumption)))))))))) | exact Nat.ne_of_lt (And.right (And.right (And.right (And.right (And.right (And.right (And.right (And.right (And.right (And.right (by with_reducible assumption))))))))))) | exact Nat.ne_of_lt (And.right (And.right (And.right (And.right (And.right (And.right (And.right (And.right (And.right (And.right (And.right (by with_reducible assumption)))))))))))) | exact Nat.ne_of_lt (And.right (And.right (And.right (And.right (And.right (And.right (And.right (And.right (And.right (And.right (And.right (And.right (by with_reducible assumption))))))))))))) | exact Nat.ne_of_lt (And.right (And.right (And.right (And.right (And.right (And.right (And.right (And.right (And.right (And.right (And.right (And.right (And.right (by with_reducible assumption)))))))))))))) | exact Nat.ne_of_lt (And.right (And.right (And.right (And.right (And.right (And.right (And.right (And.right (And.right (And.right (And.right (And.right (And.right (And.right (by with_reducible assumption))))))))))))))) | exact Nat.ne_of_gt (And.left (by with_reducible assumption)) | exact Nat.ne_of_gt (And.left (And.right (by with_reducible assumption))) | exact Nat.ne_of_gt (And.left (And.right (And.right (by with_reducible assumption)))) | exact Nat.ne_of_gt (And.left (And.right (And.right (And.right (by with_reducible assumption))))) | exact Nat.ne_of_gt (And.left (And.right (And.right (And.right (And.right (by with_reducible assumption)))))) | exact Nat.ne_of_gt (And.left (And.right (And.right (And.right (And.right (And.right (by with_reducible assumption))))))) | exact Nat.ne_of_gt (And.left (And.right (And.right (And.right (And.right (And.right (And.right (by with_reducible assumption)))))))) | exact Nat.ne_of_gt (And.left (And.right (And.right (And.right (And.right (And.right (And.right (And.right (by with_reducible assumption))))))))) | exact Nat.ne_of_gt (And.left (And.right (And.right (And.right (And.right (And.right (And.right (And.right (And.right (by with_reducible assumption)))))))))) | exact Nat.ne_of_gt (And.left (And.right (And.right (And.right (And.right (And.right (And.right (And.right (And.right (And.right (by with_reducible assumption))))))))))) | exact Nat.ne_of_gt (And.left (And.right (And.right (And.right (And.right (And.right (And.right (And.right (And.right (And.right (And.right (by with_reducible assumption)))))))))))) | exact Nat.ne_of_gt (And.left (And.right (And.right (And.right (And.right (And.right (And.right (And.right (And.right (And.right (And.right (And.right (by with_reducible assumption))))))))))))) | exact Nat.ne_of_gt (And.left (And.right (And.right (And.right (And.right (And.right (And.right (And.right (And.right (And.right (And.right (And.right (And.right (by with_reducible assumption)))))))))))))) | exact Nat.ne_of_gt (And.left (And.right (And.right (And.right (And.right (And.right (And.right (And.right (And.right (And.right (And.right (And.right (And.right (And.right (by with_reducible assumption))))))))))))))) | exact Nat.ne_of_gt (And.left (And.right (And.right (And.right (And.right (And.right (And.right (And.right (And.right (And.right (And.right (And.right (And.right (And.right (And.right (by with_reducible assumption)))))))))))))))) | exact Nat.ne_of_gt (by with_reducible assumption) | exact Nat.ne_of_gt (And.right (by with_reducible assumption)) | exact Nat.ne_of_gt (And.right (And.right (by with_reducible assumption))) | exact Nat.ne_of_gt (And.right (And.right (And.right (by with_reducible assumption)))) | exact Nat.ne_of_gt (And.right (And.right (And.right (And.right (by with_reducible assumption))))) | exact Nat.ne_of_gt (And.right (And.right (And.right (And.right (And.right (by with_reducible assumption)))))) | exact Nat.ne_of_gt (And.right (And.right (And.right (And.right (And.right (And.right (by with_reducible assumption))))))) | exact Nat.ne_of_gt (And.right (And.right (And.right (And.right (And.right (And.right (And.right (by with_reducible assumption)))))))) | exact Nat.ne_of_gt (And.right (And.right (And.right (And.right (And.right (And.right (And.right (And.right (by with_reducible assumption))))))))) | exact Nat.ne_of_gt (And.right (And.right (And.right (And.right (And.right (And.right (And.right (And.right (And.right (by with_reducible assumption)))))))))) | exact Nat.ne_of_gt (And.right (And.right (And.right (And.right (And.right (And.right (And.right (And.right (And.right (And.right (by with_reducible assumption))))))))))) | exact Nat.ne_of_gt (And.right (And.right (And.right (And.right (And.right (And.right (And.right (And.right (And.right (And.right (And.right (by with_reducible assumption)))))))))))) | exact Nat.ne_of_gt (And.right (And.right (And.right (And.right (And.right (And.right (And.right (And.right (And.right (And.right (And.right (And.right (by with_reducible assumption))))))))))))) | exact Nat.ne_of_gt (And.right (And.right (And.right (And.right (And.right (And.right (And.right (And.right (And.right (And.right (And.right (And.right (And.right (by with_reducible assumption)))))))))))))) | exact Nat.ne_of_gt (And.right (And.right (And.right (And.right (And.right (And.right (And.right (And.right (And.right (And.right (And.right (And.right (And.right (And.right (by with_reducible assumption))))))))))))))) | exact id (And.left (by with_reducible assumption)) | exact id (And.left (And.right (by with_reducible assumption))) | exact id (And.left (And.right (And.right (by with_reducible assumption)))) | exact id (And.left (And.right (And.right (And.right (by with_reducible assumption))))) | exact id (And.left (And.right (And.right (And.right (And.right (by with_reducible assumption)))))) | exact id (And.left (And.right (And.right (And.right (And.right (And.right (by with_reducible assumption))))))) | exact id (And.left (And.right (And.right (And.right (And.right (And.right (And.right (by with_reducible assumption)))))))) | exact id (And.left (And.right (And.right (And.right (And.right (And.right (And.right (And.right (by with_reducible assumption))))))))) | exact id (And.left (And.right (And.right (And.right (And.right (And.right (And.right (And.right (And.right (by with_reducible assumption)))))))))) | exact id (And.left (And.right (And.right (And.right (And.right (And.right (And.right (And.right (And.right (And.right (by with_reducible assumption))))))))))) | exact id (And.left (And.right (And.right (And.right (And.right (And.right (And.right (And.right (And.right (And.right (And.right (by with_reducible assumption)))))))))))) | exact id (And.left (And.right (And.right (And.right (And.right (And.right (And.right (And.right (And.right (And.right (And.right (And.right (by with_reducible assumption))))))))))))) | exact id (And.left (And.right (And.right (And.right (And.right (And.right (And.right (And.right (And.right (And.right (And.right (And.right (And.right (by with_reducible assumption)))))))))))))) | exact id (And.left (And.right (And.right (And.right (And.right (And.right (And.right (And.right (And.right (And.right (And.right (And.right (And.right (And.right (by with_reducible assumption))))))))))))))) | exact id (And.left (And.right (And.right (And.right (And.right (And.right (And.right (And.right (And.right (And.right (And.right (And.right (And.right (And.right (And.right (by with_reducible assumption)))))))))))))))) | exact id (by with_reducible assumption) | exact id (And.right (by with_reducible assumption)) | exact id (And.right (And.right (by with_reducible assumption))) | exact id (And.right (And.right (And.right (by with_reducible assumption)))) | exact id (And.right (And.right (And.right (And.right (by with_reducible assumption))))) | exact id (And.right (And.right (And.right (And.right (And.right (by with_reducible assumption)))))) | exact id (And.right (And.right (And.right (And.right (And.right (And.right (by with_reducible assumption))))))) | exact id (And.right (And.right (And.right (And.right (And.right (And.right (And.right (by with_reducible assumption)))))))) | exact id (And.right (And.right (And.right (And.right (And.right (And.right (And.right (And.right (by with_reducible assumption))))))))) | exact id (And.right (And.right (And.right (And.right (And.right (And.right (And.right (And.right (And.right (by with_reducible assumption)))))))))) | exact id (And.right (And.right (And.right (And.right (And.right (And.right (And.right (And.right (And.right (And.right (by with_reducible assumption))))))))))) | exact id (And.right (And.right (And.right (And.right (And.right (And.right (And.right (And.right (And.right (And.right (And.right (by with_reducible assumption)))))))))))) | exact id (And.right (And.right (And.right (And.right (And.right (And.right (And.right (And.right (And.right (And.right (And.right (And.right (by with_reducible assumption))))))))))))) | exact id (And.right (And.right (And.right (And.right (And.right (And.right (And.right (And.right (And.right (And.right (And.right (And.right (And.right (by with_reducible assumption)))))))))))))) | exact id (And.right (And.right (And.right (And.right (And.right (And.right (And.right (And.right (And.right (And.right (And.right (And.right (And.right (And.right (by with_reducible assumption))))))))))))))) | exact Ne.symm (And.left (by with_reducible assumption)) | exact Ne.symm (And.left (And.right (by with_reducible assumption))) | exact Ne.symm (And.left (And.right (And.right (by with_reducible assumption)))) | exact Ne.symm (And.left (And.right (And.right (And.right (by with_reducible assumption))))) | exact Ne.symm (And.left (And.right (And.right (And.right (And.right (by with_reducible assumption)))))) | exact Ne.symm (And.left (And.right (And.right (And.right (And.right (And.right (by with_reducible assumption))))))) | exact Ne.symm (And.left (And.right (And.right (And.right (And.right (And.right (And.right (by with_reducible assumption)))))))) | exact Ne.symm (And.left (And.right (And.right (And.right (And.right (And.right (And.right (And.right (by with_reducible assumption))))))))) | exact Ne.symm (And.left (And.right (And.right (And.right (And.right (And.right (And.right (And.right (And.right (by with_reducible assumption)))))))))) | exact Ne.symm (And.left (And.right (And.right (And.right (And.right (And.right (And.right (And.right (And.right (And.right (by with_reducible assumption))))))))))) | exact Ne.symm (And.left (And.right (And.right (And.right (And.right (And.right (And.right (And.right (And.right (And.right (And.right (by with_reducible assumption)))))))))))) | exact Ne.symm (And.left (And.right (And.right (And.right (And.right (And.right (And.right (And.right (And.right (And.right (And.right (And.right (by with_reducible assumption))))))))))))) | exact Ne.symm (And.left (And.right (And.right (And.right (And.right (And.right (And.right (And.right (And.right (And.right (And.right (And.right (And.right (by with_reducible assumption)))))))))))))) | exact Ne.symm (And.left (And.right (And.right (And.right (And.right (And.right (And.right (And.right (And.right (And.right (And.right (And.right (And.right (And.right (by with_reducible assumption))))))))))))))) | exact Ne.symm (And.left (And.right (And.right (And.right (And.right (And.right (And.right (And.right (And.right (And.right (And.right (And.right (And.right (And.right (And.right (by with_reducible assumption)))))))))))))))) | exact Ne.symm (by with_reducible assumption) | exact Ne.symm (And.right (by with_reducible assumption)) | exact Ne.symm (And.right (And.right (by with_reducible assumption))) | exact Ne.symm (And.right (And.right (And.right (by with_reducible assumption)))) | exact Ne.symm (And.right (And.right (And.right (And.right (by with_reducible assumption))))) | exact Ne.symm (And.right (And.right (And.right (And.right (And.right (by with_reducible assumption)))))) | exact Ne.symm (And.right (And.right (And.right (And.right (And.right (And.right (by with_reducible assumption))))))) | exact Ne.symm (And.right (And.right (And.right (And.right (And.right (And.right (And.right (by with_reducible assumption)))))))) | exact Ne.symm (And.right (And.right (And.right (And.right (And.right (And.right (And.right (And.right (by with_reducible assumption))))))))) | exact Ne.symm (And.right (And.right (And.right (And.right (And.right (And.right (And.right (And.right (And.right (by with_reducible assumption)))))))))) | exact Ne.symm (And.right (And.right (And.right (And.right (And.right (And.right (And.right (And.right (And.right (And.right (by with_reducible assumption))))))))))) | exact Ne.symm (And.right (And.right (And.right (And.right (And.right (And.right (And.right (And.right (And.right (And.right (And.right (by with_reducible assumption)))))))))))) | exact Ne.symm (And.right (And.right (And.right (And.right (And.right (And.right (And.right (And.right (And.right (And.right (And.right (And.right (by with_reducible assumption))))))))))))) | exact Ne.symm (And.right (And.right (And.right (And.right (And.right (And.right (And.right (And.right (And.right (And.right (And.right (And.right (And.right (by with_reducible assumption)))))))))))))) | exact Ne.symm (And.right (And.right (And.right (And.right (And.right (And.right (And.right (And.right (And.right (And.right (And.right (And.right (And.right (And.right (by with_reducible assumption))))))))))))))) | exact id (And.left (And.left (by with_reducible assumption))) | exact id (And.left (And.right (And.left (by with_reducible assumption)))) | exact id (And.right (And.right (And.left (by with_reducible assumption)))) | exact id (And.left (And.left (And.right (by with_reducible assumption)))) | exact id (And.left (And.right (And.left (And.right (by with_reducible assumption))))) | exact id (And.right (And.right (And.left (And.right (by with_reducible assumption))))) | exact id (And.left (And.left (And.right (And.right (by with_reducible assumption))))) | exact id (And.left (And.right (And.left (And.right (And.right (by with_reducible assumption)))))) | exact id (And.right (And.right (And.left (And.right (And.right (by with_reducible assumption)))))) | exact id (And.left (And.left (And.right (And.right (And.right (by with_reducible assumption)))))) | exact id (And.left (And.right (And.left (And.right (And.right (And.right (by with_reducible assumption))))))) | exact id (And.right (And.right (And.left (And.right (And.right (And.right (by with_reducible assumption))))))) | exact id (And.left (And.left (And.right (And.right (And.right (And.right (by with_reducible assumption))))))) | exact id (And.left (And.right (And.left (And.right (And.right (And.right (And.right (by with_reducible assumption)))))))) | exact id (And.right (And.right (And.left (And.right (And.right (And.right (And.right (by with_reducible assumption)))))))) | exact id (And.left (And.left (And.right (And.right (And.right (And.right (And.right (by with_reducible assumption)))))))) | exact id (And.left (And.right (And.left (And.right (And.right (And.right (And.right (And.right (by with_reducible assumption))))))))) | exact id (And.right (And.right (And.left (And.right (And.right (And.right (And.right (And.right (by with_reducible assumption))))))))) | exact id (And.left (And.left (And.right (And.right (And.right (And.right (And.right (And.right (by with_reducible assumption))))))))) | exact id (And.left (And.right (And.left (And.right (And.right (And.right (And.right (And.right (And.right (by with_reducible assumption)))))))))) | exact id (And.right (And.right (And.left (And.right (And.right (And.right (And.right (And.right (And.right (by with_reducible assumption)))))))))) | exact id (And.left (And.left (And.right (And.right (And.right (And.right (And.right (And.right (And.right (by with_reducible assumption)))))))))) | exact id (And.left (And.right (And.left (And.right (And.right (And.right (And.right (And.right (And.right (And.right (by with_reducible assumption))))))))))) | exact id (And.right (And.right (And.left (And.right (And.right (And.right (And.right (And.right (And.right (And.right (by with_reducible assumption))))))))))) | exact id (And.left (And.left (And.right (And.right (And.right (And.right (And.right (And.right (And.right (And.right (by with_reducible assumption))))))))))) | exact id (And.left (And.right (And.left (And.right (And.right (And.right (And.right (And.right (And.right (And.right (And.right (by with_reducible assumption)))))))))))) | exact id (And.right (And.right (And.left (And.right (And.right (And.right (And.right (And.right (And.right (And.right (And.right (by with_reducible assumption)))))))))))) | exact id (And.left (And.left (And.right (And.right (And.right (And.right (And.right (And.right (And.right (And.right (And.right (by with_reducible assumption)))))))))))) | exact id (And.left (And.right (And.left (And.right (And.right (And.right (And.right (And.right (And.right (And.right (And.right (And.right (by with_reducible assumption))))))))))))) | exact id (And.right (And.right (And.left (And.right (And.right (And.right (And.right (And.right (And.right (And.right (And.right (And.right (by with_reducible assumption))))))))))))) | exact id (And.left (And.left (And.right (And.right (And.right (And.right (And.right (And.right (And.right (And.right (And.right (And.right (by with_reducible assumption))))))))))))) | exact id (And.left (And.right (And.left (And.right (And.right (And.right (And.right (And.right (And.right (And.right (And.right (And.right (And.right (by with_reducible assumption)))))))))))))) | exact id (And.right (And.right (And.left (And.right (And.right (And.right (And.right (And.right (And.right (And.right (And.right (And.right (And.right (by with_reducible assumption)))))))))))))) | exact id (And.left (And.left (And.right (And.right (And.right (And.right (And.right (And.right (And.right (And.right (And.right (And.right (And.right (by with_reducible assumption)))))))))))))) | exact id (And.left (And.right (And.left (And.right (And.right (And.right (And.right (And.right (And.right (And.right (And.right (And.right (And.right (And.right (by with_reducible assumption))))))))))))))) | exact id (And.right (And.right (And.left (And.right (And.right (And.right (And.right (And.right (And.right (And.right (And.right (And.right (And.right (And.right (by with_reducible assumption))))))))))))))) | exact Ne.symm (And.left (And.left (by with_reducible assumption))) | exact Ne.symm (And.left (And.right (And.left (by with_reducible assumption)))) | exact Ne.symm (And.right (And.right (And.left (by with_reducible assumption)))) | exact Ne.symm (And.left (And.left (And.right (by with_reducible assumption)))) | exact Ne.symm (And.left (And.right (And.left (And.right (by with_reducible assumption))))) | exact Ne.symm (And.right (And.right (And.left (And.right (by with_reducible assumption))))) | exact Ne.symm (And.left (And.left (And.right (And.right (by with_reducible assumption))))) | exact Ne.symm (And.left (And.right (And.left (And.right (And.right (by with_reducible assumption)))))) | exact Ne.symm (And.right (And.right (And.left (And.right (And.right (by with_reducible assumption)))))) | exact Ne.symm (And.left (And.left (And.right (And.right (And.right (by with_reducible assumption)))))) | exact Ne.symm (And.left (And.right (And.left (And.right (And.right (And.right (by with_reducible assumption))))))) | exact Ne.symm (And.right (And.right (And.left (And.right (And.right (And.right (by with_reducible assumption))))))) | exact Ne.symm (And.left (And.left (And.right (And.right (And.right (And.right (by with_reducible assumption))))))) | exact Ne.symm (And.left (And.right (And.left (And.right (And.right (And.right (And.right (by with_reducible assumption)))))))) | exact Ne.symm (And.right (And.right (And.left (And.right (And.right (And.right (And.right (by with_reducible assumption)))))))) | exact Ne.symm (And.left (And.left (And.right (And.right (And.right (And.right (And.right (by with_reducible assumption)))))))) | exact Ne.symm (And.left (And.right (And.left (And.right (And.right (And.right (And.right (And.right (by with_reducible assumption))))))))) | exact Ne.symm (And.right (And.right (And.left (And.right (And.right (And.right (And.right (And.right (by with_reducible assumption))))))))) | exact Ne.symm (And.left (And.left (And.right (And.right (And.right (And.right (And.right (And.right (by with_reducible assumption))))))))) | exact Ne.symm (And.left (And.right (And.left (And.right (And.right (And.right (And.right (And.right (And.right (by with_reducible assumption)))))))))) | exact Ne.symm (And.right (And.right (And.left (And.right (And.right (And.right (And.right (And.right (And.right (by with_reducible assumption)))))))))) | exact Ne.symm (And.left (And.left (And.right (And.right (And.right (And.right (And.right (And.right (And.right (by with_reducible assumption)))))))))) | exact Ne.symm (And.left (And.right (And.left (And.right (And.right (And.right (And.right (And.right (And.right (And.right (by with_reducible assumption))))))))))) | exact Ne.symm (And.right (And.right (And.left (And.right (And.right (And.right (And.right (And.right (And.right (And.right (by with_reducible assumption))))))))))) | exact Ne.symm (And.left (And.left (And.right (And.right (And.right (And.right (And.right (And.right (And.right (And.right (by with_reducible assumption))))))))))) | exact Ne.symm (And.left (And.right (And.left (And.right (And.right (And.right (And.right (And.right (And.right (And.right (And.right (by with_reducible assumption)))))))))))) | exact Ne.symm (And.right (And.right (And.left (And.right (And.right (And.right (And.right (And.right (And.right (And.right (And.right (by with_reducible assumption)))))))))))) | exact Ne.symm (And.left (And.left (And.right (And.right (And.right (And.right (And.right (And.right (And.right (And.right (And.right (by with_reducible assumption)))))))))))) | exact Ne.symm (And.left (And.right (And.left (And.right (And.right (And.right (And.right (And.right (And.right (And.right (And.right (And.right (by with_reducible assumption))))))))))))) | exact Ne.symm (And.right (And.right (And.left (And.right (And.right (And.right (And.right (And.right (And.right (And.right (And.right (And.right (by with_reducible assumption))))))))))))) | exact Ne.symm (And.left (And.left (And.right (And.right (And.right (And.right (And.right (And.right (And.right (And.right (And.right (And.right (by with_reducible assumption))))))))))))) | exact Ne.symm (And.left (And.right (And.left (And.right (And.right (And.right (And.right (And.right (And.right (And.right (And.right (And.right (And.right (by with_reducible assumption)))))))))))))) | exact Ne.symm (And.right (And.right (And.left (And.right (And.right (And.right (And.right (And.right (And.right (And.right (And.right (And.right (And.right (by with_reducible assumption)))))))))))))) | exact Ne.symm (And.left (And.left (And.right (And.right (And.right (And.right (And.right (And.right (And.right (And.right (And.right (And.right (And.right (by with_reducible assumption)))))))))))))) | exact Ne.symm (And.left (And.right (And.left (And.right (And.right (And.right (And.right (And.right (And.right (And.right (And.right (And.right (And.right (And.right (by with_reducible assumption))))))))))))))) | exact Ne.symm (And.right (And.right (And.left (And.right (And.right (And.right (And.right (And.right (And.right (And.right (And.right (And.right (And.right (And.right (by with_reducible assumption))))))))))))))) | omega))
  k_with "for" => ((rename Fr _ _ _ _ => lF'); (with_unfolding_all refine' For_invVF lF' ?k1 ?k2 ?_; (case k1 => exact rfl); (case k2 => exact rfl); k_whole))
  k_with "eval IfExp" => k_dflt (refine ifexp_int ?_)
  k_with "call type:enumerate" => ((rename News _ _ _ _ => N7); replace N7 : News _ _ _ (_ :: _ :: _ :: _ :: _ :: _ :: _ :: _ :: _ :: _ :: _ :: tups) := newsSelT N7 [3, 7, 8, 9, 10, 11, 13, 14, 15, 16, 17] tups (fun p hp => by repeat' (first | exact List.mem_append_left _ hp | exact List.mem_append_right _ hp | exact hp | refine List.Mem.tail _ ?_)); have e1 := o9.get.2.2.2.2.2.2.2.1; k_dflt (refine' enum_loop (n := n9) (tkMem mem (sent mem l x n9) (l + way) (-x)) rfl ?eF N7 (List.Mem.head _) hI7 (sent_length _ _ _ _) (UpdF.tail (Ne.symm e1) (UpdF.tail e2 (UpdF.tail e3 (UpdF.tail e4 (UpdF.tail e5 (UpdF.head (List.forall_mem_cons.mpr ⟨e6, List.forall_mem_cons.mpr ⟨e7, List.forall_mem_cons.mpr ⟨e8, List.forall_mem_cons.mpr ⟨e9, List.forall_mem_cons.mpr ⟨e10, htu⟩⟩⟩⟩⟩))))))) (Ne.symm e1) hi ?eT ?eD); (case eF => k_asm); (case' eT => (intro i t9 u9 T9 ds9 h tk I9 o1 o2 va vb TE9 hT9 hin hd9 hlt9 hT F N; have hlen9 : (tkMem mem (sent mem l x n9) (l + way) (-x) i).length = 128 := (by rw [tkMem_length]; exact hlen); have hq2 := mul_sign hx (i : Int); have hlt8 := allLt_of hlt9; clear hlt9; (try simp only [AllLt] at hlt8); (try dsimp only at F N); (try k_sweep); (try dsimp only); (try k_fold))); (case' eD => (intro ds9 h tk va vb hd9 F N; (try dsimp only at F N); (try k_sweep); (try dsimp only); (try k_fold))))
  k_with "SrcLP" => (k_dflt (refine LCp.SrcLP.ledger (by rfl) (by k_asm) (by k_asm) (by k_mem) (by rw [PySem.sizeLine_eq, List.size_toArray, hO.length, sent_length]; omega) ?_); intro g'; k_dflt (refine' outs_rest hO (fun p hp => by repeat' (first | exact List.mem_append_left _ hp | exact List.mem_append_right _ hp | exact hp | refine List.Mem.tail _ ?_)) ?tsslp ?ttslp ?tfslp); (case tsslp => k_dflt exact .inr ⟨_, by k_mem, rfl, _, rfl⟩); (case' ttslp => (intro k' t' I' oI' C' oC' D' m' ys' h' tk' E' hC' hx' F' N')); (case' tfslp => (intro ys5 hI5; k_dflt (intro D5 h5 tk5 F5 N5 o5); (try dsimp only); (try k_sweep); (try k_fold))); kcf_last)
  k_with "all" => (repeat' (first | exact List.forall_mem_nil _ | assumption | (refine' List.forall_mem_cons.mpr ⟨?_, ?_⟩) | k_ne))
  k_with "CompSrc" => ((rename IntsAre _ (List.map _ (rangeKs _ _)) => hI7); rw [sent_if hx] at hI7; (rename (@Ne Nat _ _ ∧ _) => o9); replace o9 := hide o9; k_dflt (refine LCg.CompSrc.ledger (by rfl) (by k_asm) (by k_asm) (by k_mem) (by rw [PySem.sizeLine_eq, List.size_toArray, hI7.length, sent_length]; omega) ?_); intro g'; k_dflt (refine' tup_rest (c := port) hI7 ?tscmt ?ttcmt ?tfcmt); (case tscmt => k_dflt exact .inr ⟨_, by k_mem, rfl, _, rfl⟩); (case' ttcmt => (intro k' t' I' oI' C' oC' D' m' ys' h' tk' E' tups' hC' hx' F' N' off' ne'; (try dsimp only [List.cons_append, List.nil_append] at N' off'); (try (simp only [LCg.Off3, and_true] at off')))); (case' tfcmt => (intro ys8 tups8 hO8 hb8; k_dflt (intro D8 h8 tk8 F8 N8 o8); (try dsimp only [List.cons_append, List.nil_append] at N8); k_dflt (refine outs_ne (a := oA) (xs := outs) (ka := k7) (ys := ys8) (kb := ys8.length) N8 (by repeat' (first | with_reducible exact List.Mem.head _ | refine List.Mem.tail _ ?_)) hO (fun p hp => by repeat' (first | exact List.mem_append_left _ hp | exact List.mem_append_right _ hp | exact hp | refine List.Mem.tail _ ?_)) (List.Mem.head _) hO8 (fun p hp => by repeat' (first | exact List.mem_append_left _ hp | exact List.mem_append_right _ hp | exact hp | refine List.Mem.tail _ ?_)) (by first | omega | (dsimp only [ktrTop, Around.deeper]; omega)) ?_); (try dsimp only); (try k_sweep); (try k_fold))); kcf_last)
  k_with "CompSrc" => ((try k_fmods); k_dflt ((refine' LCg.CompSrc.range ?kacmp ?kbcmp ?kccmp ?kdcmp ?kecmp ?kfcmp ?kgcmp ?_; (case kacmp => rfl); (case kbcmp => k_asm); (case kccmp => k_asm); (case kdcmp => assumption); (case kecmp => exact range_small (by assumption)); (case kfcmp => exact range_size); (case kgcmp => rw [PySem.sizeLine_eq]; omega)); intro g'; (refine' kcf_range _ (fun k' t' I' oI' C' oC' D' m' ys' h' tk' E' hlo' hhi' hC' hx' F' N' off' ne' hMark' => ?_) ?_); (all_goals (try (simp only [LCg.Off3, and_true] at off'))); (all_goals (try (have hxk' := mul_sign (by assumption) k'))); kcf_last))
  k_with "eval ListComp" => ((with_reducible show wpAny _ _ (eval (PySem.Expr.ListComp _ [⟨PySem.Expr.Tuple _ _ _, _, [], 0⟩] _ _) _) _ _ _); k_dflt (refine LCp.ListComp_P (F₀ := by k_asm) (by with_unfolding_all rfl) (by decide) (by rfl) (by decide) (by rfl) (by rfl) (by decide) ?_))
  k_with "eval ListComp" => ((with_reducible show wpAny _ _ (eval (PySem.Expr.ListComp _ [⟨PySem.Expr.Name _ _, _, [], 0⟩] _ _) _) _ _ _); k_dflt (refine LCg.ListComp_U (F₀ := by k_asm) (by with_unfolding_all rfl) (by decide) (by rfl) (by decide) (by rfl) ?_))
  k_with "getAttr ref" => k_dflt (((with_reducible show wpAny _ _ (getAttr (Value.ref _) (PySem.Str.ofString "r") _) _ _ _); refine cpu_r (by k_asm) (by k_asm) (by k_asm) (by k_mem) (by k_mem) (by assumption) ?_; k_whole; (try dsimp only)))
  k_with "getAttr ref" => k_dflt (((with_reducible show wpAny _ _ (getAttr (Value.ref _) (PySem.Str.ofString "states") _) _ _ _); refine cpu_states (by k_asm) (by k_asm) (by k_asm) (by k_mem) (by k_mem) (by assumption) ?_; k_whole; (try dsimp only)); intro _)
  k_with "getAttr ref" => k_dflt (((with_reducible show wpAny _ _ (getAttr (Value.ref _) (PySem.Str.ofString "outs") _) _ _ _); refine ports_outs (by k_asm) (by k_asm) (by k_asm) (by k_mem) (by k_mem) (by assumption) ?_; k_whole; (try dsimp only)))
  k_dflt (refine' spec_ofC ?k6 ?k7 ?k9 ?kB ?kD ?c2 ?c3 ?c4 ?c6 ?_; (case k6 => k_is); (case k7 => k_is); (case k9 => exact fun s => BindsTo.of_eq rfl); (case kB => exact rfl); (case kD => decide +kernel); (case c2 => exact rfl); (case c3 => exact rfl); (case c4 => exact rfl); (case c6 => decide); k_whole)
  intro p loose mean mg mb dp un gd outer A₁ base g L h₁ s tk cells D9 hD9 F N Y B X T hd hu l1
  (try k_lt l1)
  k_cells Y
  (try simp only [List.cons_append, List.nil_append] at N)
  (try dsimp only)
  (try k_fold)

  have nd := nd_cells l1
  k_steps
  k_dflt (refine' use_nd (ports_is) ?k1z1 ?k2z1 ?k3z1 ?k4z1 ?k5z1 ?kKz1 ?kPz1 ?kSz1 ?kHz1 ?kdz1 ?kuz1 ?_; (case k1z1 => k_asm); (case k2z1 => k_asm); (case k3z1 => k_asm); (case k4z1 => k_asm); (case k5z1 => k_asm); (case kKz1 => exact rfl); (case kPz1 => repeat' (first | exact Pick.nil | (refine' Pick.cons ?_ ?_) | exact Take.head | (refine' Take.tail ?_))); (case kSz1 => exact nd_lt nd (by assumption)); (case kHz1 => rintro _ _ ⟨_, _, _, _, _, rfl, _, _, h⟩; exact h); (case kdz1 => first | omega | (dsimp only [ktrTop, Around.deeper]; omega)); (case kuz1 => first | omega | (dsimp only [ktrTop, Around.deeper]; omega)); rintro _ _ h9 tk9 F9 N9 nd9 ⟨pA, pdA, oA, oP, no, rfl, rfl, hP, _⟩; clear nd; have nd := nd9; clear nd9; (try dsimp only [List.nil_append, List.cons_append] at N9); (try dsimp only); (try k_sweep); (try k_fold))
  k_steps
  rename_i fA cf9 h69 lf9 eA ce9 h59 le9 tA9 h49 lt9 ha9 hb9 hc9 F98 N9
  replace N9 := News.behind N9
  replace nd := nd_lt (nd_lt nd (by assumption)) (by assumption)
  k_dflt (refine' use_nd (law_cpu_is) ?k1z2 ?k2z2 ?k3z2 ?k4z2 ?k5z2 ?kKz2 ?kPz2 ?kSz2 ?kHz2 ?kdz2 ?kuz2 ?_; (case k1z2 => k_asm); (case k2z2 => k_asm); (case k3z2 => k_asm); (case k4z2 => k_asm); (case k5z2 => k_asm); (case kKz2 => exact rfl); (case kPz2 => exact Pick.nil); (case kSz2 => exact nd); (case kHz2 => rintro _ _ ⟨_, _, _, _, _, _, rfl, _, _, _, h⟩; exact h); (case kdz2 => first | omega | (dsimp only [ktrTop, Around.deeper]; omega)); (case kuz2 => first | omega | (dsimp only [ktrTop, Around.deeper]; omega)); rintro _ _ h9 tk9 F9 N9 nd9 ⟨cA, dA, rA, oD, rs, nr, rfl, rfl, hD, hr, _⟩; clear nd; have nd := nd9; clear nd9; (try dsimp only [List.nil_append, List.cons_append] at N9); (try dsimp only); (try k_sweep); (try k_fold))
  k_steps
  k_dflt (refine' use_s (run_send_is (x := x) (co := if decide (x > 0) = true then 179 else 187) ?knz3 ?kh0z3 ?kh1z3 ?kcoz3 ?kcz3 ?kpz3 ?krz3 ?kiz3 ?klz3 ?kbz3 ?kpoz3 ?kl1z3) ?k1z3 ?k2z3 ?k3z3 ?k4z3 ?k5z3 ?kKz3 ?kPz3 ?kSz3 ?kdz3 ?kuz3 ?_; (case kcoz3 => exact code_of hx 179 187); (case kcz3 => exact hD); (case kpz3 => exact hP); (case k1z3 => k_asm); (case k2z3 => k_asm); (case k3z3 => k_asm); (case k4z3 => k_asm); (case k5z3 => k_asm); (case kKz3 => exact rfl); (case kPz3 => repeat' (first | exact Pick.nil | (refine' Pick.cons ?_ ?_) | exact Take.head | (refine' Take.tail ?_))); (case kSz3 => exact nd); (case kdz3 => first | omega | (dsimp only [ktrTop, Around.deeper]; omega)); (case kuz3 => first | omega | (dsimp only [ktrTop, Around.deeper]; omega)); (case knz3 => exact nd_sel nd [0, 1, 2, 4, 5, 6, 7] rfl); (case krz3 => exact hr); (case kh0z3 => assumption); (case kh1z3 => assumption); (case kiz3 => assumption); (case klz3 => assumption); (case kbz3 => assumption); (case kpoz3 => exact hpo); (case kl1z3 => exact fun i hi => (by have hq9 := mul_sign hx (i : Int); exact ⟨by omega, by omega⟩)); rintro _ _ h9 tk9 F9 N9 nd9 S9 ⟨n9, oD', _, t9, rfl, rfl, _, _, hD', _, _, rfl, rs', f', outs, tups, k7, rfl, hr', hO, hA, hf'⟩; clear nd; have nd := nd9; clear nd9; have hS8 : ∀ p ∈ tups, ∀ q : Addr × Obj, q ∈ _ → q.1 ≠ p.1 := fun p hp q hq => S9 q hq p (List.mem_append_right [_, _, _, _, _, _, _] hp); replace N9 := news_swap (a := [_, _, _, _, _, _, _]) (t := tups) N9; clear S9; have e2 : fA ≠ eA := ndp nd 3 7 rfl; have e3 : pA ≠ eA := ndp nd 4 7 rfl; have e4 : pdA ≠ eA := ndp nd 5 7 rfl; have e5 : oA ≠ eA := ndp nd 6 7 rfl; have e6 : L + 1 + 1 + 1 + 1 ≠ eA := nds nd 7 9 rfl; have e7 : L + 1 + 1 + 1 ≠ eA := nds nd 7 10 rfl; have e8 : L + 1 + 1 ≠ eA := nds nd 7 11 rfl; have e9 : L + 1 ≠ eA := nds nd 7 12 rfl; have e10 : mA ≠ eA := nds nd 7 13 rfl; have htu : ∀ p ∈ tups, p.1 ≠ eA := fun p hp => (hS8 p hp (eA, _) (.head _)).symm; (try dsimp only [List.nil_append, List.cons_append] at N9); (try dsimp only); (try k_sweep); (try k_fold))
  k_steps
  · first | exact absurd rfl (by assumption : ((_ : Nat) : Int) ≠ _) | exact absurd hf' (by assumption) | exact absurd (by rw [Int.zero_add]) (by assumption : (0 : Int) + 21 * ((_ : Nat) : Int) - 5 ≠ _) | exact absurd rfl (by assumption : ¬ (List.take 6 _ = _))
  · first | exact absurd rfl (by assumption : ((_ : Nat) : Int) ≠ _) | exact absurd hf' (by assumption) | exact absurd (by rw [Int.zero_add]) (by assumption : (0 : Int) + 21 * ((_ : Nat) : Int) - 5 ≠ _) | exact absurd rfl (by assumption : ¬ (List.take 6 _ = _))
  · first | exact absurd rfl (by assumption : ((_ : Nat) : Int) ≠ _) | exact absurd hf' (by assumption) | exact absurd (by rw [Int.zero_add]) (by assumption : (0 : Int) + 21 * ((_ : Nat) : Int) - 5 ≠ _) | exact absurd rfl (by assumption : ¬ (List.take 6 _ = _))
  · k_dflt (refine' spec_use law_cpu_is ?k1 ?k2 ?k3 ?k4 ?k5 ?kK ?kP ?kS ?kd ?ku ?_; (case k1 => k_asm); (case k2 => k_asm); (case k3 => k_asm); (case k4 => k_asm); (case k5 => k_asm); (case kK => exact rfl); (case kP => exact Pick.nil); (case kS => exact fun q hq p hp => (nomatch hp)); (case kd => first | omega | (dsimp only [ktrTop, Around.deeper]; omega)); (case ku => first | omega | (dsimp only [ktrTop, Around.deeper]; omega)); rintro _ _ h9 tk9 F9 N9 S9 ⟨cB, dB, rB, oE, rs2, nr2, rfl, rfl, hE, hr2, ndB⟩; clear hD hD'; have ndY := nd_join (is := [1, 5, 6, 7, 8, 9, 10]) S9 ndB (nd_sel nd [3, 7, 9, 10, 11, 12, 13] rfl); (try dsimp only [List.nil_append, List.cons_append] at N9); (try dsimp only); (try k_sweep); (try k_fold))
    k_steps
    · k_dflt (refine' spec_use ports_is ?k1 ?k2 ?k3 ?k4 ?k5 ?kK ?kP ?kS ?kd ?ku ?_; (case k1 => k_asm); (case k2 => k_asm); (case k3 => k_asm); (case k4 => k_asm); (case k5 => k_asm); (case kK => exact rfl); (case kP => exact Pick.cons Take.head Pick.nil); (case kS => exact off1_sep o5); (case kd => first | omega | (dsimp only [ktrTop, Around.deeper]; omega)); (case ku => first | omega | (dsimp only [ktrTop, Around.deeper]; omega)); rintro _ _ h9 tk9 F9 N9 S7 ⟨pB, pdB, oB, oP2, no2, rfl, rfl, hP2, ndP⟩; (try dsimp only [List.nil_append, List.cons_append] at N9); have ndZ := nd_join (is := [0, 1, 2, 4, 8, 9, 10, 11, 12, 13]) S7 ndP ndY; replace N9 : News _ _ _ [_, _, _, _, _, _, _, _, _, _, _, _, _, _] := News.sel N9 [0, 1, 2, 3, 4, 5, 6, 8, 12, 13, 14, 15, 16, 17]; (try dsimp only); (try k_sweep); (try k_fold))
      k_steps
      k_dflt (refine' use_s (run_take_is (x := -x) (co := if decide (x > 0) = true then 186 else 178) ?kn ?kh0 ?kh1 ?kco ?kc ?kp ?kr ?ki ?kl ?kii ?kil ?kbi ?kl1) ?k1 ?k2 ?k3 ?k4 ?k5 ?kK ?kP ?kS ?kd ?ku ?_; (case kco => exact code_neg hx); (case kc => exact hE); (case kp => exact hP2); (case k1 => k_asm); (case k2 => k_asm); (case k3 => k_asm); (case k4 => k_asm); (case k5 => k_asm); (case kK => exact rfl); (case kP => repeat' (first | exact Pick.nil | (refine' Pick.cons ?_ ?_) | exact Take.head | (refine' Take.tail ?_))); (case kS => exact nd_lt ndZ (by assumption)); (case kd => first | omega | (dsimp only [ktrTop, Around.deeper]; omega)); (case ku => first | omega | (dsimp only [ktrTop, Around.deeper]; omega)); (case kn => exact nd_seven (nd_sel ndZ [4, 5, 6] rfl) (nd_sel ndZ [0, 1, 2, 3] rfl) ⟨nds ndZ 4 7 rfl, nds ndZ 5 7 rfl, nds ndZ 6 7 rfl⟩ ⟨nds ndZ 0 4 rfl, nds ndZ 1 4 rfl, nds ndZ 3 4 rfl⟩ ⟨nds ndZ 0 5 rfl, nds ndZ 1 5 rfl, nds ndZ 3 5 rfl⟩ ⟨nds ndZ 0 6 rfl, nds ndZ 1 6 rfl, nds ndZ 3 6 rfl⟩ ⟨nds ndZ 0 7 rfl, nds ndZ 1 7 rfl, nds ndZ 3 7 rfl⟩); (case kr => exact hr2); (case kh0 => assumption); (case kh1 => assumption); (case ki => exact hi); (case kl => assumption); (case kii => exact hI5); (case kil => exact sent_length _ _ _ _); (case kbi => exact sent_bytes hb _ _ _); (case kl1 => exact fun i hi => (by have hq9 := mul_sign hx (i : Int); rw [Int.neg_mul]; exact ⟨by omega, by omega⟩)); rintro _ _ h9 tk9 F9 N9 nd9 _ ⟨n8, oE', _, t8, rfl, rfl, _, _, hE', _, _, rfl, rs3, vs3, oP3, f3, rfl, hr3, hv3, hP3, hf3⟩; clear hE; (try dsimp only [List.nil_append, List.cons_append] at N9); (try dsimp only); (try k_sweep); (try k_fold))
      k_steps
      all_goals first | exact absurd rfl (by assumption : ((_ : Nat) : Int) ≠ _) | exact absurd hf3 (by assumption) | exact absurd (by rw [Int.zero_add]) (by assumption : (0 : Int) + 21 * ((_ : Nat) : Int) - 5 ≠ _) | exact absurd take_neg (by assumption) | exact hD9 (by assumption) (cb_drop (by assumption) (by repeat' (first | exact List.forall_mem_nil _ | (refine' List.forall_mem_cons.mpr ⟨?_, ?_⟩) | k_mem))) ⟨rfl, rfl⟩
    · exact (show OutEnd _ _ _ _ _ _ _ _ from ⟨_, _, _, rfl, rfl, (by assumption), (by assumption)⟩)
  · exact hT9 (by assumption) (fun y h1 h2 => by simp only [if_neg h1, if_neg h2]) (by assumption) (by rw [tk_step]; assumption)
  · first | exact absurd rfl (by assumption : ((_ : Nat) : Int) ≠ _) | exact absurd hf' (by assumption) | exact absurd (by rw [Int.zero_add]) (by assumption : (0 : Int) + 21 * ((_ : Nat) : Int) - 5 ≠ _) | exact absurd rfl (by assumption : ¬ (List.take 6 _ = _))
  · exact (show TupEnd _ _ _ _ _ _ _ _ _ from ⟨_, _, _, _, _, rfl, rfl, (by assumption), (by assumption), allLt_mem (by assumption)⟩)
end Mine
end

section
namespace Mine
theorem fresh_NK : True ∧ True := by
  w_top off
  k_with_none
  first | (walk1 <;> trivial) | exact ⟨trivial, trivial⟩
end Mine
open PySem PySem.W PyProof.Rows PySem.Spec PySem.Calls
set_option Elab.async false
set_option maxRecDepth 100000
set_option maxHeartbeats 8000000
namespace Mine
set_option pp.maxSteps 20000
set_option pp.deepTerms false
set_option pp.deepTerms.threshold 4
local macro_rules | `(tactic| k_ne) => `(tactic| k_extra "ne")
local macro_rules | `(tactic| k_all) => `(tactic| k_extra "all")

theorem law_next_is {prog : Program} {w : World} {fA sA : Addr} {nf nc : Nat} {cs : List Value} {ks : List Int} {turn many : Int} {t₀ t₁ : Tok} (hne : fA ≠ sA) (hi : IntsAre cs ks) (hk : ks.length ≤ 30) (h0 : 0 ≤ turn ∧ turn ≤ 20) (hm : 1 ≤ many ∧ many ≤ 256) :
    Spec prog w 324 [.ref fA, .int many t₁] 3 [(fA, listOf [.ref sA, .int turn t₀].toArray nf), (sA, listOf cs.toArray nc)] (fun need' r => ∃ (x : Int) (t t' : Tok), need' = [(fA, listOf [.ref sA, .int (turn + 1) t].toArray nf), (sA, listOf cs.toArray nc)] ∧ r = .int x t' ∧ 0 ≤ x ∧ x < many) := by
  k_with_none
  k_with "ne" => (first | assumption | exact Ne.symm (by assumption) | (refine neN ?_; (try dsimp only); first | exact Nat.ne_of_lt (And.left (by with_reducible assumption)) | exact Nat.ne_of_lt (And.left (And.right (by with_reducible assumption))) | exact Nat.ne_of_lt (And.left (And.right (And.right (by with_reducible assumption)))) | exact Nat.ne_of_lt (And.left (And.right (And.right (And.right (by with_reducible assumption))))) | exact Nat.ne_of_lt (And.left (And.right (And.right (And.right (And.right (by with_reducible assumption)))))) | exact Nat.ne_of_lt (And.left (And.right (And.right (And.right (And.right (And.right (by with_reducible assumption))))))) | exact Nat.ne_of_lt (And.left (And.right (And.right (And.right (And.right (And.right (And.right (by with_reducible assumption)))))))) | exact Nat.ne_of_lt (And.left (And.right (And.right (And.right (And.right (And.right (And.right (And.right (by with_reducible assumption))))))))) | exact Nat.ne_of_lt (And.left (And.right (And.right (And.right (And.right (And.right (And.right (And.right (And.right (by with_reducible assumption)))))))))) | exact Nat.ne_of_lt (And.left (And.right (And.right (And.right (And.right (And.right (And.right (And.right (And.right (And.right (by with_reducible assumption))))))))))) | exact Nat.ne_of_lt (And.left (And.right (And.right (And.right (And.right (And.right (And.right (And.right (And.right (And.right (And.right (by with_reducible assumption)))))))))))) | exact Nat.ne_of_lt (And.left (And.right (And.right (And.right (And.right (And.right (And.right (And.right (And.right (And.right (And.right (And.right (by with_reducible assumption))))))))))))) | exact Nat.ne_of_lt (And.left (And.right (And.right (And.right (And.right (And.right (And.right (And.right (And.right (And.right (And.right (And.right (And.right (by with_reducible assumption)))))))))))))) | exact Nat.ne_of_lt (And.left (And.right (And.right (And.right (And.right (And.right (And.right (And.right (And.right (And.right (And.right (And.right (And.right (And.right (by with_reducible assumption))))))))))))))) | exact Nat.ne_of_lt (And.left (And.right (And.right (And.right (And.right (And.right (And.right (And.right (And.right (And.right (And.right (And.right (And.right (And.right (And.right (by with_reducible assumption)))))))))))))))) | exact Nat.ne_of_lt (by with_reducible assumption) | exact Nat.ne_of_lt (And.right (by with_reducible assumption)) | exact Nat.ne_of_lt (And.right (And.right (by with_reducible assumption))) | exact Nat.ne_of_lt (And.right (And.right (And.right (by with_reducible assumption)))) | exact Nat.ne_of_lt (And.right (And.right (And.right (And.right (by with_reducible assumption))))) | exact Nat.ne_of_lt (And.right (And.right (And.right (And.right (And.right (by with_reducible assumption)))))) | exact Nat.ne_of_lt (And.right (And.right (And.right (And.right (And.right (And.right (by with_reducible assumption))))))) | exact Nat.ne_of_lt (And.right (And.right (And.right (And.right (And.right (And.right (And.right (by with_reducible assumption)))))))) | exact Nat.ne_of_lt (And.right (And.right (And.right (And.right (And.right (And.right (And.right (And.right (by with_reducible assumption))))))))) | exact Nat.ne_of_lt (And.right (And.right (And.right (And.right (And.right (And.right (And.right (And.right (And.right (by with_reducible assumption)))))))))) | exact Nat.ne_of_lt (And.right (And.right (And.right (And.right (And.right (And.right (And.right (And.right (And.right (And.right (by with_reducible assumption))))))))))) | exact Nat.ne_of_lt (And.right (And.right (And.right (And.right (And.right (And.right (And.right (And.right (And.right (And.right (And.right (by with_reducible assumption)))))))))))) | exact Nat.ne_of_lt (And.right (And.right (And.right (And.right (And.right (And.right (And.right (And.right (And.right (And.right (And.right (And.right (by with_reducible assumption))))))))))))) | exact Nat.ne_of_lt (And.right (And.right (And.right (And.right (And.right (And.right (And.right (And.right (And.right (And.right (And.right (And.right (And.right (by with_reducible assumption)))))))))))))) | exact Nat.ne_of_lt (And.right (And.right (And.right (And.right (And.right (And.right (And.right (And.right (And.right (And.right (And.right (And.right (And.right (And.right (by with_reducible assumption))))))))))))))) | exact Nat.ne_of_gt (And.left (by with_reducible assumption)) | exact Nat.ne_of_gt (And.left (And.right (by with_reducible assumption))) | exact Nat.ne_of_gt (And.left (And.right (And.right (by with_reducible assumption)))) | exact Nat.ne_of_gt (And.left (And.right (And.right (And.right (by with_reducible assumption))))) | exact Nat.ne_of_gt (And.left (And.right (And.right (And.right (And.right (by with_reducible assumption)))))) | exact Nat.ne_of_gt (And.left (And.right (And.right (And.right (And.right (And.right (by with_reducible assumption))))))) | exact Nat.ne_of_gt (And.left (And.right (And.right (And.right (And.right (And.right (And.right (by with_reducible assumption)))))))) | exact Nat.ne_of_gt (And.left (And.right (And.right (And.right (And.right (And.right (And.right (And.right (by with_reducible assumption))))))))) | exact Nat.ne_of_gt (And.left (And.right (And.right (And.right (And.right (And.right (And.right (And.right (And.right (by with_reducible assumption)))))))))) | exact Nat.ne_of_gt (And.left (And.right (And.right (And.right (And.right (And.right (And.right (And.right (And.right (And.right (by with_reducible assumption))))))))))) | exact Nat.ne_of_gt (And.left (And.right (And.right (And.right (And.right (And.right (And.right (And.right (And.right (And.right (And.right (by with_reducible assumption)))))))))))) | exact Nat.ne_of_gt (And.left (And.right (And.right (And.right (And.right (And.right (And.right (And.right (And.right (And.right (And.right (And.right (by with_reducible assumption))))))))))))) | exact Nat.ne_of_gt (And.left (And.right (And.right (And.right (And.right (And.right (And.right (And.right (And.right (And.right (And.right (And.right (And.right (by with_reducible assumption)))))))))))))) | exact Nat.ne_of_gt (And.left (And.right (And.right (And.right (And.right (And.right (And.right (And.right (And.right (And.right (And.right (And.right (And.right (And.right (by with_reducible assumption))))))))))))))) | exact Nat.ne_of_gt (And.left (And.right (And.right (And.right (And.right (And.right (And.right (And.right (And.right (And.right (And.right (And.right (And.right (And.right (And.right (by with_reducible assumption)))))))))))))))) | exact Nat.ne_of_gt (by with_reducible assumption) | exact Nat.ne_of_gt (And.right (by with_reducible assumption)) | exact Nat.ne_of_gt (And.right (And.right (by with_reducible assumption))) | exact Nat.ne_of_gt (And.right (And.right (And.right (by with_reducible assumption)))) | exact Nat.ne_of_gt (And.right (And.right (And.right (And.right (by with_reducible assumption))))) | exact Nat.ne_of_gt (And.right (And.right (And.right (And.right (And.right (by with_reducible assumption)))))) | exact Nat.ne_of_gt (And.right (And.right (And.right (And.right (And.right (And.right (by with_reducible assumption))))))) | exact Nat.ne_of_gt (And.right (And.right (And.right (And.right (And.right (And.right (And.right (by with_reducible assumption)))))))) | exact Nat.ne_of_gt (And.right (And.right (And.right (And.right (And.right (And.right (And.right (And.right (by with_reducible assumption))))))))) | exact Nat.ne_of_gt (And.right (And.right (And.right (And.right (And.right (And.right (And.right (And.right (And.right (by with_reducible assumption)))))))))) | exact Nat.ne_of_gt (And.right (And.right (And.right (And.right (And.right (And.right (And.right (And.right (And.right (And.right (by with_reducible assumption))))))))))) | exact Nat.ne_of_gt (And.right (And.right (And.right (And.right (And.right (And.right (And.right (And.right (And.right (And.right (And.right (by with_reducible assumption)))))))))))) | exact Nat.ne_of_gt (And.right (And.right (And.right (And.right (And.right (And.right (And.right (And.right (And.right (And.right (And.right (And.right (by with_reducible assumption))))))))))))) | exact Nat.ne_of_gt (And.right (And.right (And.right (And.right (And.right (And.right (And.right (And.right (And.right (And.right (And.right (And.right (And.right (by with_reducible assumption)))))))))))))) | exact Nat.ne_of_gt (And.right (And.right (And.right (And.right (And.right (And.right (And.right (And.right (And.right (And.right (And.right (And.right (And.right (And.right (by with_reducible assumption))))))))))))))) | exact id (And.left (by with_reducible assumption)) | exact id (And.left (And.right (by with_reducible assumption))) | exact id (And.left (And.right (And.right (by with_reducible assumption)))) | exact id (And.left (And.right (And.right (And.right (by with_reducible assumption))))) | exact id (And.left (And.right (And.right (And.right (And.right (by with_reducible assumption)))))) | exact id (And.left (And.right (And.right (And.right (And.right (And.right (by with_reducible assumption))))))) | exact id (And.left (And.right (And.right (And.right (And.right (And.right (And.right (by with_reducible assumption)))))))) | exact id (And.left (And.right (And.right (And.right (And.right (And.right (And.right (And.right (by with_reducible assumption))))))))) | exact id (And.left (And.right (And.right (And.right (And.right (And.right (And.right (And.right (And.right (by with_reducible assumption)))))))))) | exact id (And.left (And.right (And.right (And.right (And.right (And.right (And.right (And.right (And.right (And.right (by with_reducible assumption))))))))))) | exact id (And.left (And.right (And.right (And.right (And.right (And.right (And.right (And.right (And.right (And.right (And.right (by with_reducible assumption)))))))))))) | exact id (And.left (And.right (And.right (And.right (And.right (And.right (And.right (And.right (And.right (And.right (And.right (And.right (by with_reducible assumption))))))))))))) | exact id (And.left (And.right (And.right (And.right (And.right (And.right (And.right (And.right (And.right (And.right (And.right (And.right (And.right (by with_reducible assumption)))))))))))))) | exact id (And.left (And.right (And.right (And.right (And.right (And.right (And.right (And.right (And.right (And.right (And.right (And.right (And.right (And.right (by with_reducible assumption))))))))))))))) | exact id (And.left (And.right (And.right (And.right (And.right (And.right (And.right (And.right (And.right (And.right (And.right (And.right (And.right (And.right (And.right (by with_reducible assumption)))))))))))))))) | exact id (by with_reducible assumption) | exact id (And.right (by with_reducible assumption)) | exact id (And.right (And.right (by with_reducible assumption))) | exact id (And.right (And.right (And.right (by with_reducible assumption)))) | exact id (And.right (And.right (And.right (And.right (by with_reducible assumption))))) | exact id (And.right (And.right (And.right (And.right (And.right (by with_reducible assumption)))))) | exact id (And.right (And.right (And.right (And.right (And.right (And.right (by with_reducible assumption))))))) | exact id (And.right (And.right (And.right (And.right (And.right (And.right (And.right (by with_reducible assumption)))))))) | exact id (And.right (And.right (And.right (And.right (And.right (And.right (And.right (And.right (by with_reducible assumption))))))))) | exact id (And.right (And.right (And.right (And.right (And.right (And.right (And.right (And.right (And.right (by with_reducible assumption)))))))))) | exact id (And.right (And.right (And.right (And.right (And.right (And.right (And.right (And.right (And.right (And.right (by with_reducible assumption))))))))))) | exact id (And.right (And.right (And.right (And.right (And.right (And.right (And.right (And.right (And.right (And.right (And.right (by with_reducible assumption)))))))))))) | exact id (And.right (And.right (And.right (And.right (And.right (And.right (And.right (And.right (And.right (And.right (And.right (And.right (by with_reducible assumption))))))))))))) | exact id (And.right (And.right (And.right (And.right (And.right (And.right (And.right (And.right (And.right (And.right (And.right (And.right (And.right (by with_reducible assumption)))))))))))))) | exact id (And.right (And.right (And.right (And.right (And.right (And.right (And.right (And.right (And.right (And.right (And.right (And.right (And.right (And.right (by with_reducible assumption))))))))))))))) | exact Ne.symm (And.left (by with_reducible assumption)) | exact Ne.symm (And.left (And.right (by with_reducible assumption))) | exact Ne.symm (And.left (And.right (And.right (by with_reducible assumption)))) | exact Ne.symm (And.left (And.right (And.right (And.right (by with_reducible assumption))))) | exact Ne.symm (And.left (And.right (And.right (And.right (And.right (by with_reducible assumption)))))) | exact Ne.symm (And.left (And.right (And.right (And.right (And.right (And.right (by with_reducible assumption))))))) | exact Ne.symm (And.left (And.right (And.right (And.right (And.right (And.right (And.right (by with_reducible assumption)))))))) | exact Ne.symm (And.left (And.right (And.right (And.right (And.right (And.right (And.right (And.right (by with_reducible assumption))))))))) | exact Ne.symm (And.left (And.right (And.right (And.right (And.right (And.right (And.right (And.right (And.right (by with_reducible assumption)))))))))) | exact Ne.symm (And.left (And.right (And.right (And.right (And.right (And.right (And.right (And.right (And.right (And.right (by with_reducible assumption))))))))))) | exact Ne.symm (And.left (And.right (And.right (And.right (And.right (And.right (And.right (And.right (And.right (And.right (And.right (by with_reducible assumption)))))))))))) | exact Ne.symm (And.left (And.right (And.right (And.right (And.right (And.right (And.right (And.right (And.right (And.right (And.right (And.right (by with_reducible assumption))))))))))))) | exact Ne.symm (And.left (And.right (And.right (And.right (And.right (And.right (And.right (And.right (And.right (And.right (And.right (And.right (And.right (by with_reducible assumption)))))))))))))) | exact Ne.symm (And.left (And.right (And.right (And.right (And.right (And.right (And.right (And.right (And.right (And.right (And.right (And.right (And.right (And.right (by with_reducible assumption))))))))))))))) | exact Ne.symm (And.left (And.right (And.right (And.right (And.right (And.right (And.right (And.right (And.right (And.right (And.right (And.right (And.right (And.right (And.right (by with_reducible assumption)))))))))))))))) | exact Ne.symm (by with_reducible assumption) | exact Ne.symm (And.right (by with_reducible assumption)) | exact Ne.symm (And.right (And.right (by with_reducible assumption))) | exact Ne.symm (And.right (And.right (And.right (by with_reducible assumption)))) | exact Ne.symm (And.right (And.right (And.right (And.right (by with_reducible assumption))))) | exact Ne.symm (And.right (And.right (And.right (And.right (And.right (by with_reducible assumption)))))) | exact Ne.symm (And.right (And.right (And.right (And.right (And.right (And.right (by with_reducible assumption))))))) | exact Ne.symm (And.right (And.right (And.right (And.right (And.right (And.right (And.right (by with_reducible assumption)))))))) | exact Ne.symm (And.right (And.right (And.right (And.right (And.right (And.right (And.right (And.right (by with_reducible assumption))))))))) | exact Ne.symm (And.right (And.right (And.right (And.right (And.right (And.right (And.right (And.right (And.right (by with_reducible assumption)))))))))) | exact Ne.symm (And.right (And.right (And.right (And.right (And.right (And.right (And.right (And.right (And.right (And.right (by with_reducible assumption))))))))))) | exact Ne.symm (And.right (And.right (And.right (And.right (And.right (And.right (And.right (And.right (And.right (And.right (And.right (by with_reducible assumption)))))))))))) | exact Ne.symm (And.right (And.right (And.right (And.right (And.right (And.right (And.right (And.right (And.right (And.right (And.right (And.right (by with_reducible assumption))))))))))))) | exact Ne.symm (And.right (And.right (And.right (And.right (And.right (And.right (And.right (And.right (And.right (And.right (And.right (And.right (And.right (by with_reducible assumption)))))))))))))) | exact Ne.symm (And.right (And.right (And.right (And.right (And.right (And.right (And.right (And.right (And.right (And.right (And.right (And.right (And.right (And.right (by with_reducible assumption))))))))))))))) | exact id (And.left (And.left (by with_reducible assumption))) | exact id (And.left (And.right (And.left (by with_reducible assumption)))) | exact id (And.right (And.right (And.left (by with_reducible assumption)))) | exact id (And.left (And.left (And.right (by with_reducible assumption)))) | exact id (And.left (And.right (And.left (And.right (by with_reducible assumption))))) | exact id (And.right (And.right (And.left (And.right (by with_reducible assumption))))) | exact id (And.left (And.left (And.right (And.right (by with_reducible assumption))))) | exact id (And.left (And.right (And.left (And.right (And.right (by with_reducible assumption)))))) | exact id (And.right (And.right (And.left (And.right (And.right (by with_reducible assumption)))))) | exact id (And.left (And.left (And.right (And.right (And.right (by with_reducible assumption)))))) | exact id (And.left (And.right (And.left (And.right (And.right (And.right (by with_reducible assumption))))))) | exact id (And.right (And.right (And.left (And.right (And.right (And.right (by with_reducible assumption))))))) | exact id (And.left (And.left (And.right (And.right (And.right (And.right (by with_reducible assumption))))))) | exact id (And.left (And.right (And.left (And.right (And.right (And.right (And.right (by with_reducible assumption)))))))) | exact id (And.right (And.right (And.left (And.right (And.right (And.right (And.right (by with_reducible assumption)))))))) | exact id (And.left (And.left (And.right (And.right (And.right (And.right (And.right (by with_reducible assumption)))))))) | exact id (And.left (And.right (And.left (And.right (And.right (And.right (And.right (And.right (by with_reducible assumption))))))))) | exact id (And.right (And.right (And.left (And.right (And.right (And.right (And.right (And.right (by with_reducible assumption))))))))) | exact id (And.left (And.left (And.right (And.right (And.right (And.right (And.right (And.right (by with_reducible assumption))))))))) | exact id (And.left (And.right (And.left (And.right (And.right (And.right (And.right (And.right (And.right (by with_reducible assumption)))))))))) | exact id (And.right (And.right (And.left (And.right (And.right (And.right (And.right (And.right (And.right (by with_reducible assumption)))))))))) | exact id (And.left (And.left (And.right (And.right (And.right (And.right (And.right (And.right (And.right (by with_reducible assumption)))))))))) | exact id (And.left (And.right (And.left (And.right (And.right (And.right (And.right (And.right (And.right (And.right (by with_reducible assumption))))))))))) | exact id (And.right (And.right (And.left (And.right (And.right (And.right (And.right (And.right (And.right (And.right (by with_reducible assumption))))))))))) | exact id (And.left (And.left (And.right (And.right (And.right (And.right (And.right (And.right (And.right (And.right (by with_reducible assumption))))))))))) | exact id (And.left (And.right (And.left (And.right (And.right (And.right (And.right (And.right (And.right (And.right (And.right (by with_reducible assumption)))))))))))) | exact id (And.right (And.right (And.left (And.right (And.right (And.right (And.right (And.right (And.right (And.right (And.right (by with_reducible assumption)))))))))))) | exact id (And.left (And.left (And.right (And.right (And.right (And.right (And.right (And.right (And.right (And.right (And.right (by with_reducible assumption)))))))))))) | exact id (And.left (And.right (And.left (And.right (And.right (And.right (And.right (And.right (And.right (And.right (And.right (And.right (by with_reducible assumption))))))))))))) | exact id (And.right (And.right (And.left (And.right (And.right (And.right (And.right (And.right (And.right (And.right (And.right (And.right (by with_reducible assumption))))))))))))) | exact id (And.left (And.left (And.right (And.right (And.right (And.right (And.right (And.right (And.right (And.right (And.right (And.right (by with_reducible assumption))))))))))))) | exact id (And.left (And.right (And.left (And.right (And.right (And.right (And.right (And.right (And.right (And.right (And.right (And.right (And.right (by with_reducible assumption)))))))))))))) | exact id (And.right (And.right (And.left (And.right (And.right (And.right (And.right (And.right (And.right (And.right (And.right (And.right (And.right (by with_reducible assumption)))))))))))))) | exact id (And.left (And.left (And.right (And.right (And.right (And.right (And.right (And.right (And.right (And.right (And.right (And.right (And.right (by with_reducible assumption)))))))))))))) | exact id (And.left (And.right (And.left (And.right (And.right (And.right (And.right (And.right (And.right (And.right (And.right (And.right (And.right (And.right (by with_reducible assumption))))))))))))))) | exact id (And.right (And.right (And.left (And.right (And.right (And.right (And.right (And.right (And.right (And.right (And.right (And.right (And.right (And.right (by with_reducible assumption))))))))))))))) | exact Ne.symm (And.left (And.left (by with_reducible assumption))) | exact Ne.symm (And.left (And.right (And.left (by with_reducible assumption)))) | exact Ne.symm (And.right (And.right (And.left (by with_reducible assumption)))) | exact Ne.symm (And.left (And.left (And.right (by with_reducible assumption)))) | exact Ne.symm (And.left (And.right (And.left (And.right (by with_reducible assumption))))) | exact Ne.symm (And.right (And.right (And.left (And.right (by with_reducible assumption))))) | exact Ne.symm (And.left (And.left (And.right (And.right (by with_reducible assumption))))) | exact Ne.symm (And.left (And.right (And.left (And.right (And.right (by with_reducible assumption)))))) | exact Ne.symm (And.right (And.right (And.left (And.right (And.right (by with_reducible assumption)))))) | exact Ne.symm (And.left (And.left (And.right (And.right (And.right (by with_reducible assumption)))))) | exact Ne.symm (And.left (And.right (And.left (And.right (And.right (And.right (by with_reducible assumption))))))) | exact Ne.symm (And.right (And.right (And.left (And.right (And.right (And.right (by with_reducible assumption))))))) | exact Ne.symm (And.left (And.left (And.right (And.right (And.right (And.right (by with_reducible assumption))))))) | exact Ne.symm (And.left (And.right (And.left (And.right (And.right (And.right (And.right (by with_reducible assumption)))))))) | exact Ne.symm (And.right (And.right (And.left (And.right (And.right (And.right (And.right (by with_reducible assumption)))))))) | exact Ne.symm (And.left (And.left (And.right (And.right (And.right (And.right (And.right (by with_reducible assumption)))))))) | exact Ne.symm (And.left (And.right (And.left (And.right (And.right (And.right (And.right (And.right (by with_reducible assumption))))))))) | exact Ne.symm (And.right (And.right (And.left (And.right (And.right (And.right (And.right (And.right (by with_reducible assumption))))))))) | exact Ne.symm (And.left (And.left (And.right (And.right (And.right (And.right (And.right (And.right (by with_reducible assumption))))))))) | exact Ne.symm (And.left (And.right (And.left (And.right (And.right (And.right (And.right (And.right (And.right (by with_reducible assumption)))))))))) | exact Ne.symm (And.right (And.right (And.left (And.right (And.right (And.right (And.right (And.right (And.right (by with_reducible assumption)))))))))) | exact Ne.symm (And.left (And.left (And.right (And.right (And.right (And.right (And.right (And.right (And.right (by with_reducible assumption)))))))))) | exact Ne.symm (And.left (And.right (And.left (And.right (And.right (And.right (And.right (And.right (And.right (And.right (by with_reducible assumption))))))))))) | exact Ne.symm (And.right (And.right (And.left (And.right (And.right (And.right (And.right (And.right (And.right (And.right (by with_reducible assumption))))))))))) | exact Ne.symm (And.left (And.left (And.right (And.right (And.right (And.right (And.right (And.right (And.right (And.right (by with_reducible assumption))))))))))) | exact Ne.symm (And.left (And.right (And.left (And.right (And.right (And.right (And.right (And.right (And.right (And.right (And.right (by with_reducible assumption)))))))))))) | exact Ne.symm (And.right (And.right (And.left (And.right (And.right (And.right (And.right (And.right (And.right (And.right (And.right (by with_reducible assumption)))))))))))) | exact Ne.symm (And.left (And.left (And.right (And.right (And.right (And.right (And.right (And.right (And.right (And.right (And.right (by with_reducible assumption)))))))))))) | exact Ne.symm (And.left (And.right (And.left (And.right (And.right (And.right (And.right (And.right (And.right (And.right (And.right (And.right (by with_reducible assumption))))))))))))) | exact Ne.symm (And.right (And.right (And.left (And.right (And.right (And.right (And.right (And.right (And.right (And.right (And.right (And.right (by with_reducible assumption))))))))))))) | exact Ne.symm (And.left (And.left (And.right (And.right (And.right (And.right (And.right (And.right (And.right (And.right (And.right (And.right (by with_reducible assumption))))))))))))) | exact Ne.symm (And.left (And.right (And.left (And.right (And.right (And.right (And.right (And.right (And.right (And.right (And.right (And.right (And.right (by with_reducible assumption)))))))))))))) | exact Ne.symm (And.right (And.right (And.left (And.right (And.right (And.right (And.right (And.right (And.right (And.right (And.right (And.right (And.right (by with_reducible assumption)))))))))))))) | exact Ne.symm (And.left (And.left (And.right (And.right (And.right (And.right (And.right (And.right (And.right (And.right (And.right (And.right (And.right (by with_reducible assumption)))))))))))))) | exact Ne.symm (And.left (And.right (And.left (And.right (And.right (And.right (And.right (And.right (And.right (And.right (And.right (And.right (And.right (And.right (by with_reducible assumption))))))))))))))) | exact Ne.symm (And.right (And.right (And.left (And.right (And.right (And.right (And.right (And.right (And.right (And.right (And.right (And.right (And.right (And.right (by with_reducible assumption))))))))))))))) | omega))
  k_with "all" => (repeat' (first | exact List.forall_mem_nil _ | assumption | (refine' List.forall_mem_cons.mpr ⟨?_, ?_⟩) | k_ne))
  k_dflt (refine' spec_of ?k6 ?k7 ?k9 ?kB ?c2 ?c3 ?c4 ?c5 ?c6 ?_; (case k6 => k_is); (case k7 => k_is); (case k9 => exact fun s => BindsTo.of_eq rfl); (case kB => exact locs rfl); (case c2 => exact rfl); (case c3 => exact rfl); (case c4 => exact rfl); (case c5 => decide); (case c6 => decide); k_whole)
  intro p loose mean mg mb dp un gd outer A₁ base g L h₁ s tk D9 hD9 F N B X T hd hu
  (try dsimp only)
  (try k_fold)
  k_steps
  all_goals exact hD9 (by assumption) (cb_drop (by assumption) (by repeat' (first | exact List.forall_mem_nil _ | (refine' List.forall_mem_cons.mpr ⟨?_, ?_⟩) | k_mem))) ⟨_, _, _, rfl, rfl, fmod_in _ _ (by omega)⟩

end Mine
end

section
namespace Mine
theorem fresh_NL0 : True ∧ True := by
  w_top off
  k_with_none
  first | (walk1 <;> trivial) | exact ⟨trivial, trivial⟩
end Mine
open PySem PySem.W PyProof.Rows PySem.Spec PySem.Calls
set_option Elab.async false
set_option maxRecDepth 100000
set_option maxHeartbeats 8000000
namespace Mine
section
variable {prog : Program} {w : World} {A : Around} {E : Value → Shared → Prop} {s : Shared} {a b c : Int} {t u : Tok} {Q : Value → Shared → Prop}
theorem add_many (h0 : 0 ≤ a) (h1 : a < 10) (h : ∀ n : Nat, 1 ≤ n → n ≤ 10 → Q (.int (n : Int) s.toks) { s with toks := s.toks + 1 }) : wpAny (model prog w) A (binaryOp .Add (.int 1 t) (.int a u)) Q E s := by
  refine add_int ?_
  have := h (1 + a).toNat (by omega) (by omega)
  rwa [show (((1 + a).toNat : Nat) : Int) = 1 + a by omega] at this
theorem mul_sx {x c : Int} (hx : x = 1 ∨ x = -1) (h0 : 0 ≤ c) (h1 : c < 16) (h : ∀ y, (y = c ∨ y = -c) → Q (.int y s.toks) { s with toks := s.toks + 1 }) : wpAny (model prog w) A (binaryOp .Mult (.int x t) (.int c u)) Q E s := by
  have hm : IntMulOk x c := by
    rcases hx with rfl | rfl <;> mul_fits
  exact mul_int (h (x * c) (mul_sign hx c)) hm
theorem sub_two (h0 : 0 ≤ b) (h1 : b < 2) (h : ∀ x, (x = 1 ∨ x = -1) → Q (.int x s.toks) { s with toks := s.toks + 1 }) : wpAny (model prog w) A (binaryOp .Sub (.int 1 t) (.int (2 * b) u)) Q E s :=
  sub_int (h (1 - 2 * b) (by omega))
end
section
variable {prog : Program} {w : World} {d : Nat} {lit : List (Addr × Obj)} {p : Program} {loose : List Str} {mean : ExcName → Option Value} {mg mb : Str → Option Value} {dp un : Nat} {gd : Option (List Code)} {cn : Str} {cs : Scope} {a : Addr} {ccd : Value} {cl : List (Str × Addr)} {outer : List Env} {A₀ : Around} {base h₀ : Heap} {L : Addr}
  {m : Str → Option Value} {s : Shared} {Q E : Value → Shared → Prop}
theorem take_of {q : Addr × Obj} : ∀ {l : List (Addr × Obj)}, q ∈ l → ∃ r, Take q l r
  | _ :: l, h => by
    rcases List.mem_cons.mp h with rfl | h
    · exact ⟨_, .head⟩
    · obtain ⟨r, t⟩ := take_of h
      exact ⟨_, .tail t⟩
theorem pick_two {q r : Addr × Obj} {l : List (Addr × Obj)} (hq : q ∈ l) (hr : r ∈ l) (hne : q.1 ≠ r.1) : ∃ rest, Pick [q, r] l rest := by
  obtain ⟨l', t⟩ := take_of hq
  have hr' : r ∈ l' := by
    rcases List.mem_cons.mp (t.perm.mem_iff.mp hr) with h | h
    · exact absurd (congrArg Prod.fst h).symm hne
    · exact h
  obtain ⟨l'', t'⟩ := take_of hr'
  exact ⟨l'', .cons t (.cons t' .nil)⟩
theorem updF_of {x : Addr} {o : Obj} {l : List (Addr × Obj)} {g : Obj → List (Addr × Obj)} (U : UpdF x o l g) : ∀ o' q, q ∈ g o' → q = (x, o') ∨ (q ∈ l ∧ q.1 ≠ x) := by
  induction U with
  | head h => exact fun o' q hq => (List.mem_cons.mp hq).imp id fun hq => ⟨.tail _ hq, h q hq⟩
  | tail h _ ih =>
    intro o' q hq
    rcases List.mem_cons.mp hq with rfl | hq
    · exact .inr ⟨.head _, h⟩
    · exact (ih o' q hq).imp id fun hq => ⟨.tail _ hq.1, hq.2⟩
theorem next_use {fA sA : Addr} {nf nc : Nat} {vs : List Value} {ks : List Int} {turn many : Int} {t₀ t₁ : Tok} {gf : Obj → List (Addr × Obj)}
    (F : Fr h₀ L s.heap m) (N : News h₀ L s.heap lit) (mf : (fA, listOf [.ref sA, .int turn t₀].toArray nf) ∈ lit) (ms : (sA, listOf vs.toArray nc) ∈ lit) (hi : IntsAre vs ks) (U : UpdF fA (listOf [.ref sA, .int turn t₀].toArray nf) lit gf) (nd : (lit.map (·.1)).Nodup)
    (B : Below A₀ base outer h₀) (X : (hd.heap_1 w.params).In h₀) (T : Top p loose mean mg mb h₀) (hk : cs.kind = .function) (hne : fA ≠ sA) (hk30 : ks.length ≤ 30) (h0 : 0 ≤ turn ∧ turn ≤ 20) (hm : 1 ≤ many ∧ many ≤ 256) (hd : dp + 3 < recursionLimit) (hu : un + 8 * 3 < cLine)
    (ret : ∀ x t t' h' tk', Fr h₀ L h' m → News h₀ L h' (gf (listOf [.ref sA, .int (turn + 1) t].toArray nf)) → 0 ≤ x → x < many → Q (.int x t') { s with heap := h', toks := tk' }) :
    wpAny (model prog w) (ktrTop dp un gd cn cs L a ccd cl outer) (call (.ref 324) [.ref fA, .int many t₁]) Q E s := by
  obtain ⟨rest, P⟩ := pick_two mf ms hne
  refine spec_use (law_next_is hne hi hk30 h0 hm) B F X N T hk P (P.sep nd) hd hu ?_
  rintro _ _ h' tk' F' N' _ ⟨x, t, t', rfl, rfl, hx0, hx1⟩
  refine ret x t t' h' tk' F' (fun q hq => ?_) hx0 hx1
  rcases updF_of U _ q hq with rfl | ⟨hq, hqne⟩
  · exact N' _ (.head _)
  · rcases List.mem_append.mp (P.perm.mem_iff.mp hq) with h | h
    · rcases List.mem_cons.mp h with rfl | h
      · exact absurd rfl hqne
      · exact N' _ (List.mem_append_left _ (.tail _ h))
    · exact N' _ (List.mem_append_right _ h)
/-- a call that leaves the ledger and says True -/
theorem use_true {f : Addr} {vs : List Value} {x : Addr} {o : Obj} {gf : Obj → List (Addr × Obj)}
    (F : Fr h₀ L s.heap m) (N : News h₀ L s.heap lit) (U : UpdF x o lit gf) (C : Spec prog w f vs d [(x, o)] (fun need' r => need' = [(x, o)] ∧ r = .bool true)) (B : Below A₀ base outer h₀) (X : (hd.heap_1 w.params).In h₀) (T : Top p loose mean mg mb h₀) (hk : cs.kind = .function) (hd : dp + d < recursionLimit) (hu : un + 8 * d < cLine)
    (ret : ∀ h' tk', Fr h₀ L h' m → News h₀ L h' lit → Q (.bool true) { s with heap := h', toks := tk' }) :
    wpAny (model prog w) (ktrTop dp un gd cn cs L a ccd cl outer) (call (.ref f) vs) Q E s := by
  obtain ⟨rest, t, n, k⟩ := updF_pick U
  refine spec_use C B F X N T hk (.cons t .nil) (fun q hq p hp e => n q hq ?_) hd hu ?_
  · rw [List.mem_singleton.mp hp] at e; exact e.symm
  rintro _ _ h' tk' F' N' _ ⟨rfl, rfl⟩
  refine ret h' tk' F' (fun q hq => N' q (t.perm.mem_iff.mp hq))
end
end Mine
namespace Mine
theorem bytes_map {ks : List Int} {g : Int → Int} (h : ∀ k, 0 ≤ g k ∧ g k < 256) : Bytes (ks.map g) := by
  intro i
  rw [List.getD_eq_getElem?_getD, List.getElem?_map]
  cases ks[i]? with
  | none => simp
  | some k => exact h k
end Mine
end

section
namespace Mine
theorem fresh_NL : True ∧ True := by
  w_top off
  k_with_none
  first | (walk1 <;> trivial) | exact ⟨trivial, trivial⟩
end Mine
open PySem PySem.W PyProof.Rows PySem.Spec PySem.Calls
set_option Elab.async false
set_option maxRecDepth 100000
set_option maxHeartbeats 8000000
namespace Mine
set_option pp.maxSteps 20000
set_option pp.deepTerms false
set_option pp.deepTerms.threshold 4
local macro_rules | `(tactic| k_ne) => `(tactic| k_extra "ne")
local macro_rules | `(tactic| walk_at "call ref") => `(tactic| (k_here; k_extra "call ref"))
local macro_rules | `(tactic| walk_at "binaryOp Add int int") => `(tactic| (k_here; k_extra "binaryOp Add int int"))
local macro_rules | `(tactic| walk_at "binaryOp Sub int int") => `(tactic| (k_here; k_extra "binaryOp Sub int int"))
local macro_rules | `(tactic| walk_at "binaryOp Mult int int") => `(tactic| (k_here; k_extra "binaryOp Mult int int"))
local macro_rules | `(tactic| k_all) => `(tactic| k_extra "all")

set_option maxHeartbeats 20000000 in
set_option Elab.async true in
theorem law_holds : PySem.Challenge.rw_sa0633_01.Holds := by
  w_on
  o_law
  o_head (kHook hd.heap_1 [nat_lit 2, nat_lit 3, nat_lit 22, nat_lit 24, nat_lit 25, nat_lit 27, nat_lit 28, nat_lit 29, nat_lit 30, nat_lit 31, nat_lit 32, nat_lit 33, nat_lit 43, nat_lit 45, nat_lit 46, nat_lit 48, nat_lit 49, nat_lit 50, nat_lit 51, nat_lit 52, nat_lit 53, nat_lit 54, nat_lit 57, nat_lit 59, nat_lit 60, nat_lit 62, nat_lit 63, nat_lit 64, nat_lit 66, nat_lit 67, nat_lit 69, nat_lit 70, nat_lit 71, nat_lit 73, nat_lit 74, nat_lit 76, nat_lit 77, nat_lit 78, nat_lit 80, nat_lit 81, nat_lit 83, nat_lit 84, nat_lit 85, nat_lit 87, nat_lit 88, nat_lit 90, nat_lit 91, nat_lit 92, nat_lit 94, nat_lit 95, nat_lit 97, nat_lit 98, nat_lit 99, nat_lit 101, nat_lit 102, nat_lit 104, nat_lit 105, nat_lit 106, nat_lit 108, nat_lit 109, nat_lit 111, nat_lit 112, nat_lit 113, nat_lit 115, nat_lit 116, nat_lit 118, nat_lit 119, nat_lit 120, nat_lit 122, nat_lit 123, nat_lit 125, nat_lit 126, nat_lit 127, nat_lit 129, nat_lit 130, nat_lit 132, nat_lit 133, nat_lit 134, nat_lit 136, nat_lit 137, nat_lit 139, nat_lit 140, nat_lit 141, nat_lit 143, nat_lit 144, nat_lit 146, nat_lit 147, nat_lit 148, nat_lit 150, nat_lit 151, nat_lit 153, nat_lit 154, nat_lit 155, nat_lit 157, nat_lit 158, nat_lit 160, nat_lit 161, nat_lit 162, nat_lit 164, nat_lit 165, nat_lit 167, nat_lit 168, nat_lit 169, nat_lit 171, nat_lit 172, nat_lit 174, nat_lit 175, nat_lit 176, nat_lit 178, nat_lit 179, nat_lit 181, nat_lit 182, nat_lit 183, nat_lit 185, nat_lit 186, nat_lit 188, nat_lit 189, nat_lit 190, nat_lit 192, nat_lit 193, nat_lit 195, nat_lit 196, nat_lit 197, nat_lit 199, nat_lit 200, nat_lit 202, nat_lit 203, nat_lit 204, nat_lit 206, nat_lit 207, nat_lit 209, nat_lit 210, nat_lit 211, nat_lit 213, nat_lit 214, nat_lit 216, nat_lit 217, nat_lit 218, nat_lit 220, nat_lit 221, nat_lit 223, nat_lit 224, nat_lit 225, nat_lit 227, nat_lit 228, nat_lit 230, nat_lit 231, nat_lit 232, nat_lit 234, nat_lit 235, nat_lit 237, nat_lit 238, nat_lit 239, nat_lit 240, nat_lit 241, nat_lit 243, nat_lit 244, nat_lit 246, nat_lit 247, nat_lit 248, nat_lit 250, nat_lit 251, nat_lit 253, nat_lit 254, nat_lit 255, nat_lit 257, nat_lit 258, nat_lit 260, nat_lit 261, nat_lit 262, nat_lit 264, nat_lit 265, nat_lit 267, nat_lit 268, nat_lit 269, nat_lit 271, nat_lit 272, nat_lit 274, nat_lit 275, nat_lit 276, nat_lit 278, nat_lit 279, nat_lit 281, nat_lit 282, nat_lit 283, nat_lit 285, nat_lit 286, nat_lit 288, nat_lit 289, nat_lit 290, nat_lit 292, nat_lit 293, nat_lit 295, nat_lit 296, nat_lit 297, nat_lit 299, nat_lit 300, nat_lit 302, nat_lit 303, nat_lit 304, nat_lit 306, nat_lit 307, nat_lit 309, nat_lit 310, nat_lit 311, nat_lit 313, nat_lit 314, nat_lit 316, nat_lit 317, nat_lit 318, nat_lit 320, nat_lit 321, nat_lit 323, nat_lit 324, nat_lit 325, nat_lit 327, nat_lit 328, nat_lit 330, nat_lit 331, nat_lit 332, nat_lit 334, nat_lit 335, nat_lit 337, nat_lit 338, nat_lit 339, nat_lit 341, nat_lit 342, nat_lit 344, nat_lit 345, nat_lit 346, nat_lit 349, nat_lit 350, nat_lit 351, nat_lit 354, nat_lit 355, nat_lit 356, nat_lit 359, nat_lit 360] (fun _ => by kernel_rfl))
  case hw => w_witness2
  k_with_none
  k_with "ne" => (first | assumption | exact Ne.symm (by assumption) | (refine neN ?_; (try dsimp only); first | exact Nat.ne_of_lt (And.left (by with_reducible assumption)) | exact Nat.ne_of_lt (And.left (And.right (by with_reducible assumption))) | exact Nat.ne_of_lt (And.left (And.right (And.right (by with_reducible assumption)))) | exact Nat.ne_of_lt (And.left (And.right (And.right (And.right (by with_reducible assumption))))) | exact Nat.ne_of_lt (And.left (And.right (And.right (And.right (And.right (by with_reducible assumption)))))) | exact Nat.ne_of_lt (And.left (And.right (And.right (And.right (And.right (And.right (by with_reducible assumption))))))) | exact Nat.ne_of_lt (And.left (And.right (And.right (And.right (And.right (And.right (And.right (by with_reducible assumption)))))))) | exact Nat.ne_of_lt (And.left (And.right (And.right (And.right (And.right (And.right (And.right (And.right (by with_reducible assumption))))))))) | exact Nat.ne_of_lt (And.left (And.right (And.right (And.right (And.right (And.right (And.right (And.right (And.right (by with_reducible assumption)))))))))) | exact Nat.ne_of_lt (And.left (And.right (And.right (And.right (And.right (And.right (And.right (And.right (And.right (And.right (by with_reducible assumption))))))))))) | exact Nat.ne_of_lt (And.left (And.right (And.right (And.right (And.right (And.right (And.right (And.right (And.right (And.right (And.right (by with_reducible assumption)))))))))))) | exact Nat.ne_of_lt (And.left (And.right (And.right (And.right (And.right (And.right (And.right (And.right (And.right (And.right (And.right (And.right (by with_reducible assumption))))))))))))) | exact Nat.ne_of_lt (And.left (And.right (And.right (And.right (And.right (And.right (And.right (And.right (And.right (And.right (And.right (And.right (And.right (by with_reducible assumption)))))))))))))) | exact Nat.ne_of_lt (And.left (And.right (And.right (And.right (And.right (And.right (And.right (And.right (And.right (And.right (And.right (And.right (And.right (And.right (by with_reducible assumption))))))))))))))) | exact Nat.ne_of_lt (And.left (And.right (And.right (And.right (And.right (And.right (And.right (And.right (And.right (And.right (And.right (And.right (And.right (And.right (And.right (by with_reducible assumption)))))))))))))))) | exact Nat.ne_of_lt (by with_reducible assumption) | exact Nat.ne_of_lt (And.right (by with_reducible assumption)) | exact Nat.ne_of_lt (And.right (And.right (by with_reducible assumption))) | exact Nat.ne_of_lt (And.right (And.right (And.right (by with_reducible assumption)))) | exact Nat.ne_of_lt (And.right (And.right (And.right (And.right (by with_reducible assumption))))) | exact Nat.ne_of_lt (And.right (And.right (And.right (And.right (And.right (by with_reducible assumption)))))) | exact Nat.ne_of_lt (And.right (And.right (And.right (And.right (And.right (And.right (by with_reducible assumption))))))) | exact Nat.ne_of_lt (And.right (And.right (And.right (And.right (And.right (And.right (And.right (by with_reducible assumption)))))))) | exact Nat.ne_of_lt (And.right (And.right (And.right (And.right (And.right (And.right (And.right (And.right (by with_reducible assumption))))))))) | exact Nat.ne_of_lt (And.right (And.right (And.right (And.right (And.right (And.right (And.right (And.right (And.right (by with_reducible assumption)))))))))) | exact Nat.ne_of_lt (And.right (And.right (And.right (And.right (And.right (And.right (And.right (And.right (And.right (And.right (by with_reducible assumption))))))))))) | exact Nat.ne_of_lt (And.right (And.right (And.right (And.right (And.right (And.right (And.right (And.right (And.right (And.right (And.right (by with_reducible assumption)))))))))))) | exact Nat.ne_of_lt (And.right (And.right (And.right (And.right (And.right (And.right (And.right (And.right (And.right (And.right (And.right (And.right (by with_reducible assumption))))))))))))) | exact Nat.ne_of_lt (And.right (And.right (And.right (And.right (And.right (And.right (And.right (And.right (And.right (And.right (And.right (And.right (And.right (by with_reducible assumption)))))))))))))) | exact Nat.ne_of_lt (And.right (And.right (And.right (And.right (And.right (And.right (And.right (And.right (And.right (And.right (And.right (And.right (And.right (And.right (by with_reducible assumption))))))))))))))) | exact Nat.ne_of_gt (And.left (by with_reducible assumption)) | exact Nat.ne_of_gt (And.left (And.right (by with_reducible assumption))) | exact Nat.ne_of_gt (And.left (And.right (And.right (by with_reducible assumption)))) | exact Nat.ne_of_gt (And.left (And.right (And.right (And.right (by with_reducible assumption))))) | exact Nat.ne_of_gt (And.left (And.right (And.right (And.right (And.right (by with_reducible assumption)))))) | exact Nat.ne_of_gt (And.left (And.right (And.right (And.right (And.right (And.right (by with_reducible assumption))))))) | exact Nat.ne_of_gt (And.left (And.right (And.right (And.right (And.right (And.right (And.right (by with_reducible assumption)))))))) | exact Nat.ne_of_gt (And.left (And.right (And.right (And.right (And.right (And.right (And.right (And.right (by with_reducible assumption))))))))) | exact Nat.ne_of_gt (And.left (And.right (And.right (And.right (And.right (And.right (And.right (And.right (And.right (by with_reducible assumption)))))))))) | exact Nat.ne_of_gt (And.left (And.right (And.right (And.right (And.right (And.right (And.right (And.right (And.right (And.right (by with_reducible assumption))))))))))) | exact Nat.ne_of_gt (And.left (And.right (And.right (And.right (And.right (And.right (And.right (And.right (And.right (And.right (And.right (by with_reducible assumption)))))))))))) | exact Nat.ne_of_gt (And.left (And.right (And.right (And.right (And.right (And.right (And.right (And.right (And.right (And.right (And.right (And.right (by with_reducible assumption))))))))))))) | exact Nat.ne_of_gt (And.left (And.right (And.right (And.right (And.right (And.right (And.right (And.right (And.right (And.right (And.right (And.right (And.right (by with_reducible assumption)))))))))))))) | exact Nat.ne_of_gt (And.left (And.right (And.right (And.right (And.right (And.right (And.right (And.right (And.right (And.right (And.right (And.right (And.right (And.right (by with_reducible assumption))))))))))))))) | exact Nat.ne_of_gt (And.left (And.right (And.right (And.right (And.right (And.right (And.right (And.right (And.right (And.right (And.right (And.right (And.right (And.right (And.right (by with_reducible assumption)))))))))))))))) | exact Nat.ne_of_gt (by with_reducible assumption) | exact Nat.ne_of_gt (And.right (by with_reducible assumption)) | exact Nat.ne_of_gt (And.right (And.right (by with_reducible assumption))) | exact Nat.ne_of_gt (And.right (And.right (And.right (by with_reducible assumption)))) | exact Nat.ne_of_gt (And.right (And.right (And.right (And.right (by with_reducible assumption))))) | exact Nat.ne_of_gt (And.right (And.right (And.right (And.right (And.right (by with_reducible assumption)))))) | exact Nat.ne_of_gt (And.right (And.right (And.right (And.right (And.right (And.right (by with_reducible assumption))))))) | exact Nat.ne_of_gt (And.right (And.right (And.right (And.right (And.right (And.right (And.right (by with_reducible assumption)))))))) | exact Nat.ne_of_gt (And.right (And.right (And.right (And.right (And.right (And.right (And.right (And.right (by with_reducible assumption))))))))) | exact Nat.ne_of_gt (And.right (And.right (And.right (And.right (And.right (And.right (And.right (And.right (And.right (by with_reducible assumption)))))))))) | exact Nat.ne_of_gt (And.right (And.right (And.right (And.right (And.right (And.right (And.right (And.right (And.right (And.right (by with_reducible assumption))))))))))) | exact Nat.ne_of_gt (And.right (And.right (And.right (And.right (And.right (And.right (And.right (And.right (And.right (And.right (And.right (by with_reducible assumption)))))))))))) | exact Nat.ne_of_gt (And.right (And.right (And.right (And.right (And.right (And.right (And.right (And.right (And.right (And.right (And.right (And.right (by with_reducible assumption))))))))))))) | exact Nat.ne_of_gt (And.right (And.right (And.right (And.right (And.right (And.right (And.right (And.right (And.right (And.right (And.right (And.right (And.right (by with_reducible assumption)))))))))))))) | exact Nat.ne_of_gt (And.right (And.right (And.right (And.right (And.right (And.right (And.right (And.right (And.right (And.right (And.right (And.right (And.right (And.right (by with_reducible assumption))))))))))))))) | exact id (And.left (by with_reducible assumption)) | exact id (And.left (And.right (by with_reducible assumption))) | exact id (And.left (And.right (And.right (by with_reducible assumption)))) | exact id (And.left (And.right (And.right (And.right (by with_reducible assumption))))) | exact id (And.left (And.right (And.right (And.right (And.right (by with_reducible assumption)))))) | exact id (And.left (And.right (And.right (And.right (And.right (And.right (by with_reducible assumption))))))) | exact id (And.left (And.right (And.right (And.right (And.right (And.right (And.right (by with_reducible assumption)))))))) | exact id (And.left (And.right (And.right (And.right (And.right (And.right (And.right (And.right (by with_reducible assumption))))))))) | exact id (And.left (And.right (And.right (And.right (And.right (And.right (And.right (And.right (And.right (by with_reducible assumption)))))))))) | exact id (And.left (And.right (And.right (And.right (And.right (And.right (And.right (And.right (And.right (And.right (by with_reducible assumption))))))))))) | exact id (And.left (And.right (And.right (And.right (And.right (And.right (And.right (And.right (And.right (And.right (And.right (by with_reducible assumption)))))))))))) | exact id (And.left (And.right (And.right (And.right (And.right (And.right (And.right (And.right (And.right (And.right (And.right (And.right (by with_reducible assumption))))))))))))) | exact id (And.left (And.right (And.right (And.right (And.right (And.right (And.right (And.right (And.right (And.right (And.right (And.right (And.right (by with_reducible assumption)))))))))))))) | exact id (And.left (And.right (And.right (And.right (And.right (And.right (And.right (And.right (And.right (And.right (And.right (And.right (And.right (And.right (by with_reducible assumption))))))))))))))) | exact id (And.left (And.right (And.right (And.right (And.right (And.right (And.right (And.right (And.right (And.right (And.right (And.right (And.right (And.right (And.right (by with_reducible assumption)))))))))))))))) | exact id (by with_reducible assumption) | exact id (And.right (by with_reducible assumption)) | exact id (And.right (And.right (by with_reducible assumption))) | exact id (And.right (And.right (And.right (by with_reducible assumption)))) | exact id (And.right (And.right (And.right (And.right (by with_reducible assumption))))) | exact id (And.right (And.right (And.right (And.right (And.right (by with_reducible assumption)))))) | exact id (And.right (And.right (And.right (And.right (And.right (And.right (by with_reducible assumption))))))) | exact id (And.right (And.right (And.right (And.right (And.right (And.right (And.right (by with_reducible assumption)))))))) | exact id (And.right (And.right (And.right (And.right (And.right (And.right (And.right (And.right (by with_reducible assumption))))))))) | exact id (And.right (And.right (And.right (And.right (And.right (And.right (And.right (And.right (And.right (by with_reducible assumption)))))))))) | exact id (And.right (And.right (And.right (And.right (And.right (And.right (And.right (And.right (And.right (And.right (by with_reducible assumption))))))))))) | exact id (And.right (And.right (And.right (And.right (And.right (And.right (And.right (And.right (And.right (And.right (And.right (by with_reducible assumption)))))))))))) | exact id (And.right (And.right (And.right (And.right (And.right (And.right (And.right (And.right (And.right (And.right (And.right (And.right (by with_reducible assumption))))))))))))) | exact id (And.right (And.right (And.right (And.right (And.right (And.right (And.right (And.right (And.right (And.right (And.right (And.right (And.right (by with_reducible assumption)))))))))))))) | exact id (And.right (And.right (And.right (And.right (And.right (And.right (And.right (And.right (And.right (And.right (And.right (And.right (And.right (And.right (by with_reducible assumption))))))))))))))) | exact Ne.symm (And.left (by with_reducible assumption)) | exact Ne.symm (And.left (And.right (by with_reducible assumption))) | exact Ne.symm (And.left (And.right (And.right (by with_reducible assumption)))) | exact Ne.symm (And.left (And.right (And.right (And.right (by with_reducible assumption))))) | exact Ne.symm (And.left (And.right (And.right (And.right (And.right (by with_reducible assumption)))))) | exact Ne.symm (And.left (And.right (And.right (And.right (And.right (And.right (by with_reducible assumption))))))) | exact Ne.symm (And.left (And.right (And.right (And.right (And.right (And.right (And.right (by with_reducible assumption)))))))) | exact Ne.symm (And.left (And.right (And.right (And.right (And.right (And.right (And.right (And.right (by with_reducible assumption))))))))) | exact Ne.symm (And.left (And.right (And.right (And.right (And.right (And.right (And.right (And.right (And.right (by with_reducible assumption)))))))))) | exact Ne.symm (And.left (And.right (And.right (And.right (And.right (And.right (And.right (And.right (And.right (And.right (by with_reducible assumption))))))))))) | exact Ne.symm (And.left (And.right (And.right (And.right (And.right (And.right (And.right (And.right (And.right (And.right (And.right (by with_reducible assumption)))))))))))) | exact Ne.symm (And.left (And.right (And.right (And.right (And.right (And.right (And.right (And.right (And.right (And.right (And.right (And.right (by with_reducible assumption))))))))))))) | exact Ne.symm (And.left (And.right (And.right (And.right (And.right (And.right (And.right (And.right (And.right (And.right (And.right (And.right (And.right (by with_reducible assumption)))))))))))))) | exact Ne.symm (And.left (And.right (And.right (And.right (And.right (And.right (And.right (And.right (And.right (And.right (And.right (And.right (And.right (And.right (by with_reducible assumption))))))))))))))) | exact Ne.symm (And.left (And.right (And.right (And.right (And.right (And.right (And.right (And.right (And.right (And.right (And.right (And.right (And.right (And.right (And.right (by with_reducible assumption)))))))))))))))) | exact Ne.symm (by with_reducible assumption) | exact Ne.symm (And.right (by with_reducible assumption)) | exact Ne.symm (And.right (And.right (by with_reducible assumption))) | exact Ne.symm (And.right (And.right (And.right (by with_reducible assumption)))) | exact Ne.symm (And.right (And.right (And.right (And.right (by with_reducible assumption))))) | exact Ne.symm (And.right (And.right (And.right (And.right (And.right (by with_reducible assumption)))))) | exact Ne.symm (And.right (And.right (And.right (And.right (And.right (And.right (by with_reducible assumption))))))) | exact Ne.symm (And.right (And.right (And.right (And.right (And.right (And.right (And.right (by with_reducible assumption)))))))) | exact Ne.symm (And.right (And.right (And.right (And.right (And.right (And.right (And.right (And.right (by with_reducible assumption))))))))) | exact Ne.symm (And.right (And.right (And.right (And.right (And.right (And.right (And.right (And.right (And.right (by with_reducible assumption)))))))))) | exact Ne.symm (And.right (And.right (And.right (And.right (And.right (And.right (And.right (And.right (And.right (And.right (by with_reducible assumption))))))))))) | exact Ne.symm (And.right (And.right (And.right (And.right (And.right (And.right (And.right (And.right (And.right (And.right (And.right (by with_reducible assumption)))))))))))) | exact Ne.symm (And.right (And.right (And.right (And.right (And.right (And.right (And.right (And.right (And.right (And.right (And.right (And.right (by with_reducible assumption))))))))))))) | exact Ne.symm (And.right (And.right (And.right (And.right (And.right (And.right (And.right (And.right (And.right (And.right (And.right (And.right (And.right (by with_reducible assumption)))))))))))))) | exact Ne.symm (And.right (And.right (And.right (And.right (And.right (And.right (And.right (And.right (And.right (And.right (And.right (And.right (And.right (And.right (by with_reducible assumption))))))))))))))) | exact id (And.left (And.left (by with_reducible assumption))) | exact id (And.left (And.right (And.left (by with_reducible assumption)))) | exact id (And.right (And.right (And.left (by with_reducible assumption)))) | exact id (And.left (And.left (And.right (by with_reducible assumption)))) | exact id (And.left (And.right (And.left (And.right (by with_reducible assumption))))) | exact id (And.right (And.right (And.left (And.right (by with_reducible assumption))))) | exact id (And.left (And.left (And.right (And.right (by with_reducible assumption))))) | exact id (And.left (And.right (And.left (And.right (And.right (by with_reducible assumption)))))) | exact id (And.right (And.right (And.left (And.right (And.right (by with_reducible assumption)))))) | exact id (And.left (And.left (And.right (And.right (And.right (by with_reducible assumption)))))) | exact id (And.left (And.right (And.left (And.right (And.right (And.right (by with_reducible assumption))))))) | exact id (And.right (And.right (And.left (And.right (And.right (And.right (by with_reducible assumption))))))) | exact id (And.left (And.left (And.right (And.right (And.right (And.right (by with_reducible assumption))))))) | exact id (And.left (And.right (And.left (And.right (And.right (And.right (And.right (by with_reducible assumption)))))))) | exact id (And.right (And.right (And.left (And.right (And.right (And.right (And.right (by with_reducible assumption)))))))) | exact id (And.left (And.left (And.right (And.right (And.right (And.right (And.right (by with_reducible assumption)))))))) | exact id (And.left (And.right (And.left (And.right (And.right (And.right (And.right (And.right (by with_reducible assumption))))))))) | exact id (And.right (And.right (And.left (And.right (And.right (And.right (And.right (And.right (by with_reducible assumption))))))))) | exact id (And.left (And.left (And.right (And.right (And.right (And.right (And.right (And.right (by with_reducible assumption))))))))) | exact id (And.left (And.right (And.left (And.right (And.right (And.right (And.right (And.right (And.right (by with_reducible assumption)))))))))) | exact id (And.right (And.right (And.left (And.right (And.right (And.right (And.right (And.right (And.right (by with_reducible assumption)))))))))) | exact id (And.left (And.left (And.right (And.right (And.right (And.right (And.right (And.right (And.right (by with_reducible assumption)))))))))) | exact id (And.left (And.right (And.left (And.right (And.right (And.right (And.right (And.right (And.right (And.right (by with_reducible assumption))))))))))) | exact id (And.right (And.right (And.left (And.right (And.right (And.right (And.right (And.right (And.right (And.right (by with_reducible assumption))))))))))) | exact id (And.left (And.left (And.right (And.right (And.right (And.right (And.right (And.right (And.right (And.right (by with_reducible assumption))))))))))) | exact id (And.left (And.right (And.left (And.right (And.right (And.right (And.right (And.right (And.right (And.right (And.right (by with_reducible assumption)))))))))))) | exact id (And.right (And.right (And.left (And.right (And.right (And.right (And.right (And.right (And.right (And.right (And.right (by with_reducible assumption)))))))))))) | exact id (And.left (And.left (And.right (And.right (And.right (And.right (And.right (And.right (And.right (And.right (And.right (by with_reducible assumption)))))))))))) | exact id (And.left (And.right (And.left (And.right (And.right (And.right (And.right (And.right (And.right (And.right (And.right (And.right (by with_reducible assumption))))))))))))) | exact id (And.right (And.right (And.left (And.right (And.right (And.right (And.right (And.right (And.right (And.right (And.right (And.right (by with_reducible assumption))))))))))))) | exact id (And.left (And.left (And.right (And.right (And.right (And.right (And.right (And.right (And.right (And.right (And.right (And.right (by with_reducible assumption))))))))))))) | exact id (And.left (And.right (And.left (And.right (And.right (And.right (And.right (And.right (And.right (And.right (And.right (And.right (And.right (by with_reducible assumption)))))))))))))) | exact id (And.right (And.right (And.left (And.right (And.right (And.right (And.right (And.right (And.right (And.right (And.right (And.right (And.right (by with_reducible assumption)))))))))))))) | exact id (And.left (And.left (And.right (And.right (And.right (And.right (And.right (And.right (And.right (And.right (And.right (And.right (And.right (by with_reducible assumption)))))))))))))) | exact id (And.left (And.right (And.left (And.right (And.right (And.right (And.right (And.right (And.right (And.right (And.right (And.right (And.right (And.right (by with_reducible assumption))))))))))))))) | exact id (And.right (And.right (And.left (And.right (And.right (And.right (And.right (And.right (And.right (And.right (And.right (And.right (And.right (And.right (by with_reducible assumption))))))))))))))) | exact Ne.symm (And.left (And.left (by with_reducible assumption))) | exact Ne.symm (And.left (And.right (And.left (by with_reducible assumption)))) | exact Ne.symm (And.right (And.right (And.left (by with_reducible assumption)))) | exact Ne.symm (And.left (And.left (And.right (by with_reducible assumption)))) | exact Ne.symm (And.left (And.right (And.left (And.right (by with_reducible assumption))))) | exact Ne.symm (And.right (And.right (And.left (And.right (by with_reducible assumption))))) | exact Ne.symm (And.left (And.left (And.right (And.right (by with_reducible assumption))))) | exact Ne.symm (And.left (And.right (And.left (And.right (And.right (by with_reducible assumption)))))) | exact Ne.symm (And.right (And.right (And.left (And.right (And.right (by with_reducible assumption)))))) | exact Ne.symm (And.left (And.left (And.right (And.right (And.right (by with_reducible assumption)))))) | exact Ne.symm (And.left (And.right (And.left (And.right (And.right (And.right (by with_reducible assumption))))))) | exact Ne.symm (And.right (And.right (And.left (And.right (And.right (And.right (by with_reducible assumption))))))) | exact Ne.symm (And.left (And.left (And.right (And.right (And.right (And.right (by with_reducible assumption))))))) | exact Ne.symm (And.left (And.right (And.left (And.right (And.right (And.right (And.right (by with_reducible assumption)))))))) | exact Ne.symm (And.right (And.right (And.left (And.right (And.right (And.right (And.right (by with_reducible assumption)))))))) | exact Ne.symm (And.left (And.left (And.right (And.right (And.right (And.right (And.right (by with_reducible assumption)))))))) | exact Ne.symm (And.left (And.right (And.left (And.right (And.right (And.right (And.right (And.right (by with_reducible assumption))))))))) | exact Ne.symm (And.right (And.right (And.left (And.right (And.right (And.right (And.right (And.right (by with_reducible assumption))))))))) | exact Ne.symm (And.left (And.left (And.right (And.right (And.right (And.right (And.right (And.right (by with_reducible assumption))))))))) | exact Ne.symm (And.left (And.right (And.left (And.right (And.right (And.right (And.right (And.right (And.right (by with_reducible assumption)))))))))) | exact Ne.symm (And.right (And.right (And.left (And.right (And.right (And.right (And.right (And.right (And.right (by with_reducible assumption)))))))))) | exact Ne.symm (And.left (And.left (And.right (And.right (And.right (And.right (And.right (And.right (And.right (by with_reducible assumption)))))))))) | exact Ne.symm (And.left (And.right (And.left (And.right (And.right (And.right (And.right (And.right (And.right (And.right (by with_reducible assumption))))))))))) | exact Ne.symm (And.right (And.right (And.left (And.right (And.right (And.right (And.right (And.right (And.right (And.right (by with_reducible assumption))))))))))) | exact Ne.symm (And.left (And.left (And.right (And.right (And.right (And.right (And.right (And.right (And.right (And.right (by with_reducible assumption))))))))))) | exact Ne.symm (And.left (And.right (And.left (And.right (And.right (And.right (And.right (And.right (And.right (And.right (And.right (by with_reducible assumption)))))))))))) | exact Ne.symm (And.right (And.right (And.left (And.right (And.right (And.right (And.right (And.right (And.right (And.right (And.right (by with_reducible assumption)))))))))))) | exact Ne.symm (And.left (And.left (And.right (And.right (And.right (And.right (And.right (And.right (And.right (And.right (And.right (by with_reducible assumption)))))))))))) | exact Ne.symm (And.left (And.right (And.left (And.right (And.right (And.right (And.right (And.right (And.right (And.right (And.right (And.right (by with_reducible assumption))))))))))))) | exact Ne.symm (And.right (And.right (And.left (And.right (And.right (And.right (And.right (And.right (And.right (And.right (And.right (And.right (by with_reducible assumption))))))))))))) | exact Ne.symm (And.left (And.left (And.right (And.right (And.right (And.right (And.right (And.right (And.right (And.right (And.right (And.right (by with_reducible assumption))))))))))))) | exact Ne.symm (And.left (And.right (And.left (And.right (And.right (And.right (And.right (And.right (And.right (And.right (And.right (And.right (And.right (by with_reducible assumption)))))))))))))) | exact Ne.symm (And.right (And.right (And.left (And.right (And.right (And.right (And.right (And.right (And.right (And.right (And.right (And.right (And.right (by with_reducible assumption)))))))))))))) | exact Ne.symm (And.left (And.left (And.right (And.right (And.right (And.right (And.right (And.right (And.right (And.right (And.right (And.right (And.right (by with_reducible assumption)))))))))))))) | exact Ne.symm (And.left (And.right (And.left (And.right (And.right (And.right (And.right (And.right (And.right (And.right (And.right (And.right (And.right (And.right (by with_reducible assumption))))))))))))))) | exact Ne.symm (And.right (And.right (And.left (And.right (And.right (And.right (And.right (And.right (And.right (And.right (And.right (And.right (And.right (And.right (by with_reducible assumption))))))))))))))) | omega))
  k_with "all" => (repeat' (first | exact List.forall_mem_nil _ | assumption | (refine' List.forall_mem_cons.mpr ⟨?_, ?_⟩) | k_ne))
  k_with "call ref" => ((with_reducible show wpAny _ _ (call (Value.ref 324) _ _) _ _ _); k_dflt (refine next_use (by k_asm) (by k_asm) (by k_mem) (by k_mem) (by assumption) (by k_updF) (by repeat' (first | exact nd_one | (refine nd_lt ?_ (by assumption)) | (refine nd_ne ?_ (by assumption)))) (by k_asm) (by k_asm) (by k_asm) (by exact rfl) (by k_ne) (by omega) (by omega) (by omega) (by first | decide | omega | exact Nat.le_of_ble_eq_true rfl) (by first | decide | omega | exact Nat.le_of_ble_eq_true rfl) ?_); intro x9 t9 u9 h9 tk9 F9 N9 hx0 hx1; (try dsimp only at N9); (try dsimp only); (try k_sweep); (try k_fold))
  k_with "call ref" => ((with_reducible show wpAny _ _ (call (Value.ref 345) _ _) _ _ _); k_dflt (refine use_true (by k_asm) (by k_asm) (by k_updF) (copied_is (by assumption) (by assumption) (by assumption) (by assumption) (by rw [List.length_map, rangeKs_length]; first | rfl | decide) (bytes_map fun k => fmod_in _ _ (by decide)) (by omega) (by omega) (by omega) (by omega)) (by k_asm) (by k_asm) (by k_asm) (by exact rfl) (by first | decide | omega | exact Nat.le_of_ble_eq_true rfl) (by first | decide | omega | exact Nat.le_of_ble_eq_true rfl) ?_); intro h9 tk9 F9 N9; (try dsimp only); (try k_sweep); (try k_fold))
  k_with "call ref" => ((with_reducible show wpAny _ _ (call (Value.ref 350) _ _) _ _ _); k_dflt (refine use_true (by k_asm) (by k_asm) (by k_updF) (sought_is (by assumption) (by assumption) (by assumption) (by assumption) (by rw [List.length_map, rangeKs_length]; first | rfl | decide) (bytes_map fun k => fmod_in _ _ (by decide)) (by omega) (fmod_in _ _ (by decide)) (by omega) (by omega)) (by k_asm) (by k_asm) (by k_asm) (by exact rfl) (by first | decide | omega | exact Nat.le_of_ble_eq_true rfl) (by first | decide | omega | exact Nat.le_of_ble_eq_true rfl) ?_); intro h9 tk9 F9 N9; (try dsimp only); (try k_sweep); (try k_fold))
  k_with "call ref" => ((with_reducible show wpAny _ _ (call (Value.ref 355) _ _) _ _ _); k_dflt (refine use_true (by k_asm) (by k_asm) (by k_updF) (carried_is (by assumption) (by assumption) (by assumption) (by assumption) (by rw [List.length_map, rangeKs_length]; first | rfl | decide) (bytes_map fun k => fmod_in _ _ (by decide)) (by omega) (by omega) (by omega) (by omega) ⟨by assumption, by assumption⟩) (by k_asm) (by k_asm) (by k_asm) (by exact rfl) (by first | decide | omega | exact Nat.le_of_ble_eq_true rfl) (by first | decide | omega | exact Nat.le_of_ble_eq_true rfl) ?_); intro h9 tk9 F9 N9; (try dsimp only); (try k_sweep); (try k_fold))
  k_with "binaryOp Add int int" => (refine add_many (by assumption) (by assumption) ?_; intro n9 hn0 hn1)
  k_with "binaryOp Sub int int" => (refine sub_two (by assumption) (by assumption) ?_; intro x9 hx9)
  k_with "binaryOp Mult int int" => (refine mul_sx (by assumption) (by assumption) (by omega) ?_; intro y9 hy9)
  k_go0
  (all_goals try k_fold)
  k_steps
end Mine
end

open PySem PySem.W PyProof.Rows
theorem PySem.Challenge.cw_sa0633_01_holds : PySem.Challenge.rw_sa0633_01.Holds :=
  Mine.law_holds
